import PyProof.Rows.All
import Wide.All
import OpenK.AllK
import Wide.FinOn
import HandS.ForMost
import HandS.Wide
import HandS.WideBits
import HandS.IsInst
import HandS.Style
import HandS.ForExc
import HandS.New0
import HandS.ExcInit
import HandS.ExcIs
import HandS.ClsMeth
import HandS.NoneIn
import HandS.Conv
import HandS.SortKw
import KE.DataMinMax
import HandS.SetFor
import HandS.Strs
import HandS.SortInts
import KE.IntBitsLaws
import PySem.Challenge.RW_overwise_k30_words_that_are_shown
set_option Elab.async false
set_option linter.all false
set_option maxRecDepth 100000
set_option maxHeartbeats 20000000
/-! ### own rules and steps -/
namespace Ow
open PySem L2
section
variable {Q : VK} {H H' : Hp} {A B : Prop}
theorem gi {e : Int} (h : ∀ x, x = e → Q (.int x) H) : Q (.int e) H := h e rfl
theorem gl {e n : Int} (h : e = n) (q : Q (.int n) H) : Q (.int e) H := h ▸ q
theorem gs {e n : Str} (h : e = n) (q : Q (.str n) H) : Q (.str e) H := h ▸ q
theorem cc {v : V} {σ : L2.St} (h : Q v H) : tC v σ H Q := h
theorem p2 (k : Nat) : (0 : Int) < 2 ^ k := Int.pow_pos (by decide)
theorem gpow {k : Nat} (h : ∀ x, x = (2 : Int) ^ k → 0 < x → Q (.int x) H) : Q (.int (1 * 2 ^ k)) H := by
  rw [Int.one_mul]; exact h _ rfl (p2 k)
theorem gmod {i j : Int} (hj : 0 < j) (h : ∀ x, x = i % j → 0 ≤ x → x < j → Q (.int x) H) : Q (.int (i % j)) H :=
  h _ rfl (Int.emod_nonneg _ (by omega)) (Int.emod_lt_of_pos _ hj)
theorem gmax {i j : Int} (h : ∀ x, (i ≤ x ∧ j ≤ x ∧ (x = i ∨ x = j)) → Q (.int x) H) : Q (.int (if j > i then j else i)) H := by
  apply h; split <;> omega
theorem gmin {i j : Int} (h : ∀ x, (x ≤ i ∧ x ≤ j ∧ (x = i ∨ x = j)) → Q (.int x) H) : Q (.int (if j < i then j else i)) H := by
  apply h; split <;> omega
theorem max_ite {x i j : Int} (h : x = if j > i then j else i) : i ≤ x ∧ j ≤ x ∧ (x = i ∨ x = j) := by split at h <;> omega
theorem min_ite {x i j : Int} (h : x = if j < i then j else i) : x ≤ i ∧ x ≤ j ∧ (x = i ∨ x = j) := by split at h <;> omega
theorem abs_ite {x i : Int} (h : x = if i < 0 then -i else i) : (0 ≤ i ∧ x = i) ∨ (i < 0 ∧ x = -i) := by split at h <;> omega
theorem eqi {a b : Int} (h : a = b) (q : Q (.int b) H) : Q (.int a) H := h ▸ q
theorem eqb {a b : Bool} (h : a = b) (q : Q (.bl b) H) : Q (.bl a) H := h ▸ q
theorem eqd {P : Prop} [Decidable P] (h : P) (q : Q (.bl true) H) : Q (.bl (decide P)) H := by rw [decide_eq_true h]; exact q
theorem eqnd {P : Prop} [Decidable P] (h : ¬ P) (q : Q (.bl true) H) : Q (.bl (!decide P)) H := by rw [decide_eq_false h]; exact q
theorem eqeqi {i j : Int} (h : i = j) (q : Q (.bl true) H) : Q (.bl (decide (V.int i = V.int j))) H := by rw [decide_eq_true (by rw [h])]; exact q
theorem eqnei {i j : Int} (h : i ≠ j) (q : Q (.bl true) H) : Q (.bl (!decide (V.int i = V.int j))) H := by
  rw [decide_eq_false (fun z => h (V.int.inj z))]; exact q
theorem ginteq {i j : Int} (h : ∀ n : Int, ((n = 1 ∧ i = j) ∨ (n = 0 ∧ i ≠ j)) → Q (.int n) H) : Q (.int (if decide (V.int i = V.int j) = true then 1 else 0)) H := by
  by_cases e : i = j
  · rw [if_pos (decide_eq_true (by rw [e]))]; exact h _ (.inl ⟨rfl, e⟩)
  · rw [if_neg (fun z => e (V.int.inj (of_decide_eq_true z)))]; exact h _ (.inr ⟨rfl, e⟩)
theorem gintd {P : Prop} [Decidable P] (h : ∀ n : Int, ((n = 1 ∧ P) ∨ (n = 0 ∧ ¬ P)) → Q (.int n) H) : Q (.int (if decide P = true then 1 else 0)) H := by
  by_cases e : P
  · rw [if_pos (decide_eq_true e)]; exact h _ (.inl ⟨rfl, e⟩)
  · rw [if_neg (fun z => e (of_decide_eq_true z))]; exact h _ (.inr ⟨rfl, e⟩)
theorem ifb {b : Bool} (h1 : b = true → A) (h2 : b = false → B) : if b = true then A else B := by
  cases b
  · exact iteF (h2 rfl)
  · exact iteT (h1 rfl)
/-- None or an int -/
def _root_.L2.V.ov : Option Int → V
  | none => .non
  | some r => .int r
theorem ov_inj : ∀ {a b : Option Int}, V.ov a = V.ov b → a = b
  | none, none, _ => rfl
  | none, some r, h => V.noConfusion h
  | some r, none, h => V.noConfusion h
  | some r, some s, h => by rw [V.int.inj h]
theorem scal_ov : ∀ {a b : Option Int}, scal (V.ov a) (V.ov b) = true
  | none, none => rfl
  | none, some r => rfl
  | some r, none => rfl
  | some r, some s => rfl
theorem ifeqo {a b : Option Int} (h1 : a = b → A) (h2 : a ≠ b → B) : if decide (V.ov a = V.ov b) = true then A else B := by
  by_cases e : a = b
  · rw [if_pos (decide_eq_true (by rw [e]))]; exact h1 e
  · rw [if_neg (fun z => e (ov_inj (of_decide_eq_true z)))]; exact h2 e
theorem ifneo {a b : Option Int} (h1 : a ≠ b → A) (h2 : a = b → B) : if (!decide (V.ov a = V.ov b)) = true then A else B := by
  by_cases e : a = b
  · rw [decide_eq_true (show V.ov a = V.ov b by rw [e])]; exact iteF (h2 e)
  · rw [decide_eq_false (fun z => e (ov_inj z))]; exact iteT (h1 e)
theorem eqeqo {a b : Option Int} (h : a = b) (q : Q (.bl true) H) : Q (.bl (decide (V.ov a = V.ov b))) H := by rw [decide_eq_true (by rw [h])]; exact q
theorem ifnb {b : Bool} (h1 : b = false → A) (h2 : b = true → B) : if (!b) = true then A else B := by
  cases b
  · exact iteT (h1 rfl)
  · exact iteF (h2 rfl)
theorem ifd {P : Prop} [Decidable P] (h1 : P → A) (h2 : ¬ P → B) : if decide P = true then A else B := by
  by_cases e : P
  · rw [if_pos (decide_eq_true e)]; exact h1 e
  · rw [if_neg (fun z => e (of_decide_eq_true z))]; exact h2 e
theorem ifnd {P : Prop} [Decidable P] (h1 : ¬ P → A) (h2 : P → B) : if (!decide P) = true then A else B := by
  by_cases e : P
  · rw [decide_eq_true e]; exact iteF (h2 e)
  · rw [decide_eq_false e]; exact iteT (h1 e)
theorem ifeqi {i j : Int} (h1 : i = j → A) (h2 : i ≠ j → B) : if decide (V.int i = V.int j) = true then A else B :=
  ifd (fun e => h1 (V.int.inj e)) (fun e => h2 (fun z => e (by rw [z])))
theorem ifnei {i j : Int} (h1 : i ≠ j → A) (h2 : i = j → B) : if (!decide (V.int i = V.int j)) = true then A else B :=
  ifnd (fun e => h1 (fun z => e (by rw [z]))) (fun e => h2 (V.int.inj e))
theorem ifeqs {i j : Str} (h1 : i = j → A) (h2 : i ≠ j → B) : if decide (V.str i = V.str j) = true then A else B :=
  ifd (fun e => h1 (V.str.inj e)) (fun e => h2 (fun z => e (by rw [z])))
theorem ifnes {i j : Str} (h1 : i ≠ j → A) (h2 : i = j → B) : if (!decide (V.str i = V.str j)) = true then A else B :=
  ifnd (fun e => h1 (fun z => e (by rw [z]))) (fun e => h2 (V.str.inj e))
theorem ifeqb {a b : Bool} (h1 : (a = true ↔ b = true) → A) (h2 : ¬ (a = true ↔ b = true) → B) : if decide (V.bl a = V.bl b) = true then A else B :=
  ifd (fun e => h1 (by rw [V.bl.inj e])) (fun e => h2 (fun z => e (by rw [Bool.eq_iff_iff.mpr z])))
theorem ifneb {a b : Bool} (h1 : ¬ (a = true ↔ b = true) → A) (h2 : (a = true ↔ b = true) → B) : if (!decide (V.bl a = V.bl b)) = true then A else B :=
  ifnd (fun e => h1 (fun z => e (by rw [Bool.eq_iff_iff.mpr z]))) (fun e => h2 (by rw [V.bl.inj e]))
/-! heaps -/
theorem at_new {p q : Addr} {u o : HO} (hp : H p = none) (h : H q = some o) : upd H p u q = some o := by rw [upd_ne (ne_of_none h hp)]; exact h
theorem at_mut {b q : Addr} {u o : HO} (hn : q ≠ b) (h : H q = some o) : upd H b u q = some o := by rw [upd_ne hn]; exact h
theorem ne_tl {p b : Addr} {xs ys : List V} (h : H p = some (.tup xs)) (hb : H b = some (.lst ys)) : p ≠ b := fun e => by rw [e, hb] at h; cases h
theorem at_mutT {b p : Addr} {u : HO} {xs ys : List V} (hb : H b = some (.lst ys)) (h : H p = some (.tup xs)) : upd H b u p = some (.tup xs) := at_mut (ne_tl h hb) h
theorem at_mutL {b p : Addr} {u : HO} {xs ys : List V} (hb : H b = some (.tup ys)) (h : H p = some (.lst xs)) : upd H b u p = some (.lst xs) := at_mut (fun e => ne_tl hb h e.symm) h
theorem same_new {p : Addr} {u : HO} (hp : H p = none) : Same H (upd H p u) := fun _ _ h => at_new hp h
theorem same_mut {b : Addr} {u : HO} (s : Same H H') (hb : H b = none) : Same H (upd H' b u) := fun q o h => by rw [upd_ne (ne_of_none h hb)]; exact s q o h
theorem ne_sym {a b : Addr} (h : a ≠ b) : b ≠ a := fun z => h z.symm
theorem seq {K : PySem.W.Frag} {a : Addr} {xs : List V} (e : Same H H') (h : SqL K H a xs) : SqL K H' a xs := e.seq h
theorem seqT {K : PySem.W.Frag} {a : Addr} {xs : List V} (e : Same H H') (h : SqT K H a xs) : SqT K H' a xs := by
  rcases h with (h | ⟨o, h⟩) | h
  · exact .inl (.inl (e _ _ h))
  · exact .inl (.inr ⟨o, e _ _ h⟩)
  · exact .inr h
end
/-! operators -/
section
variable {X : Cx}
/-- named answers -/
theorem op_mulN : OpR X (binaryOp .Mult) (fun x y H Q => ∃ i j, x = .int i ∧ y = .int j ∧ (CMul i j ∨ CMulX i j) ∧ ∀ z, z = i * j → Q (.int z) H) := by
  intro pins s σ H x y v u Q I rx ry q
  obtain ⟨i, j, rfl, rfl, hc | hc, q⟩ := q
  · exact op_mul pins s σ H _ _ v u Q I rx ry ⟨i, j, rfl, rfl, hc, q _ rfl⟩
  · exact op_mulX pins s σ H _ _ v u Q I rx ry ⟨i, j, rfl, rfl, hc, q _ rfl⟩
theorem op_divN : OpR X (binaryOp .FloorDiv) (fun x y H Q => ∃ i j, x = .int i ∧ y = .int j ∧ CDivW i j ∧ ∀ z, z = i / j → Q (.int z) H) := by
  intro pins s σ H x y v u Q I rx ry q
  obtain ⟨i, j, rfl, rfl, hc, q⟩ := q
  exact op_fdivW pins s σ H _ _ v u Q I rx ry ⟨i, j, rfl, rfl, hc, q _ rfl⟩
theorem op_divF : OpR X (binaryOp .FloorDiv) (fun x y H Q => ∃ i j, x = .int i ∧ y = .int j ∧ (j ≠ 0 ∧ j.natAbs.log2 < 9000) ∧ ∀ z, z = i.fdiv j → Q (.int z) H) := by
  intro pins s σ H x y v u Q I rx ry q
  obtain ⟨i, j, rfl, rfl, hc, q⟩ := q
  obtain ⟨t, rfl⟩ := rx
  obtain ⟨t', rfl⟩ := ry
  exact PyProof.Rows.floordiv_int hc.1 ⟨.int (i.fdiv j), H, I.tok _, ⟨_, rfl⟩, q _ rfl⟩ (.inl (PyProof.noPylong_of_log2 hc.2))
theorem op_shlN : OpR X (binaryOp .LShift) (fun x y H Q => ∃ i j, x = .int i ∧ y = .int j ∧ (CPow i j ∨ CShl i j) ∧ ∀ z, z = i * 2 ^ j.toNat → Q (.int z) H) := by
  intro pins s σ H x y v u Q I rx ry q
  obtain ⟨i, j, rfl, rfl, hc | hc, q⟩ := q
  · exact op_shl pins s σ H _ _ v u Q I rx ry ⟨i, j, rfl, rfl, hc, q _ rfl⟩
  · exact op_shlW pins s σ H _ _ v u Q I rx ry ⟨i, j, rfl, rfl, hc, q _ rfl⟩
theorem op_shrN : OpR X (binaryOp .RShift) (fun x y H Q => ∃ i j, x = .int i ∧ y = .int j ∧ 0 ≤ j ∧ ∀ z, z = i / 2 ^ j.toNat → Q (.int z) H) := by
  intro pins s σ H x y v u Q I rx ry q
  obtain ⟨i, j, rfl, rfl, hc, q⟩ := q
  exact op_shr pins s σ H _ _ v u Q I rx ry ⟨i, j, rfl, rfl, hc, q _ rfl⟩
theorem op_modN : OpR X (binaryOp .Mod) (fun x y H Q => ∃ i j, x = .int i ∧ y = .int j ∧ 0 < j ∧ ∀ z, z = i % j → 0 ≤ z → z < j → Q (.int z) H) := by
  intro pins s σ H x y v u Q I rx ry q
  obtain ⟨i, j, rfl, rfl, hc, q⟩ := q
  exact op_mod pins s σ H _ _ v u Q I rx ry ⟨i, j, rfl, rfl, hc, q _ rfl (Int.emod_nonneg _ (by omega)) (Int.emod_lt_of_pos _ hc)⟩
theorem op_shl1 : OpR X (binaryOp .LShift) (fun x y H Q => ∃ j, x = .int 1 ∧ y = .int j ∧ (0 ≤ j ∧ j ≤ 1000000) ∧ ∀ z, z = 2 ^ j.toNat → 0 < z → Q (.int z) H) := by
  intro pins s σ H x y v u Q I rx ry q
  obtain ⟨j, rfl, rfl, ⟨h0, h1⟩, q⟩ := q
  refine op_shl pins s σ H _ _ v u Q I rx ry ⟨1, j, rfl, rfl, ⟨h0, h1, by decide⟩, ?_⟩
  show Q (.int (1 * 2 ^ j.toNat)) H
  rw [Int.one_mul]
  exact q _ rfl (p2 _)
theorem op_mask : OpR X (binaryOp .BitAnd) (fun x y H Q => ∃ (i j : Int) (k : Nat), x = .int i ∧ y = .int j ∧ j = 2 ^ k - 1 ∧ ∀ r, r = i % 2 ^ k → 0 ≤ r → r < 2 ^ k → Q (.int r) H) := by
  intro pins s σ H x y v u Q I rx ry h
  obtain ⟨i, j, k, rfl, rfl, rfl, q⟩ := h
  refine op_andM pins s σ H _ _ v u Q I rx ry ⟨i, k, rfl, rfl, q _ rfl (Int.emod_nonneg _ ?_) (Int.emod_lt_of_pos _ (p2 k))⟩
  have := p2 k; omega
theorem op_bor : OpR X (binaryOp .BitOr) (fun x y H Q => ∃ (i j : Int), x = .int i ∧ y = .int j ∧ 0 ≤ i ∧ 0 ≤ j ∧ ∀ r, r = Builtin.bitOr i j → 0 ≤ r → Q (.int r) H) := by
  intro pins s σ H x y v u Q I rx ry h
  obtain ⟨i, j, rfl, rfl, h0, h1, q⟩ := h
  refine op_or pins s σ H _ _ v u Q I rx ry ⟨i, j, rfl, rfl, q _ rfl ?_⟩
  rw [bitOr_nn h0 h1]
  exact Int.natCast_nonneg _
theorem call_dm : CallR X (.builtin "divmod") (fun xs H Q => ∃ i j, xs = [.int i, .int j] ∧ CDivP i j ∧ ∀ q r p, q = i / j → r = i % j → 0 ≤ r → r < j → H p = none → Q (.ref p) (upd H p (.tup [.int q, .int r]))) := by
  intro pins s σ H xs us Q I r h
  obtain ⟨i, j, rfl, hc, q⟩ := h
  exact call_divmodW pins s σ H _ us Q I r ⟨i, j, rfl, hc, fun p hp => q _ _ p rfl rfl (Int.emod_nonneg _ (by have := hc.1; omega)) (Int.emod_lt_of_pos _ hc.1) hp⟩
theorem call_intb : CallR X (.type "int") (fun xs H Q => ∃ k, xs = [.bl k] ∧ ∀ n : Int, ((n = 1 ∧ k = true) ∨ (n = 0 ∧ k = false)) → Q (.int n) H) := by
  intro pins s σ H xs us Q I r h
  obtain ⟨k, rfl, q⟩ := h
  refine call_int1 pins s σ H _ us Q I r (.inr ⟨k, rfl, ?_⟩)
  cases k
  · exact q _ (.inr ⟨rfl, rfl⟩)
  · exact q _ (.inl ⟨rfl, rfl⟩)
/-- an int's value by a name -/
def tNmi (t : TE) : TE := fun σ H Q => t σ H fun v H1 => ∃ i, v = .int i ∧ ∀ x, x = i → Q (.int x) H1
theorem pe_nmi {e : Expr} {t : TE} (h : PE X e t) : PE X e (tNmi t) := ⟨fun pins s σ H Q I q => thn (h.run pins s σ H _ I q) fun _ _ z => by
  obtain ⟨v, H1, I1, r1, i, rfl, q1⟩ := z
  exact ⟨.int i, H1, I1, r1, q1 i rfl⟩⟩
/-- a reckoned constant -/
def tLit (n : Int) (t : TE) : TE := fun σ H Q => t σ H fun v H1 => v = .int n ∧ Q (.int n) H1
theorem pe_lit (n : Int) {e : Expr} {t : TE} (h : PE X e t) : PE X e (tLit n t) := ⟨fun pins s σ H Q I q => thn (h.run pins s σ H _ I q) fun _ _ z => by
  obtain ⟨v, H1, I1, r1, rfl, q1⟩ := z
  exact ⟨.int n, H1, I1, r1, q1⟩⟩
end
theorem pow2_mono {a b : Nat} (h : a ≤ b) : (2 : Int) ^ a ≤ 2 ^ b := by
  have e : (2 : Int) ^ b = 2 ^ a * 2 ^ (b - a) := by rw [← Int.pow_add, show a + (b - a) = b by omega]
  rw [e]
  have h1 := p2 a
  have h2 := p2 (b - a)
  calc (2 : Int) ^ a = 2 ^ a * 1 := by omega
    _ ≤ 2 ^ a * 2 ^ (b - a) := Int.mul_le_mul_of_nonneg_left (by omega) (by omega)
theorem pow2_pred {w : Int} (h : 1 ≤ w) : (2 : Int) ^ w.toNat = 2 * 2 ^ (w - 1).toNat := by
  have e : w.toNat = (w - 1).toNat + 1 := by omega
  rw [e, Int.pow_succ, Int.mul_comm]
theorem pow2_lt {a b : Int} (h0 : 0 ≤ a) (h : a < b) : (2 : Int) ^ a.toNat < 2 ^ b.toNat := by
  have h1 := pow2_mono (a := a.toNat) (b := (b - 1).toNat) (by omega)
  have h2 := pow2_pred (w := b) (by omega)
  have h3 := p2 (b - 1).toNat
  omega
theorem pow2_le32 {w : Int} (h : w ≤ 32) : (2 : Int) ^ w.toNat ≤ 4294967296 := pow2_mono (b := 32) (by omega)
theorem pow2_le64 {w : Int} (h : w ≤ 64) : (2 : Int) ^ w.toNat ≤ 18446744073709551616 := pow2_mono (b := 64) (by omega)
theorem divw64 {i j : Int} (h0 : 0 < j) (h : j ≤ 18446744073709551616) : CDivW i j := wide_div h0 (b := 65) (by omega) (by decide) (by decide)
/-! sizes -/
def Sz (n : Nat) (i : Int) : Prop := i.natAbs < 2 ^ n
theorem Sz.lit {n : Nat} {i : Int} (h : i.natAbs < 2 ^ n) : Sz n i := h
theorem Sz.mono {a b : Nat} {i : Int} (h : Sz a i) (hab : a ≤ b) : Sz b i := Nat.lt_of_lt_of_le h (Nat.pow_le_pow_right (by decide) hab)
theorem Sz.mul {a b : Nat} {i j : Int} (h : Sz a i) (h' : Sz b j) : Sz (a + b) (i * j) := wide_lt h h'
theorem Sz.le {a : Nat} {i j : Int} (h : Sz a i) (hl : j.natAbs ≤ i.natAbs) : Sz a j := Nat.lt_of_le_of_lt hl h
theorem Sz.add {a : Nat} {i j : Int} (h : Sz a i) (h' : Sz a j) : Sz (a + 1) (i + j) := by
  unfold Sz at *
  rw [Nat.pow_succ]
  have := Int.natAbs_add_le i j
  omega
theorem Sz.neg {a : Nat} {i : Int} (h : Sz a i) : Sz a (-i) := by unfold Sz at *; rw [Int.natAbs_neg]; exact h
theorem Sz.sub {a : Nat} {i j : Int} (h : Sz a i) (h' : Sz a j) : Sz (a + 1) (i - j) := by
  rw [Int.sub_eq_add_neg]; exact h.add h'.neg
theorem Sz.pow {k : Int} {n : Nat} (h : k ≤ n) : Sz (n + 1) (2 ^ k.toNat) := by
  unfold Sz
  rw [Int.natAbs_pow]
  exact Nat.pow_lt_pow_right (by decide) (by omega)
theorem Sz.shl {a n : Nat} {i k : Int} (h : Sz a i) (hk : k ≤ n) : Sz (a + (n + 1)) (i * 2 ^ k.toNat) := h.mul (Sz.pow hk)
theorem Sz.div {a : Nat} {i j : Int} (h : Sz a i) (hj : 0 < j) : Sz a (i / j) := by
  refine h.le ?_
  have h1 := Int.ediv_mul_add_emod i j
  have h2 := Int.emod_nonneg i (show j ≠ 0 by omega)
  have h3 := Int.emod_lt_of_pos i hj
  by_cases hi : i < 0
  · have h4 : i ≤ i / j := by
      refine (Int.le_ediv_iff_mul_le hj).mpr ?_
      have : i * 1 ≥ i * j := Int.mul_le_mul_of_nonpos_left (by omega) (by omega)
      omega
    have h5 : i / j < 0 := Int.ediv_neg_of_neg_of_pos hi hj
    omega
  · have h4 : i / j ≤ i := Int.ediv_le_self _ (by omega)
    have h5 : 0 ≤ i / j := Int.ediv_nonneg (by omega) (by omega)
    omega
theorem Sz.rng {n : Nat} {i j : Int} (h0 : 0 ≤ i) (h1 : i < j) (h : j.natAbs ≤ 2 ^ n) : Sz n i := by
  unfold Sz; omega
theorem Sz.md {n : Nat} {i j : Int} (h0 : 0 ≤ i) (h1 : i < j) (h : Sz n j) : Sz n i := by
  unfold Sz at *; omega
theorem Sz.or {n : Nat} {x i j : Int} (h : x = i ∨ x = j) (hi : Sz n i) (hj : Sz n j) : Sz n x := by rcases h with rfl | rfl <;> assumption
theorem Sz.abs {n : Nat} {x i : Int} (h : Sz n i) (hx : x = if i < 0 then -i else i) : Sz n x := by
  refine h.le ?_; split at hx <;> omega
theorem mul0 {i j : Int} (h : -(2 ^ 64) < i ∧ i < 2 ^ 64) : CMul i j ∨ CMulX i j := .inl (.inl h)
theorem mul1 {i j : Int} (h : -(2 ^ 64) < j ∧ j < 2 ^ 64) : CMul i j ∨ CMulX i j := .inl (.inr h)
theorem shl0 {i j : Int} (h : 0 ≤ j) (h' : j ≤ 1000000) (h2 : i.natAbs < 2 ^ 64) : CPow i j ∨ CShl i j := .inl ⟨h, h', h2⟩
theorem szW {i : Int} (h : -(2 ^ 200) < i ∧ i < 2 ^ 200) : Sz 200 i := by unfold Sz; omega
theorem mulW {i j : Int} (h : -(2 ^ 200) < i ∧ i < 2 ^ 200) (h' : -(2 ^ 200) < j ∧ j < 2 ^ 200) : CMul i j ∨ CMulX i j := .inr (mulx_ok (szW h) (szW h') (by decide))
theorem divW {i j : Int} (h : 0 < j) (h' : j < 2 ^ 200) : CDivW i j := wide_div h (b := 200) (szW ⟨by omega, h'⟩) (by decide) (by decide)
theorem shlW {i j : Int} (h : 0 ≤ j) (h' : j ≤ 1000) (h2 : -(2 ^ 200) < i ∧ i < 2 ^ 200) : CPow i j ∨ CShl i j := by
  obtain ⟨n, rfl⟩ := Int.eq_ofNat_of_zero_le h
  exact .inr (shl_ok (n := 200) (szW h2) (by omega))
theorem mulx {a b : Nat} {i j : Int} (h : Sz a i) (h' : Sz b j) (hl : a + b ≤ 134217728) : CMulX i j := mulx_ok h h' hl
theorem divz {b : Nat} {i j : Int} (h : 0 < j) (hb : Sz b j) (h0 : 0 < b) (h9 : b ≤ 9000) : CDivW i j := wide_div h hb h0 h9
theorem divzF {b : Nat} {j : Int} (h : j ≠ 0) (hb : Sz b j) (h0 : 0 < b) (h9 : b ≤ 9000) : j ≠ 0 ∧ j.natAbs.log2 < 9000 := ⟨h, Nat.lt_of_lt_of_le (PySem.Flt.log2_lt_of h0 hb) h9⟩
theorem eqdd {P P' : Prop} [Decidable P] [Decidable P'] {Q : VK} {H : Hp} (h : P ↔ P') (q : Q (.bl (decide P')) H) : Q (.bl (decide P)) H := by rw [decide_eq_decide.mpr h]; exact q
theorem eqeqb {i j : Bool} {Q : VK} {H : Hp} (h : i = j) (q : Q (.bl true) H) : Q (.bl (decide (V.bl i = V.bl j))) H := by rw [decide_eq_true (by rw [h])]; exact q
theorem ix_tupK {X : Cx} {K : PySem.W.Frag} (h : X.K = K) : IxR X (rIxT K) := h ▸ ix_tup
theorem ix_listK {X : Cx} {K : PySem.W.Frag} (h : X.K = K) : IxR X (rIxL K) := h ▸ ix_list
theorem call_lenK {X : Cx} {K : PySem.W.Frag} (h : X.K = K) : CallR X (.builtin "len") (fun xs H Q => ∃ p ys, xs = [.ref p] ∧ (SqL K H p ys ∨ SqT K H p ys) ∧ Q (.int ys.length) H) := h ▸ call_len_seq
theorem tyes {σ : L2.St} {H : Hp} {Q : Bool → Hp → Prop} (h : Q true H) : tYes σ H Q := h
theorem dmz {a : Nat} {i j : Int} (h : 0 < j) (hz : Sz a i) (ha : a ≤ 4000) : CDivP i j := divp_ok h (by have := PyProof.Rows.intBits_le hz; omega)
theorem dms {i j : Int} (h : 0 < j) (h0 : -(2 ^ 64) < i) (h1 : i < 2 ^ 64) : CDivP i j := dmz (a := 64) h (by unfold Sz; omega) (by decide)
theorem shlz {a n : Nat} {i j : Int} (h : Sz a i) (h0 : 0 ≤ j) (hj : j ≤ n) (hn : a + n ≤ 134217728) : CShl i j := by
  obtain ⟨k, rfl⟩ : ∃ k : Nat, j = k := ⟨j.toNat, by omega⟩
  exact shl_ok h (by omega)
/-- all but the object at b is as it was -/
def Fm (b : Addr) (H H' : Hp) : Prop := ∀ q o, q ≠ b → H q = some o → H' q = some o
theorem at_fmT {b p : Addr} {xs ys : List V} (f : Fm b H H') (hb : H b = some (.lst ys)) (h : H p = some (.tup xs)) : H' p = some (.tup xs) := f _ _ (ne_tl h hb) h
theorem Fm.refl {b : Addr} {H : Hp} : Fm b H H := fun _ _ _ h => h
theorem Fm.same {b : Addr} {H H1 H2 : Hp} (a : Fm b H H1) (s : Same H1 H2) : Fm b H H2 := fun q o n h => s q o (a q o n h)
theorem Fm.mut {b : Addr} {H H1 : Hp} {u : HO} (a : Fm b H H1) : Fm b H (upd H1 b u) := fun q o n h => by rw [upd_ne n]; exact a q o n h
theorem Fm.mutF {b c : Addr} {H H1 : Hp} {u : HO} (a : Fm b H H1) (hc : H c = none) : Fm b H (upd H1 c u) := fun q o n h => by rw [upd_ne (ne_of_none h hc)]; exact a q o n h
theorem Fm.trans {b : Addr} {H H1 H2 : Hp} (a : Fm b H H1) (s : Fm b H1 H2) : Fm b H H2 := fun q o n h => s q o n (a q o n h)
theorem Fm.frameF {b c : Addr} {H H1 H2 : Hp} (a : Fm b H H1) (s : Fm c H1 H2) (hc : H c = none) : Fm b H H2 := fun q o n h => s q o (ne_of_none h hc) (a q o n h)
theorem Fm.free {b : Addr} {H H' : Hp} (a : Fm b H H') {o : HO} {l : Addr} (hb : H' b = some o) (h : H' l = none) : H l = none := by
  cases e : H l with
  | none => rfl
  | some u =>
    have n : l ≠ b := fun z => by rw [z, hb] at h; cases h
    rw [a l u n e] at h; cases h
theorem same_frame {c : Addr} {H H1 H2 : Hp} (s : Same H H1) (f : Fm c H1 H2) (hc : H c = none) : Same H H2 := fun q o h => f q o (ne_of_none h hc) (s q o h)
/-! lists of ints -/
theorem szl {n : Nat} (h : n < 1000000) : n < sizeLine := Nat.lt_of_lt_of_le h (by decide)
theorem szle {n : Nat} (h : n ≤ 1000000) : n ≤ sizeLine := Nat.le_trans h (by decide)
section
variable {X : Cx} {K : PySem.W.Frag} {H H' : Hp} {Q : VK} {a : Addr}
theorem ap_ints {xs : List Int} {e : Int} (h : H a = some (.lst (xs.map V.int ++ [.int e]))) : H a = some (.lst ((xs ++ [e]).map V.int)) := by
  rw [List.map_append]; exact h
theorem set_ints {xs : List Int} {e : Int} {j : Nat} (h : H a = some (.lst ((xs.map V.int).set j (.int e)))) : H a = some (.lst ((xs.set j e).map V.int)) := by
  rw [List.map_set]; exact h
theorem dpAll_ints : ∀ xs : List Int, DpAll K H (xs.map V.int) (xs.map PyData.int)
  | [] => .nil
  | x :: xs => .cons (.int x) (dpAll_ints xs)
theorem dp_ints {xs : List Int} (h : SqL K H a (xs.map V.int)) : Dp K H (.ref a) (.list (xs.map PyData.int)) := .lst h (dpAll_ints xs)
theorem layAll_ints : ∀ xs : List Int, PyData.canLayAll0 (xs.map PyData.int) = true
  | [] => rfl
  | x :: xs => by
    rw [List.map_cons, PyData.canLayAll0, layAll_ints xs]
    rfl
theorem depAll_ints : ∀ xs : List Int, PyData.depthAll (xs.map PyData.int) = 0
  | [] => rfl
  | x :: xs => by
    rw [List.map_cons, PyData.depthAll, depAll_ints xs]
    rfl
theorem shaped_ints (xs : List Int) : SeqAt.shaped (.list (xs.map PyData.int)) = true := by
  unfold SeqAt.shaped
  rw [PyData.canLay0, PyData.depth, layAll_ints, depAll_ints]
  rfl
theorem shp {d : PyData} (h : PyData.canLay0 d = true) (g : PyData.depth d ≤ 64) : SeqAt.shaped d = true := by
  unfold SeqAt.shaped; rw [h]; simpa using g
theorem eqvAll_ints : ∀ xs ys : List Int, PyData.eqvAll (xs.map PyData.int) (ys.map PyData.int) = decide (xs = ys)
  | [], [] => rfl
  | [], _ :: _ => rfl
  | _ :: _, [] => rfl
  | x :: xs, y :: ys => by
    rw [List.map_cons, List.map_cons, PyData.eqvAll, PyData.eqv, eqvAll_ints xs ys]
    by_cases h : x = y
    · by_cases h2 : xs = ys <;> simp [h, h2]
    · simp [h]
theorem eqv_ints (xs ys : List Int) : PyData.eqv (.list (xs.map PyData.int)) (.list (ys.map PyData.int)) = decide (xs = ys) := by
  rw [PyData.eqv]; exact eqvAll_ints xs ys
theorem op_eqI (hu : X.A.units + 64 < cLine) : OpR X (compareOp .Eq) (fun x y H Q => ∃ (a b : Addr) (xs ys : List Int), x = .ref a ∧ y = .ref b ∧ SqL X.K H a (xs.map V.int) ∧ SqL X.K H b (ys.map V.int) ∧ Q (.bl (decide (xs = ys))) H) := by
  intro pins s σ H x y v u Q I rx ry h
  obtain ⟨a, b, xs, ys, rfl, rfl, h1, h2, q⟩ := h
  refine op_eqD hu pins s σ H _ _ v u Q I rx ry ⟨_, _, dp_ints h1, dp_ints h2, shaped_ints _, shaped_ints _, ?_⟩
  rw [eqv_ints]; exact q
theorem op_neI (hu : X.A.units + 64 < cLine) : OpR X (compareOp .NotEq) (fun x y H Q => ∃ (a b : Addr) (xs ys : List Int), x = .ref a ∧ y = .ref b ∧ SqL X.K H a (xs.map V.int) ∧ SqL X.K H b (ys.map V.int) ∧ Q (.bl (!decide (xs = ys))) H) := by
  intro pins s σ H x y v u Q I rx ry h
  obtain ⟨a, b, xs, ys, rfl, rfl, h1, h2, q⟩ := h
  refine op_neD hu pins s σ H _ _ v u Q I rx ry ⟨_, _, dp_ints h1, dp_ints h2, shaped_ints _, shaped_ints _, ?_⟩
  rw [eqv_ints]; exact q
theorem dpT_ints {xs : List Int} (h : SqT K H a (xs.map V.int)) : Dp K H (.ref a) (.tuple (xs.map PyData.int)) := .tup h (dpAll_ints xs)
theorem shapedT_ints (xs : List Int) : SeqAt.shaped (.tuple (xs.map PyData.int)) = true := by
  unfold SeqAt.shaped
  rw [PyData.canLay0, PyData.depth, layAll_ints, depAll_ints]
  rfl
theorem eqvT_ints (xs ys : List Int) : PyData.eqv (.tuple (xs.map PyData.int)) (.tuple (ys.map PyData.int)) = decide (xs = ys) := by
  rw [PyData.eqv]; exact eqvAll_ints xs ys
theorem op_eqT (hu : X.A.units + 64 < cLine) : OpR X (compareOp .Eq) (fun x y H Q => ∃ (a b : Addr) (xs ys : List Int), x = .ref a ∧ y = .ref b ∧ SqT X.K H a (xs.map V.int) ∧ SqT X.K H b (ys.map V.int) ∧ Q (.bl (decide (xs = ys))) H) := by
  intro pins s σ H x y v u Q I rx ry h
  obtain ⟨a, b, xs, ys, rfl, rfl, h1, h2, q⟩ := h
  refine op_eqD hu pins s σ H _ _ v u Q I rx ry ⟨_, _, dpT_ints h1, dpT_ints h2, shapedT_ints _, shapedT_ints _, ?_⟩
  rw [eqvT_ints]; exact q
theorem op_neT (hu : X.A.units + 64 < cLine) : OpR X (compareOp .NotEq) (fun x y H Q => ∃ (a b : Addr) (xs ys : List Int), x = .ref a ∧ y = .ref b ∧ SqT X.K H a (xs.map V.int) ∧ SqT X.K H b (ys.map V.int) ∧ Q (.bl (!decide (xs = ys))) H) := by
  intro pins s σ H x y v u Q I rx ry h
  obtain ⟨a, b, xs, ys, rfl, rfl, h1, h2, q⟩ := h
  refine op_neD hu pins s σ H _ _ v u Q I rx ry ⟨_, _, dpT_ints h1, dpT_ints h2, shapedT_ints _, shapedT_ints _, ?_⟩
  rw [eqvT_ints]; exact q
theorem flat_ints (xs : List Int) : (xs.map V.int).all flatV = true := by
  rw [List.all_map, List.all_eq_true]; intro x _; rfl
theorem inV_ints (i : Int) (xs : List Int) : inV (.int i) (xs.map V.int) = decide (i ∈ xs) := by
  unfold inV
  rw [Bool.eq_iff_iff, List.any_map, List.any_eq_true, decide_eq_true_eq]
  constructor
  · rintro ⟨y, hy, e⟩
    have : (y == i) = true := e
    rw [← beq_iff_eq.mp this]; exact hy
  · exact fun h => ⟨i, h, beq_self_eq_true i⟩
theorem op_inI : OpR X (compareOp .In) (fun x y H Q => ∃ (i : Int) (p : Addr) (xs : List Int), x = .int i ∧ y = .ref p ∧ SqL X.K H p (xs.map V.int) ∧ Q (.bl (decide (i ∈ xs))) H) := by
  intro pins s σ H x y v u Q I rx ry h
  obtain ⟨i, p, xs, rfl, rfl, hs, q⟩ := h
  refine op_in_seq pins s σ H _ _ v u Q I rx ry ⟨_, _, rfl, .inl hs, rfl, flat_ints xs, ?_⟩
  rw [if_neg Bool.false_ne_true, inV_ints]
  exact q
theorem op_notInI : OpR X (compareOp .NotIn) (fun x y H Q => ∃ (i : Int) (p : Addr) (xs : List Int), x = .int i ∧ y = .ref p ∧ SqL X.K H p (xs.map V.int) ∧ Q (.bl (!decide (i ∈ xs))) H) := by
  intro pins s σ H x y v u Q I rx ry h
  obtain ⟨i, p, xs, rfl, rfl, hs, q⟩ := h
  refine op_notIn_seq pins s σ H _ _ v u Q I rx ry ⟨_, _, rfl, .inl hs, rfl, flat_ints xs, ?_⟩
  rw [if_pos rfl, inV_ints]
  exact q
theorem ixN_nat {n j : Nat} (h : j < n) : ixN n (j : Int) = some j := by
  unfold ixN
  rw [if_pos (by omega), if_pos (by omega)]; simp
theorem ixlast {xs : List Int} (h : SqL K H a (xs.map V.int)) (h0 : 0 < xs.length) (q : ∀ y, xs.getLast? = some y → Q (.int y) H) : rIxL K (.ref a) (.int (-1)) H Q := by
  obtain ⟨y, hy⟩ : ∃ y, xs.getLast? = some y := by
    cases e : xs.getLast? with
    | none => rw [List.getLast?_eq_none_iff] at e; subst e; simp at h0
    | some y => exact ⟨y, rfl⟩
  refine ⟨a, _, _, .int y, rfl, rfl, h, ?_, q y hy⟩
  obtain ⟨ys, rfl⟩ := List.getLast?_eq_some_iff.mp hy
  rw [List.map_append]
  exact atI_last _ _
end
/-! items -/
section
variable {K : PySem.W.Frag} {H : Hp} {Q : VK} {a : Addr}
theorem ixi {xs : List Int} {i : Int} (h : SqL K H a (xs.map V.int)) (h0 : 0 ≤ i) (h1 : i < xs.length) (q : ∀ y, xs[i.toNat]? = some y → Q (.int y) H) : rIxL K (.ref a) (.int i) H Q := by
  obtain ⟨n, rfl⟩ : ∃ n : Nat, i = n := ⟨i.toNat, by omega⟩
  have hl : n < xs.length := by omega
  refine ⟨a, _, _, .int (xs[n]'hl), rfl, rfl, h, atI_nat ?_, q _ (List.getElem?_eq_getElem hl)⟩
  rw [List.getElem?_map, List.getElem?_eq_getElem hl]
  all_goals rfl
theorem inV_int {y : Int} {xs : List Int} (h : y ∈ xs) : (if false = true then !(inV (.int y) (xs.map V.int)) else inV (.int y) (xs.map V.int)) = true := by
  rw [if_neg Bool.false_ne_true]
  unfold inV
  rw [List.any_map, List.any_eq_true]
  exact ⟨y, h, by simp [eqV]⟩
theorem ixn {xs : List Int} {i : Int} (h : SqL K H a (xs.map V.int)) (h0 : 0 ≤ i) (h1 : i < xs.length) (q : ∀ y, xs[i.toNat]? = some y → Q (.int y) H) : rIxL K (.ref a) (.int i) H Q := ixi h h0 h1 q


theorem gturn {n i : Nat} {σ : L2.St} {R : L2.St → Hp → Prop} (h : ∀ x : Int, x = (i : Int) → gName n (.int x) σ H R) : gName n (.int (0 + (i : Int))) σ H R := h _ (by omega)
theorem ints_get {xs : List Int} {i : Nat} {v : V} (h : (xs.map V.int)[i]? = some v) : ∃ n, v = .int n ∧ xs[i]? = some n := by
  rw [List.getElem?_map] at h
  cases e : xs[i]? with
  | none => rw [e] at h; cases h
  | some n => rw [e] at h; exact ⟨n, (Option.some.inj h).symm, rfl⟩
/-- the ints a .. b - 1 -/
def rgI (a b : Int) : List Int := (List.range (b - a).toNat).map fun i => a + (i : Nat)
theorem rg_at {a : Addr} {x y : Int} : upd H a (.lst (rgV x y)) a = some (.lst ((rgI x y).map V.int)) := by
  rw [upd_same]
  unfold rgV rgI
  rw [List.map_map]
  rfl
theorem rgI_mem {n y : Int} (h : y ∈ rgI 0 n) : 0 ≤ y ∧ y < n := by
  obtain ⟨j, hj, rfl⟩ := List.mem_map.mp h
  have := List.mem_range.mp hj
  omega
theorem rgI_rng {a b y : Int} (h : y ∈ rgI a b) : a ≤ y ∧ y < b := by
  obtain ⟨j, hj, rfl⟩ := List.mem_map.mp h
  have := List.mem_range.mp hj
  omega
theorem cat_at {a : Addr} {xs ys : List Int} : upd H a (.lst (xs.map V.int ++ ys.map V.int)) a = some (.lst ((xs ++ ys).map V.int)) := by
  rw [upd_same, List.map_append]
theorem szc {xs ys : List Int} {n : Nat} (h : xs.length + ys.length ≤ n) (hn : n ≤ sizeLine) : (xs.map V.int).length + (ys.map V.int).length ≤ sizeLine := by
  rw [List.length_map, List.length_map]; omega
/-! an if whose two ways meet again in one state -/
theorem join {tc : TT} {t1 t2 u : TS} {D : Ends} {σ : L2.St} {H : Hp} (Pv : L2.St → Hp → Prop) (h1 : ∀ N : L2.St → Hp → Prop, (∀ σ2 H2, Pv σ2 H2 → N σ2 H2) → tIfS tc t1 t2 { D with nx := N } σ H) (h2 : ∀ σ2 H2, Pv σ2 H2 → u D σ2 H2) : tSeq (tIfS tc t1 t2) u D σ H := h1 _ h2
theorem setc {i : Nat} {te : TE} {u : TS} {D : Ends} {σ : L2.St} {H : Hp} (v : V) (h : u D (σ.set i (some v)) H) (e : ∀ Q : VK, Q v H → te σ H Q := by exact fun _ z => z) : tSeq (tAsg te (gName i)) u D σ H := e _ h
theorem gnm {i : Nat} {v : V} {σ : L2.St} {H : Hp} {N bk ct : L2.St → Hp → Prop} {rt : VK} (h : N (σ.set i (some v)) H) : gName i v σ H (Ends.nx ⟨N, rt, bk, ct⟩) := h
theorem gnmS {i : Nat} {v : V} {σ σ' : L2.St} {H : Hp} {N bk ct : L2.St → Hp → Prop} {rt : VK} (e : σ.set i (some v) = σ') (h : N σ' H) : gName i v σ H (Ends.nx ⟨N, rt, bk, ct⟩) := by subst e; exact h
theorem tnx {σ : L2.St} {H : Hp} {N bk ct : L2.St → Hp → Prop} {rt : VK} (h : N σ H) : tNext ⟨N, rt, bk, ct⟩ σ H := h
theorem joinL {tc : TT} {t1 t2 : TS} {D : Ends} {σ : L2.St} {H : Hp} (Pv : L2.St → Hp → Prop) (h1 : ∀ N : L2.St → Hp → Prop, (∀ σ2 H2, Pv σ2 H2 → N σ2 H2) → tIfS tc t1 t2 { D with nx := N } σ H) (h2 : ∀ σ2 H2, Pv σ2 H2 → D.nx σ2 H2) : tIfS tc t1 t2 D σ H := h1 _ h2
/-! a for over a written list, turn by turn -/
def unr (K : PySem.W.Frag) (a : Addr) (xs : List V) (g : TG) (tb : TS) (D : Ends) : List V → L2.St → Hp → Prop
  | [], σ, H => SqL K H a xs ∧ D.nx σ H
  | x :: r, σ, H => SqL K H a xs ∧ g x σ H fun σ2 H2 => tb { D with nx := unr K a xs g tb D r, ct := unr K a xs g tb D r, bk := D.nx } σ2 H2
theorem un_start {xs : List V} {g : TG} {tb : TS} {D : Ends} {σ : L2.St} (h : unr K a xs g tb D xs σ H) :
    ∃ W : Nat → Nat → L2.St → Hp → Prop, (∃ m, W 0 m σ H) ∧ ∀ i m σ H, W i m σ H →
      ((Itl K a).stop i H ∧ D.nx σ H) ∨ ((Itl K a).go i H ∧ ∃ N : L2.St → Hp → Prop, (∀ σ' H', N σ' H' → ∃ m', m' < m ∧ W (i + 1) m' σ' H') ∧ ∀ x H', (Itl K a).yld i H x H' → g x σ H' fun σ2 H2 => tb { D with nx := N, ct := N, bk := D.nx } σ2 H2) := by
  refine ⟨fun i m σ H => m = xs.length - i ∧ i ≤ xs.length ∧ unr K a xs g tb D (xs.drop i) σ H, ⟨xs.length, by simp, Nat.zero_le _, h⟩, ?_⟩
  rintro i m σ H ⟨rfl, hi, p⟩
  by_cases hlt : i < xs.length
  · rw [List.drop_eq_getElem_cons hlt] at p
    obtain ⟨q, p⟩ := p
    refine .inr ⟨⟨xs, xs[i], q, by simp [hlt]⟩, unr K a xs g tb D (xs.drop (i + 1)), fun σ' H' p' => ⟨xs.length - (i + 1), by omega, rfl, hlt, p'⟩, fun x H' y => ?_⟩
    obtain ⟨e, y⟩ := y
    subst e
    have e2 := y xs q
    rw [List.getElem?_eq_getElem hlt] at e2
    cases e2
    exact p
  · have e : i = xs.length := by omega
    subst e
    rw [List.drop_length] at p
    obtain ⟨q, p⟩ := p
    exact .inl ⟨⟨xs, q, Nat.le_refl _⟩, p⟩
end
/-! a comprehension over a written list, turn by turn -/
def unlc (K : PySem.W.Frag) (a : Addr) (xs : List V) (g : TG) (tt : TT) (te : TE) (σ : L2.St) (vs : List Nat) (D : Addr) (Qd : Hp → Prop) : List V → Hp → Prop
  | [], H => SqL K H a xs ∧ Qd H
  | x :: r, H => SqL K H a xs ∧ g x (wipe σ vs) H fun σ2 H2 => wipe σ2 vs = wipe σ vs ∧ tt σ2 H2 fun b H3 =>
      if b = true then te σ2 H3 fun y H4 => ∃ acc, H4 D = some (.lst acc) ∧ acc.length < sizeLine ∧ unlc K a xs g tt te σ vs D Qd r (upd H4 D (.lst (acc ++ [y]))) else unlc K a xs g tt te σ vs D Qd r H3
theorem unlc_start {K : PySem.W.Frag} {a : Addr} {xs : List V} {g : TG} {tt : TT} {te : TE} {σ : L2.St} {vs : List Nat} {H1 : Hp} {D : Addr} {Qd : Hp → Prop} (h : unlc K a xs g tt te σ vs D Qd xs (upd H1 D (.lst []))) :
    ∃ W : Nat → Nat → Hp → Prop, (∃ m, W 0 m (upd H1 D (.lst []))) ∧ ∀ i m H, W i m H →
      ((Itl K a).stop i H ∧ Qd H) ∨ ((Itl K a).go i H ∧ ∃ Nx : Hp → Prop, (∀ H', Nx H' → ∃ m', m' < m ∧ W (i + 1) m' H') ∧ ∀ x H', (Itl K a).yld i H x H' → g x (wipe σ vs) H' fun σ2 H2 => wipe σ2 vs = wipe σ vs ∧ tt σ2 H2 fun b H3 =>
        if b = true then te σ2 H3 fun y H4 => ∃ acc, H4 D = some (.lst acc) ∧ acc.length < sizeLine ∧ Nx (upd H4 D (.lst (acc ++ [y]))) else Nx H3) := by
  refine ⟨fun i m H => m = xs.length - i ∧ i ≤ xs.length ∧ unlc K a xs g tt te σ vs D Qd (xs.drop i) H, ⟨xs.length, by simp, Nat.zero_le _, h⟩, ?_⟩
  rintro i m H ⟨rfl, hi, p⟩
  by_cases hlt : i < xs.length
  · rw [List.drop_eq_getElem_cons hlt] at p
    obtain ⟨q, p⟩ := p
    refine .inr ⟨⟨xs, xs[i], q, by simp [hlt]⟩, unlc K a xs g tt te σ vs D Qd (xs.drop (i + 1)), fun H' p' => ⟨xs.length - (i + 1), by omega, rfl, hlt, p'⟩, fun x H' y => ?_⟩
    obtain ⟨e, y⟩ := y
    subst e
    have e2 := y xs q
    rw [List.getElem?_eq_getElem hlt] at e2
    cases e2
    exact p
  · have e : i = xs.length := by omega
    subst e
    rw [List.drop_length] at p
    obtain ⟨q, p⟩ := p
    exact .inl ⟨⟨xs, q, Nat.le_refl _⟩, p⟩
/-- a def that stands behind the top -/
structure Dk (K : PySem.W.Frag) (mg : Str → Option Value) (x qual : Str) (st : Stmt) (ps : List Str) : Type where
  f : Addr
  fd : FuncData
  F : Fun K x qual st f fd
  b : Binds K fd ps []
  m : mg x = some (.ref f)
end Ow

namespace Ow
open PySem PySem.Spec PyProof.Rows PySem.W L2
/-! ### min of a list of ints, default= -/
theorem foldl_min : ∀ (ns : List Int) (n : Int), (ns.foldl min n = n ∨ ns.foldl min n ∈ ns) ∧ ns.foldl min n ≤ n ∧ ∀ y ∈ ns, ns.foldl min n ≤ y
  | [], n => ⟨.inl rfl, Int.le_refl n, fun _ h => by cases h⟩
  | k :: ns, n => by
    obtain ⟨h1, h2, h3⟩ := foldl_min ns (min n k)
    rw [List.foldl_cons]
    have a : min n k ≤ n := Int.min_le_left ..
    have b : min n k ≤ k := Int.min_le_right ..
    refine ⟨?_, by omega, fun y hy => ?_⟩
    · rcases h1 with h | h
      · rw [h]
        have : min n k = n ∨ min n k = k := by omega
        rcases this with e | e
        · exact .inl e
        · exact .inr (by rw [e]; exact List.mem_cons_self)
      · exact .inr (List.mem_cons_of_mem _ h)
    · rcases List.mem_cons.mp hy with rfl | hy
      · omega
      · exact h3 y hy
theorem alike_ints (ns : List Int) : AlikeAll (ns.map PyData.int) := by
  refine ⟨fun x hx y hy => ?_, fun x hx => ?_⟩
  · obtain ⟨i, _, rfl⟩ := List.mem_map.mp hx
    obtain ⟨j, _, rfl⟩ := List.mem_map.mp hy
    rfl
  · obtain ⟨i, _, rfl⟩ := List.mem_map.mp hx
    intro h; cases h
theorem crk_minD {X : Cx} (hc : X.calm = true) (hu : X.A.units + 64 < cLine) : CallRK X (.builtin "min") ["default"] (fun vs zs H Q => ∃ (a : Addr) (ns : List Int) (d : Int), vs = [.ref a] ∧ zs = [.int d] ∧ SqL X.K H a (ns.map V.int) ∧
    ∀ m, ((ns = [] ∧ m = d) ∨ (m ∈ ns ∧ ∀ y ∈ ns, m ≤ y)) → Q (.int m) H) := by
  intro pins s σ H xs zs us ws Q I rx rz h
  obtain ⟨a, ns, d, rfl, rfl, hs, q⟩ := h
  obtain ⟨its, rv, hl, _⟩ := I.list hs
  rw [Vals.ref1 rx]
  cases rz with
  | cons r rr =>
    cases rr
    obtain ⟨t, rfl⟩ := r
    obtain ⟨as, hr⟩ := Dp.readsAll I _ _ its (dpAll_ints ns) rv
    show wpAny _ _ (call (.builtin "min") [.ref a] [(Str.ofString "default", Value.int d t)]) _ _ _
    refine min_list_default (I.ok.hd hc) hl.isList (by simpa using hr) (alike_ints ns) (by rw [depAll_ints]; omega) (fun e h' tk hk => ?_) (fun y ys i v h' tk bs e hv hrd hk => ?_)
    · have : ns = [] := List.map_eq_nil_iff.mp e
      exact ⟨.int d, H, I.kept hk, ⟨t, rfl⟩, q d (.inl ⟨this, rfl⟩)⟩
    · cases ns with
      | nil => cases e
      | cons n ns =>
        rw [List.map_cons] at e
        injection e with e1 e2
        subst e1 e2
        rw [minD_ints] at hrd
        have hm := foldl_min ns n
        cases hrd with
        | int i u =>
          refine ⟨.int _, H, I.kept hk, ⟨u, rfl⟩, q _ (.inr ⟨?_, fun y hy => ?_⟩)⟩
          · rcases hm.1 with h | h
            · rw [h]; exact List.mem_cons_self
            · exact List.mem_cons_of_mem _ h
          · rcases List.mem_cons.mp hy with rfl | hy
            · exact hm.2.1
            · exact hm.2.2 y hy

/-! ### tuples of an int and an int or None -/
def ov : Option Int → V
  | none => .non
  | some i => .int i
def od : Option Int → PyData
  | none => .none
  | some i => .int i
theorem dp_ov {K : PySem.W.Frag} {H : Hp} : ∀ u : Option Int, Dp K H (ov u) (od u)
  | none => .non
  | some i => .int i
theorem shaped_o (i : Int) : ∀ u : Option Int, SeqAt.shaped (.tuple [.int i, od u]) = true
  | none => by unfold SeqAt.shaped; rfl
  | some j => by unfold SeqAt.shaped; rfl
theorem eqv_o (i j : Int) (u v : Option Int) : PyData.eqv (.tuple [.int i, od u]) (.tuple [.int j, od v]) = decide (i = j ∧ u = v) := by
  rw [PyData.eqv, PyData.eqvAll, PyData.eqvAll, PyData.eqvAll, PyData.eqv]
  by_cases h : i = j
  · cases u <;> cases v <;> simp [h, od, PyData.eqv] <;> rfl
  · simp [h]
theorem op_eqO {X : Cx} (hu : X.A.units + 64 < cLine) : OpR X (compareOp .Eq) (fun x y H Q => ∃ (a b : Addr) (i j : Int) (u v : Option Int), x = .ref a ∧ y = .ref b ∧ SqT X.K H a [.int i, ov u] ∧ SqT X.K H b [.int j, ov v] ∧ Q (.bl (decide (i = j ∧ u = v))) H) := by
  intro pins s σ H x y v u Q I rx ry h
  obtain ⟨a, b, i, j, c, d, rfl, rfl, h1, h2, q⟩ := h
  refine op_eqD hu pins s σ H _ _ v u Q I rx ry ⟨_, _, .tup h1 (.cons (.int i) (.cons (dp_ov c) .nil)), .tup h2 (.cons (.int j) (.cons (dp_ov d) .nil)), shaped_o i c, shaped_o j d, ?_⟩
  rw [eqv_o]; exact q

end Ow
namespace Ow
open PySem PySem.Spec PyProof.Rows L2
/-! set(xs) of a list of ints, and sorted of it -/
section
variable {P : Program} {w : World} {A : Around} {E : Value → Shared → Prop} {s : Shared}
/-- an empty set, as set() lays it -/
abbrev eset (w : World) : Obj := { cls := .type "set", dict := none, data := .set #[] 0 (.fresh 0 0 (!w.params.followText "set-order")) }
set_option maxRecDepth 100000 in
set_option maxHeartbeats 3200000 in
theorem call_setL {l : Addr} {items : Array Value} (ns : List Int) {Q : Value → Shared → Prop} (hh : A.handled = none) (hl : s.heap.IsList l items) (hit : IntsAre items.toList ns) (hb : ns.length + 1 < scanBound)
    (h : ∀ (h' : Heap) (tk c : Nat), SetR w h' s.heap.objs.size (fun j => decide (j ∈ ns)) c → c ≤ ns.length → (∀ b o, s.heap.get? b = some o → h'.get? b = some o) → Q (.ref s.heap.objs.size) { s with heap := h', toks := tk }) :
    wpAny (model P w) A (call (.type "set") [.ref l]) Q E s := by
  have hsz : items.size = ns.length := by
    have q := IntsAre.length hit
    rw [Array.length_toList] at q
    exact q
  obtain ⟨c, tl, hmro⟩ := F.called_set.mro
  have hmade := F.called_set.made
  have hsub := F.called_set.sub
  refine wpAny_call (codeAny_of_tree ?_)
  show wpAny _ _ (callAny (.type "set") _) _ _ _
  refine wpAny_pure ⟨Code.quiet_builtin _ (by decide +kernel), codeAny_builtin F.entry_type_call ?_⟩
  rw [Around.under_plain (weight_type_call_type "set" [.ref l] []) rfl]
  have h1 := F.called_set.notType
  have h2 := F.called_set.canCreate
  have hct := F.typeCall_set_1 (.ref l)
  repeat (any_goals (first | assumption | wp_step))
  refine codeAny_mono (code_set_led1 (.ref l) (E := E) (Q₁ := fun obj s₁ => obj = .ref s.heap.objs.size ∧ s₁ = { s with heap := s.heap.push (eset w) }) ⟨rfl, rfl⟩) fun r s₁ hr => ?_
  match r, hr with
  | .error e, hr => exact hr
  | .ok .next, hr | .ok .brk, hr | .ok .cont, hr => exact hr
  | .ok (.ret obj), hr =>
    obtain ⟨rfl, rfl⟩ := hr
    have hS : (s.heap.push (eset w)).get? s.heap.objs.size = some (eset w) := Heap.get?_push_size _ rfl
    have hT : Shared.TypeIs { s with heap := s.heap.push (eset w) } (.ref s.heap.objs.size) "set" := ⟨_, hS, rfl⟩
    have hli := F.called_set.init.lookup
    have hbi := F.called_set.init.bind (.ref s.heap.objs.size)
    repeat (any_goals (first | assumption | wp_step))
    refine codeAny_mono (codeAny_call_builtin (R := wants (fun r s₂ => r = .none ∧ ∃ h' tk c, s₂ = { s with heap := h', toks := tk } ∧ SetR w h' s.heap.objs.size (fun j => decide (j ∈ ns)) c ∧ c ≤ ns.length ∧
      (∀ b o, s.heap.get? b = some o → h'.get? b = some o)) E) F.called_set.init.plain F.entry_set_init (check_set_init_1 hT ?_)) fun r₂ s₂ hr₂ => ?_
    · obtain ⟨⟨ocls, odict, odata, oslots⟩, hol, hcl, nl, hdl⟩ := hl
      simp only at hcl hdl
      subst hcl hdl
      have hlt : l < s.heap.objs.size := Heap.lt_size hol
      have hl1 : (s.heap.push (eset w)).IsList l items := ⟨_, Heap.get?_push_of_some _ hol, rfl, nl, rfl⟩
      have hz1 : (s.heap.push (eset w)).objs.size = s.heap.objs.size + 1 := Heap.size_push ..
      have g1 := F.sub_list_set
      have g2 := F.sub_list_frozenset
      have g3 : (Value.type "list" == Value.type "dict") = false := by decide
      unfold Builtin.«set.__init__» noKeywords Builtin.Frozenset.updateFrom
      generalize hPI : pyIter = PI
      wp_walk
      subst hPI
      refine wpAny_pyIter_list hl1 ?_
      refine wpAny_bind (wpAny_runValue ?_)
      refine set_update_ints ((Walks.list (A := A.in1.in1.in1) (by simp [hh]) _ l (by rw [hz1]; exact Nat.ne_of_lt (Nat.lt_succ_of_lt hlt)) items).toS) s.heap.objs.size
        (by rw [hz1]; simp only [List.mem_cons, List.not_mem_nil, or_false, not_or]; exact ⟨Nat.ne_of_lt (Nat.lt_succ_self _), Nat.ne_of_gt hlt⟩) ns hsz hb (fun i v hv => ?_) (items.size - 0) 0 _ (by omega) (Nat.zero_le _)
        ⟨⟨_, Heap.get?_push_size _ rfl, rfl, rfl⟩, (hl1.push _)⟩ ⟨0, Nat.le_refl 0, setR_new_at (Heap.get?_push_of_some _ hS)⟩ fun s' c' hm hc' hS' => ?_
      · have hi : i < ns.length := hsz ▸ (Array.getElem?_eq_some_iff.mp hv).1
        obtain ⟨t, e⟩ := PyProof.Rows.IntsAre.int_at hit i v (by rw [Array.getElem?_toList]; exact hv)
        rw [List.getD_eq_getElem?_getD, List.getElem?_eq_getElem hi] at e
        exact ⟨ns[i], t, List.getElem?_eq_getElem hi, e⟩
      · obtain ⟨h', g', d', tk', os'⟩ := s'
        obtain rfl : g' = s.gens := hm.gens
        obtain rfl : d' = s.drawn := hm.drawn
        obtain rfl : os' = s.os := hm.os
        show wpAny _ _ _ _ _ _
        refine wpAny_pure ?_
        show wpAny _ _ (ret Value.none) _ _ _
        rw [hsz] at hc'
        refine wpAny_pure ⟨rfl, h', tk', c', rfl, hS', hc', fun b o e => hm.heap b o ?_ (Heap.get?_push_of_some _ (Heap.get?_push_of_some _ e))⟩
        have hb0 : b < s.heap.objs.size := Heap.lt_size e
        rw [hz1]
        simp only [List.mem_cons, List.not_mem_nil, or_false, not_or]
        exact ⟨Nat.ne_of_lt hb0, Nat.ne_of_lt (Nat.lt_succ_of_lt hb0)⟩
    · match r₂, hr₂ with
      | .error e, hr₂ => exact hr₂
      | .ok .next, hr₂ | .ok .brk, hr₂ | .ok .cont, hr₂ => exact hr₂.elim
      | .ok (.ret r), hr₂ =>
        obtain ⟨rfl, h', tk, c', rfl, hS', hc', hk'⟩ := hr₂
        repeat (any_goals (first | assumption | wp_step))
        exact h _ _ _ hS' hc' hk'
end
/-- sorted(set(xs)), fewer than 64 ints -/
def tSortedSet (K : PySem.W.Frag) (ta : TE) : TE := fun σ H Q => ta σ H fun x H1 => ∃ (l : Addr) (ns : List Int), x = .ref l ∧ SqL K H1 l (ns.map V.int) ∧ ns.length < 64 ∧
  ∀ (ys : List Int) (p : Addr), ys.Pairwise (· < ·) → (∀ k, k ∈ ys ↔ k ∈ ns) → ys.length ≤ ns.length → H1 p = none → Q (.ref p) (upd H1 p (.lst (ys.map V.int)))
theorem pe_sortedSet {X : Cx} {a : Expr} {ta : TE} {p p2 q pos : Pos} (hg : Gl X "sorted") (hm : X.mg "sorted" = none) (hg2 : Gl X "set") (hm2 : X.mg "set" = none) (ha : PE X a ta) (hc : X.calm = true := by rfl)
    (na : starEach [a] X.env = (false, eval a X.env) :: starEach [] X.env := by rfl) : PE X (.Call (.Name "sorted" p) [.Call (.Name "set" p2) [a] [] q] [] pos) (tSortedSet X.K ta) := by
  refine ⟨fun pins s σ H Q I h => ?_⟩
  refine Call_ (ld_blt (u := .builtin "sorted") I hg hm (by decide +kernel) ?_)
  refine PyProof.Rows.callWith_builtin1 (PyProof.Rows.args_cons ?_ rfl) rfl rfl
  refine Call_ (ld_blt I hg2 hm2 PyProof.Rows.boot_set ?_)
  refine PyProof.Rows.callWith_type1 (PyProof.Rows.args_cons (thn (ha.run pins s σ H _ I h) fun v s1 ⟨x, H1, I1, r1, q1⟩ => PyProof.Rows.args_nil ?_) na) na rfl
  obtain ⟨l, ns, rfl, hq, h64, q1⟩ := q1
  cases r1
  obtain ⟨its, r, pl, hz⟩ := I1.list hq
  have hd := I1.ok.hd hc
  refine call_setL ns hd pl.isList (by simpa using r.ints) (by unfold scanBound; omega) fun h' tk c R hcn hk => ?_
  refine PyProof.Rows.args_nil ?_
  have I2 : Inv X pins σ H1 { s1 with heap := h', toks := tk } := I1.kept fun b o e => hk b o e
  obtain ⟨s2, hs2⟩ : ∃ s2 : Shared, s2 = { s1 with heap := h', toks := tk } := ⟨_, rfl⟩
  rw [← hs2] at I2 ⊢
  have R2 : SetR X.w s2.heap s1.heap.objs.size (fun j => decide (j ∈ ns)) c := by rw [hs2]; exact R
  clear hs2
  refine sorted_set (s := s2) R2 hd (by omega) fun s' pp out cc ys k g o hp hgt hi hs hmm hl => ?_
  have hlen : (ys.map V.int).length ≤ sizeLine := by rw [List.length_map, hl, sizeLine_eq]; omega
  have hn : H1 pp = none := I2.hok.fresh hp
  have J : Inv X pins σ (upd H1 pp (.lst (ys.map V.int))) { s2 with heap := s'.heap, gens := s'.gens, drawn := s'.drawn, toks := s'.toks } :=
    I2.call (ch := []) (Un.laid k hp hn) (I2.hok.laid k hp ⟨hlen, out.toList, cc, vals_of_ints hi, hgt⟩) (by rw [g]; exact I2.bare) (fun _ z => nomatch z)
  have e : s' = { s2 with heap := s'.heap, gens := s'.gens, drawn := s'.drawn, toks := s'.toks } := by
    cases s'
    cases s2
    cases o
    rfl
  rw [e]
  exact ⟨.ref pp, _, J, rfl, q1 ys pp hs (fun z => by rw [hmm, decide_eq_true_eq]) (by omega) hn⟩

end Ow
namespace Ow
open PySem L2

section
variable {X : Cx} {e : Expr} {es : List Expr} {ta : TA} {b : Str} {B : Addr} {mc : Value} {p1 p2 pos : Pos}
open PyProof.Rows PySem.Spec in
/-- B.__init__(self, ..), B an own class whose __init__ is ValueError's -/
theorem pe_winit {pl : Sem Bool} (hg : Gl X b) (hm : X.mg b = some (.ref B)) (rd : ClX.CRead X.K B mc) (cv : PySem.W.findCls X.K (.ref B) mc "__init__" = some (.val (.builtin "ValueError.__init__"))) (ha : PA X (e :: es) ta)
    (hdb : (b == ("__debug__" : Str)) = false := by decide)
    (hc : eval (.Call (.Attribute (.Name b p1) "__init__" p2) (e :: es) [] pos) X.env = (do
      let ov ← eval (.Name b p1) X.env
      standAt p2.atName
      let (f, first) ← holding [ov] (getMethod ov "__init__" pl)
      callWith pos f first (backTo pos (starEach (e :: es) X.env)) (backToKw pos (keywordEach [] X.env))) := by rfl)
    (he : starEach (e :: es) X.env = (false, eval e X.env) :: starEach es X.env := by rfl) (hpl : (backTo pos (starEach es X.env)).any (·.1) = false := by rfl) :
    PE X (.Call (.Attribute (.Name b p1) "__init__" p2) (e :: es) [] pos) (tVeI X.K ta) := by
  refine ⟨fun pins s σ H Q I h => ?_⟩
  refine PySem.W.methodCall_KW (ld_glob I hg hm ?_ hdb) hc
  refine PySem.W.method_cls I.kIn rd.ga (PySem.W.cls_value I.kIn rd.rd cv (by decide +kernel) ?_)
  show wpAny _ _ (callWith pos (Value.builtin "ValueError.__init__") [] (backTo pos (starEach (e :: es) X.env)) []) _ _ _
  refine PyProof.Rows.callWith_method1 (thn (ha.run pos pins _ σ H _ (I.tok _) h) fun us s1 ⟨vs, H1, I1, r1, a, C, ws, ev, hl, T, ea, q⟩ => ?_) he hpl
  subst ev
  cases r1 with
  | @cons _ u0 _ ur ra rw' =>
    obtain rfl : u0 = Value.ref a := ra
    have hlen : ur.length ≤ sizeLine := by
      rw [← Paired.length rw', sizeLine_eq]
      omega
    exact oinit_ok T I1 ea hlen fun s' J => ⟨.non, H1, J, rfl, q⟩
/-- C(), C's own __init__ keeping sp, no field stored -/
def tMkN (C : Addr) (sp : Sp) : L2.St → Hp → XK → Prop := fun σ H1 Q => ∀ a, H1 a = none → sp [.ref a] (upd H1 a (exo a C none))
  (fun v H2 => v = .non ∧ H2 a = some (exo a C none) ∧ Q (.ref C) none (del H2 a)) (fun _ _ _ => False)
open PyProof.Rows PySem.Spec in
theorem mk_endN {pins : List (Addr × Obj)} {σ : L2.St} {H1 H2 : Hp} {hp hp2 h2 : Heap} {g1 g2 : Array GenState} {d1 d2 : Drawn} {t1 t2 : Nat} {os1 os2 : OsState} {a C : Addr} (I1 : L2.Inv X pins σ H1 ⟨hp, g1, d1, t1, os1⟩)
    (ha : hp.objs.size ≤ a) (k : ∀ b o, hp.get? b = some o → hp2.get? b = some o) (un : Un (frs X.stack) [] (upd H1 a (exo a C none)) H2 hp2 h2) (hok : HOk X.prog X.w H2 h2) (ho : os2 = os1) (hb : AllBare g2)
    (ea : H2 a = some (exo a C none)) :
    ∃ (t0 : Addr) (G : Heap), L2.Inv X pins σ (del H2 a) ⟨G, g2, d2, t2, os2⟩ ∧ (∀ b o, G.get? b = some o → h2.get? b = some o) ∧ G.get? a = none ∧
      h2.get? a = some ({ cls := .ref C, dict := none, data := .fields #[.ref t0, .none, .none, .none, .bool false, .none] } : Obj) ∧ (del H2 a) a = none := by
  obtain ⟨t0, hoe⟩ := exo_at hok ea
  have hn : H1 a = none := I1.hok.fresh ha
  obtain ⟨G, g1', g2'⟩ := restrict h2 fun b => decide (b ≠ a)
  have gk : ∀ b, b ≠ a → G.get? b = h2.get? b := fun b hb => g1' b (decide_eq_true hb)
  have ge : G.get? a = none := g2' a (by simp)
  have nha : ∀ {b : Addr} {o : Obj}, hp.get? b = some o → b ≠ a := fun {b o} z => Nat.ne_of_lt (Nat.lt_of_lt_of_le (Heap.lt_size z) ha)
  have up : ∀ {b : Addr}, b ≠ a → H1 b = none → upd H1 a (exo a C none) b = none := fun {b} hb n => by rw [upd_ne hb]; exact n
  have U : Un (frs X.stack) [] H1 (del H2 a) hp G := {
    keep := fun b o z n hf hx => by
      rw [gk b (nha z)]
      exact un.keep b o (k b o z) (up (nha z) n) hf hx
    slot := fun b o z n hf hx => by
      rw [gk b (nha z)]
      exact un.slot b o (k b o z) (up (nha z) n) hf hx
    free := fun b o z n hx => by
      rw [del_ne (nha z)]
      exact un.free b o (k b o z) (up (nha z) n) hx
    there := fun b o z hx => by
      rw [gk b (nha z)]
      exact un.there b o (k b o z) hx
    tups := fun b xs z => by
      rw [del_ne (ne_of_none z hn)]
      exact un.tups b xs (by rw [upd_ne (ne_of_none z hn)]; exact z)
    frzs := fun b o v z => by
      rw [del_ne (ne_of_none z hn)]
      exact un.frzs b o v (by rw [upd_ne (ne_of_none z hn)]; exact z)
    tbls := fun b ps z => by
      rw [del_ne (ne_of_none z hn)]
      exact un.tbls b ps (by rw [upd_ne (ne_of_none z hn)]; exact z) }
  have hok3 : HOk X.prog X.w (del H2 a) G := fun b o z => by
    have hba : b ≠ a := fun e => by
      rw [e, del_same] at z
      cases z
    rw [del_ne hba] at z
    have noa : ∀ {c : Addr}, H2 c = some (.own b) → c ≠ a := fun {c} hc => at_ne ea hc exo_own
    exact (hok b o z).stay (fun c v hc y => by
        have hca : c ≠ a := by
          rcases hc with hc | hc
          · rw [hc]
            exact hba
          · exact noa hc
        rw [gk c hca]
        exact y)
      (fun c hc => by rw [del_ne (noa hc)]; exact hc) (fun c xs hc => by rw [del_ne (at_ne ea hc exo_tup)]; exact hc)
  have J : L2.Inv X pins σ (del H2 a) ⟨G, g2, d2, t2, os2⟩ := I1.call' (ch := []) ho U hok3 hb (fun b z => absurd z (by simp))
  refine ⟨t0, G, J, fun b o z => ?_, ge, hoe, del_same⟩
  by_cases hba : b = a
  · rw [hba, ge] at z
    cases z
  · exact (gk b hba).symm.trans z
open PyProof.Rows PySem.Spec in
theorem pmk_oexN {CX : CXT} {x : Str} {C fI : Addr} {k : Nat} {fd : FuncData} {ps : List Str} {sp : Sp} {p : Pos} (T : OexC X.K C) (iC : PySem.W.findIn X.K (.ref C) "__init__" = some (some (.ref fI))) (tI : PySem.W.typeIn X.K (.ref fI) = some (.type "function"))
    (F1 : FnOk X.prog X.w X.K X.mg X.base CX k fI fd ps sp) (hr : Room (k + 1) X.A) (hb : Binds X.K fd ps []) (hx : Passes CX X (fun _ _ _ => False)) (hg : Gl X x) (hm : X.mg x = some (.ref C))
    (hdb : (x == ("__debug__" : Str)) = false := by decide) :
    PMk X (.Call (.Name x p) [] [] pos) (tMkN C sp) := by
  intro pins s σ H Q I q1
  obtain ⟨nm, q, N, bs, bm, sn, sub, ab, col, dd, k0, k1, k2, k3, k5, hC, hbm⟩ := T.cls
  refine wpAny_Call_Name_kw (ld_glob I hg hm ?_ hdb)
  refine PySem.W.callWith_K0 I.kIn T.kC ?_
  show wpAny _ _ (call (.ref C) []) _ _ _
  obtain ⟨hp, g, dr, tk, os⟩ := s
  have hsz : hp.objs.size ≤ hp.objs.size + 1 := Nat.le_succ _
  have hn : H (hp.objs.size + 1) = none := I.hok.fresh hsz
  have hq := q1 (hp.objs.size + 1) hn
  have kk : ∀ b o, hp.get? b = some o → ((hp.push (PySem.W.kdv_tup [])).push (PySem.HandSPX.excO C hp.objs.size)).get? b = some o := fun b o e => Heap.get?_push_of_some _ (Heap.get?_push_of_some _ e)
  have hget : ((hp.push (PySem.W.kdv_tup [])).push (PySem.HandSPX.excO C hp.objs.size)).get? (hp.objs.size + 1) = some (PySem.HandSPX.excO C hp.objs.size) := by heap_get
  have I2 : L2.Inv X pins σ (upd H (hp.objs.size + 1) (exo (hp.objs.size + 1) C none)) ⟨(hp.push (PySem.W.kdv_tup [])).push (PySem.HandSPX.excO C hp.objs.size), g, dr, tk, os⟩ :=
    I.laid (t' := tk) (a := hp.objs.size + 1) (o := exo (hp.objs.size + 1) C none) (h' := (hp.push (PySem.W.kdv_tup [])).push (PySem.HandSPX.excO C hp.objs.size)) kk hsz (exo_ok hget)
  have r2 : Vals [V.ref (hp.objs.size + 1)] [Value.ref (hp.objs.size + 1)] := .cons rfl .nil
  have hl : ([Value.ref (hp.objs.size + 1)] : List Value).length = ps.length := by
    have e := r2.length
    rw [F1.len _ _ _ _ hq] at e
    exact e.symm
  refine wpAny_call (PySem.HandSPX.call_own F.excBase_ValueError (fun Y => PySem.HandSPX.refsVE_contains Y bm hbm) (I.kIn _ _ hC) (PySem.W.looks_findIn I.kIn iC) (fun self => PySem.W.bind_fn I.kIn self tI) (by simp)
    (codeAny_mono (F1.run _ X.stack _ _ ⟨[Value.ref (hp.objs.size + 1)], []⟩ ([Value.ref (hp.objs.size + 1)] ++ []) _ _ (fun _ _ _ => False) (hr.make C [] []) (I2.env0.make C [] []) (hb _ [Value.ref (hp.objs.size + 1)] I2.kIn hl) (r2.append .nil) hq) fun r s' hq' => ?_))
  cases r with
  | error er => exact hx pins σ _ _ er s' I2 hq'
  | ok fl =>
    cases fl with
    | ret u =>
      obtain ⟨v, H2, os2, bare2, un2, hok2, rv, ev, ea, q2⟩ := hq'
      subst ev
      obtain ⟨h2, g2, d2, t2, os'⟩ := s'
      refine ⟨rv, ?_⟩
      obtain ⟨t0, G, J, kG, ge, hoe, na⟩ := mk_endN (d2 := d2) (t2 := t2) I hsz kk un2 hok2 os2 bare2 ea
      exact ⟨hp.objs.size + 1, _, _, ⟨G, g2, d2, t2, os'⟩, _, .ref C, none, rfl, J, kG, ge, hoe, ⟨rfl, rfl⟩, rfl, rfl, na, rfl, bare2, raises_own T.exC T.tyC, q2⟩
    | next => exact False.elim hq'
    | brk => exact False.elim hq'
    | cont => exact False.elim hq'
end

theorem del_upd {H : Hp} {a : Addr} {o : HO} (h : H a = none) : del (upd H a o) a = H := by
  funext b
  by_cases hb : b = a
  · rw [hb, del_same, h]
  · rw [del_ne hb, upd_ne hb]
/-- isinstance of what the suite holds -/
theorem call_isE2 {X : Cx} {a : Addr} {oe : Obj} {cls : Value} {d : Option Addr} {pn : List (Addr × Obj)} (hz : Zc cls d oe) (hf : ∃ vs, oe.data = .fields vs) :
    CallR (X.suite a ((a, oe) :: pn)) (.builtin "isinstance") (fun xs H Q => ∃ (D C : Addr) (b : Bool), cls = .ref D ∧ d = none ∧ ExcC X.K D ∧ xs = [.ref a, .ref C] ∧ PySem.W.kitOne X.K (.ref D) (.ref C) = some b ∧ Q (.bl b) H) := by
  intro pins s σ H xs us Q I r h
  obtain ⟨D, C, b, rfl, rfl, E, rfl, hk, q⟩ := h
  exact call_isE E hz hf pins s σ H _ us Q I r ⟨.ref C, .ref C, b, rfl, fun u h => h, hk, q⟩
/-- isinstance of what the suite holds, a built-in class -/
theorem call_isET {X : Cx} {a : Addr} {oe : Obj} {cls : Value} {d : Option Addr} {pn : List (Addr × Obj)} (hz : Zc cls d oe) (hf : ∃ vs, oe.data = .fields vs) :
    CallR (X.suite a ((a, oe) :: pn)) (.builtin "isinstance") (fun xs H Q => ∃ (D : Addr) (n : String) (b : Bool), cls = .ref D ∧ d = none ∧ ExcC X.K D ∧ xs = [.ref a, .ty n] ∧ PySem.W.kitOne X.K (.ref D) (.type n) = some b ∧ Q (.bl b) H) := by
  intro pins s σ H xs us Q I r h
  obtain ⟨D, n, b, rfl, rfl, E, rfl, hk, q⟩ := h
  exact call_isE E hz hf pins s σ H _ us Q I r ⟨.ty n, .type n, b, rfl, fun u h => h, hk, q⟩
theorem kit_tyE {K : PySem.W.Frag} {D : Addr} {n : String} {b : Bool} (h1 : PySem.W.kitMeta n = true) (h4 : PySem.W.subIn K (.ref D) (.type n) = some b) : PySem.W.kitOne K (.ref D) (.type n) = some b := by
  unfold PySem.W.kitOne PySem.W.kitCls
  rw [if_neg (by intro h; cases h)]
  dsimp only
  rw [if_pos h1]
  exact h4
structure Xc (K : PySem.W.Frag) (mg : Str → Option Value) (x : Str) : Type where
  C : Addr
  m : mg x = some (.ref C)
  oex : OexC K C
  ex : ExcC K C
structure Bc (K : PySem.W.Frag) (mg : Str → Option Value) (x : Str) : Type where
  C : Addr
  m : mg x = some (.ref C)
  mc : Value
  rd : ClX.CRead K C mc
  cv : PySem.W.findCls K (.ref C) mc "__init__" = some (.val (.builtin "ValueError.__init__"))
structure Xi (K : PySem.W.Frag) (C : Addr) (qual : Str) (st : Stmt) (ps : List Str) : Type where
  f : Addr
  fd : FuncData
  F : Fun K "__init__" qual st f fd
  b : Binds K fd ps []
  iC : PySem.W.findIn K (.ref C) "__init__" = some (some (.ref f))
  tI : PySem.W.typeIn K (.ref f) = some (.type "function")

theorem kit_self {K : PySem.W.Frag} {t : Value} : PySem.W.kitOne K t t = some true := by
  unfold PySem.W.kitOne; rw [if_pos (beq_self_eq_true _)]
theorem kit_sub {K : PySem.W.Frag} {t : Value} {C : Addr} {b : Bool} (ne : (t == Value.ref C) = false) (h2 : PySem.W.isClsIn K C = true) (h3 : PySem.W.typeIn K (.ref C) = some (.type "type")) (h4 : PySem.W.subIn K t (.ref C) = some b) : PySem.W.kitOne K t (.ref C) = some b := by
  unfold PySem.W.kitOne PySem.W.kitCls
  have h2' : (PySem.W.clsIn K C).isSome = true := h2
  rw [if_neg (by rw [ne]; decide)]
  dsimp only
  rw [if_pos (by rw [h2', h3]; rfl)]
  exact h4

/-- C() of a class without any __init__ -/
structure Mk0 (K : PySem.W.Frag) (C : Addr) : Prop where
  makes : PySem.W.makesIn K C = true
  init : PySem.W.findIn K (.ref C) "__init__" = some (some (.builtin "object.__init__"))
  top : PySem.W.mroIn K C (.type "object") = some true
  kp : PySem.W.keepIn K (.ref C) = true
section
variable {X : Cx} {C : Addr} {x : Str} {p pos : Pos}
open PySem.W PySem.Calls PyProof.Rows NwA in
theorem run_make00 {pins : List (Addr × Obj)} {σ : L2.St} {H : Hp} {s : Shared} {Q : VK} (M : Mk0 X.K C) (I : L2.Inv X pins σ H s)
    (h : ∀ x dx, H x = Option.none → H dx = Option.none → dx ≠ x → Q (.ref x) (upd (upd H dx (.own x)) x (.ins C dx []))) : wpAny (model X.prog X.w) X.A (PySem.call (.ref C) []) (EP X pins σ Q) X.xe s := by
  have hq := h (s.heap.objs.size + 1) s.heap.objs.size (I.hok.fresh (Nat.le_succ _)) (I.hok.fresh (Nat.le_refl _)) (Nat.ne_of_lt (Nat.lt_succ_self _))
  have I2 := Inv.made (C := C) I
  refine wpAny_call (make_map0 I.kIn M.makes M.init (fun self => Looks.of_pure (oi_bind _)) ?_)
  have ho : ((s.heap.push PySem.W.emptyDict).push (PySem.W.instObj C s.heap.objs.size)).get? (s.heap.objs.size + 1) = some (PySem.W.instObj C s.heap.objs.size) := by
    have := Heap.get?_push_size (s.heap.push PySem.W.emptyDict) (o := PySem.W.instObj C s.heap.objs.size) rfl
    rwa [Heap.size_push] at this
  have t1 : Looks (model X.prog X.w) ((s.heap.push PySem.W.emptyDict).push (PySem.W.instObj C s.heap.objs.size)) (typeOf (.ref (s.heap.objs.size + 1))) (.ref C) := type_at ho rfl
  have t2 : Looks (model X.prog X.w) ((s.heap.push PySem.W.emptyDict).push (PySem.W.instObj C s.heap.objs.size)) (isInstance (.ref (s.heap.objs.size + 1)) (.type "object")) true := t1.andThen (looks_mroIn I2.kIn M.top)
  refine codeAny_call_builtin oi_plain entry_oi (@check_slot _ _ _ _ "object.__init__" "object" "__init__" (.ref (s.heap.objs.size + 1)) [] [] _ oi_kind oi_split t2 (oi_args_any _ [] []) ?_)
  rw [oi_run]
  exact wpAny_pure ⟨rfl, ⟨V.ref (s.heap.objs.size + 1), _, I2, rfl, hq⟩⟩
def tMake00 (C : Addr) : TE := fun _ H Q => ∀ x dx, H x = none → H dx = none → dx ≠ x → Q (.ref x) (upd (upd H dx (.own x)) x (.ins C dx []))
theorem pe_make00 (M : Mk0 X.K C) (hg : Gl X x) (hm : X.mg x = some (.ref C)) (hdb : (x == ("__debug__" : Str)) = false := by decide) : PE X (.Call (.Name x p) [] [] pos) (tMake00 C) := by
  refine ⟨fun pins s σ H Q I h => ?_⟩
  refine wpAny_Call_Name_kw (ld_glob I hg hm ?_ hdb)
  exact PySem.W.callWith_K0 I.kIn M.kp (run_make00 M I h)
/-- one of two readings -/
theorem pe_alt {e : Expr} {t u : TE} (h1 : PE X e t) (h2 : PE X e u) : PE X e (fun σ H Q => t σ H Q ∨ u σ H Q) :=
  ⟨fun pins s σ H Q I h => h.elim (h1.run pins s σ H Q I) (h2.run pins s σ H Q I)⟩
end

theorem free2 {H : Hp} {dx x : Addr} {o : HO} (hne : dx ≠ x) (hx : H x = none) : upd H dx o x = none := by rw [upd_ne (fun z => hne z.symm)]; exact hx
/-- a method of one of several classes -/
def MAlt (X : Cx) (CX : CXT) (m : Str) (C : Addr) (sp : Sp) : Prop :=
  ∃ f fd ps k, Cls X.K C ∧ Meth X.K C m f ∧ FnOk X.prog X.w X.K X.mg X.base CX k f fd ps sp ∧ Room k X.A ∧ Binds X.K fd ps []
def tMethA (R : Addr → Sp → Prop) (m : Str) (E : XK) (ta : TE) (t : TA) : TE := fun σ H Q => ta σ H fun x H1 => ∃ a dx fs C sp, x = .ref a ∧ R C sp ∧ H1 a = some (.ins C dx fs) ∧ fs.lookup m = none ∧ t σ H1 fun vs H2 => sp (.ref a :: vs) H2 Q E
section
variable {X : Cx} {CX : CXT} {E : XK} {R : Addr → Sp → Prop} {o e : Expr} {es : List Expr} {m : Str} {apos pos : Pos} {ta : TE} {t : TA}
theorem pe_methA {pl : Sem Bool} (he : PE X o ta) (hall : ∀ C sp, R C sp → MAlt X CX m C sp) (hx : Passes CX X E) (ha : PA X (e :: es) t)
    (hst : starEach (e :: es) X.env = (false, eval e X.env) :: starEach es X.env := by rfl) (hpl : (backTo pos (starEach es X.env)).any (·.1) = false := by rfl)
    (ht : eval (.Call (.Attribute o m apos) (e :: es) [] pos) X.env = (do
      let ov ← eval o X.env
      standAt apos.atName
      let (f, first) ← holding [ov] (getMethod ov m pl)
      callWith pos f first (backTo pos (starEach (e :: es) X.env)) (backToKw pos (keywordEach [] X.env))) := by rfl) :
    PE X (.Call (.Attribute o m apos) (e :: es) [] pos) (tMethA R m E ta t) := by
  refine ⟨fun pins s σ H Q I h => ?_⟩
  refine PySem.W.methodCall_KW (pl := pl) (thn (he.run pins s σ H _ I h) fun u s1 ⟨x, H1, I1, rx, a, dx, fs, C, sp, ex, hr, ea, l, q⟩ => ?_) ht
  obtain ⟨f, fd, ps, k, c, hm, F, hr, hb⟩ := hall C sp hr
  subst ex
  obtain rfl : u = Value.ref a := rx
  refine getmeth_ok I1 ea c hm l ?_
  refine PySem.W.callWith_K (first := [.ref a]) (h₀ := X.base) I.ok.mod.kin hm.kp (thn (ha.run pos pins s1 σ H1 _ I1 q) fun us s2 ⟨vs, H2, I2, r, q2⟩ => ⟨I2.kIn, ?_⟩) hst hpl
  exact run_fn (us := .ref a :: us) (vs := .ref a :: vs) F hr hb .nil hx I2 (.cons rfl r) (by rw [List.append_nil]; exact q2)
theorem pe_methA0 {pl : Sem Bool} (he : PE X o ta) (hall : ∀ C sp, R C sp → MAlt X CX m C sp) (hx : Passes CX X E)
    (ht : eval (.Call (.Attribute o m apos) [] [] pos) X.env = (do
      let ov ← eval o X.env
      standAt apos.atName
      let (f, first) ← holding [ov] (getMethod ov m pl)
      callWith pos f first (backTo pos (starEach [] X.env)) (backToKw pos (keywordEach [] X.env))) := by rfl) :
    PE X (.Call (.Attribute o m apos) [] [] pos) (tMethA R m E ta tNil) := by
  refine ⟨fun pins s σ H Q I h => ?_⟩
  refine PySem.W.methodCall_KW (pl := pl) (thn (he.run pins s σ H _ I h) fun u s1 ⟨x, H1, I1, rx, a, dx, fs, C, sp, ex, hr, ea, l, q⟩ => ?_) ht
  obtain ⟨f, fd, ps, k, c, hm, F, hr, hb⟩ := hall C sp hr
  subst ex
  obtain rfl : u = Value.ref a := rx
  refine getmeth_ok I1 ea c hm l ?_
  exact PySem.W.callWith_K0 (first := [.ref a]) I1.kIn hm.kp (run_fn (us := [.ref a]) (vs := [.ref a]) F hr hb .nil hx I1 (.cons rfl .nil) q)
end
theorem mal_one {X : Cx} {CX : CXT} {m : Str} {C0 : Addr} {sp0 : Sp} (h : MAlt X CX m C0 sp0) : ∀ C sp, (C = C0 ∧ sp = sp0) → MAlt X CX m C sp := by
  rintro _ _ ⟨rfl, rfl⟩; exact h
theorem mal_or {X : Cx} {CX : CXT} {m : Str} {R1 R2 : Addr → Sp → Prop} (h1 : ∀ C sp, R1 C sp → MAlt X CX m C sp) (h2 : ∀ C sp, R2 C sp → MAlt X CX m C sp) : ∀ C sp, (R1 C sp ∨ R2 C sp) → MAlt X CX m C sp :=
  fun C sp h => h.elim (h1 C sp) (h2 C sp)
/-- a class of the text whose instances are made -/
structure Kc (K : PySem.W.Frag) (mg : Str → Option Value) (x : Str) : Type where
  C : Addr
  m : mg x = some (.ref C)
  cl : Cls K C
structure Dm (K : PySem.W.Frag) (x qual : Str) (st : Stmt) (ps : List Str) : Type where
  f : Addr
  fd : FuncData
  F : Fun K x qual st f fd
  b : Binds K fd ps []
/-! ### C.f(self, ..), a def of an own class called by the class's name -/
section
variable {X : Cx} {CX : CXT} {k : Nat} {f B : Addr} {fd : FuncData} {ps : List Str} {sp : Sp} {E : XK} {b m : Str} {mc : Value} {p1 p2 pos : Pos} {e : Expr} {es : List Expr} {t : TA}
open PyProof.Rows PySem.Spec in
theorem pe_cdef {pl : Sem Bool} (hg : Gl X b) (hm : X.mg b = some (.ref B)) (rd : ClX.CRead X.K B mc) (cv : PySem.W.findCls X.K (.ref B) mc m = some (.val (.ref f))) (hk : PySem.W.keepIn X.K (.ref f) = true)
    (F : FnOk X.prog X.w X.K X.mg X.base CX k f fd ps sp) (hr : Room k X.A) (hb : Binds X.K fd ps []) (hx : Passes CX X E) (ha : PA X (e :: es) t)
    (hdb : (b == ("__debug__" : Str)) = false := by decide)
    (hc : eval (.Call (.Attribute (.Name b p1) m p2) (e :: es) [] pos) X.env = (do
      let ov ← eval (.Name b p1) X.env
      standAt p2.atName
      let (f, first) ← holding [ov] (getMethod ov m pl)
      callWith pos f first (backTo pos (starEach (e :: es) X.env)) (backToKw pos (keywordEach [] X.env))) := by rfl)
    (he : starEach (e :: es) X.env = (false, eval e X.env) :: starEach es X.env := by rfl) (hpl : (backTo pos (starEach es X.env)).any (·.1) = false := by rfl) :
    PE X (.Call (.Attribute (.Name b p1) m p2) (e :: es) [] pos) (tCall sp [] E t) := by
  refine ⟨fun pins s σ H Q I h => ?_⟩
  refine PySem.W.methodCall_KW (ld_glob I hg hm ?_ hdb) hc
  refine PySem.W.method_cls I.kIn rd.ga (PySem.W.cls_value I.kIn rd.rd cv rfl ?_)
  refine PySem.W.callWith_K (first := []) (h₀ := X.base) I.ok.mod.kin hk (thn (ha.run pos pins _ σ H _ (I.tok _) h) fun us s1 ⟨vs, H1, I1, r, q⟩ => ⟨I1.kIn, ?_⟩) he hpl
  exact run_fn F hr hb .nil hx I1 r q
end
/-- what C.f needs of C -/
structure Cc (K : PySem.W.Frag) (C : Addr) (m : Str) (f : Addr) : Type where
  mc : Value
  rd : ClX.CRead K C mc
  cv : PySem.W.findCls K (.ref C) mc m = some (.val (.ref f))

/-- isinstance of an instance of an own class -/
structure Ic (K : PySem.W.Frag) (C : Addr) : Prop where
  ha : PySem.W.findIn K (.ref C) "__class__" = some (some (.builtin "object.__class__"))
  hn : PySem.W.specialIn K (.builtin "object.__class__") "__get__" = some (some (.builtin "getset_descriptor.__get__"))
  ht : PySem.W.takesIn K (.builtin "object.__class__") = some true
  hm : PySem.W.mroIn K C (.type "object") = some true
theorem tyIns {K : PySem.W.Frag} {H : Hp} {a C dx : Addr} {fs : List (Str × V)} (cl : Cls K C) (i : Ic K C) (e : H a = some (.ins C dx fs)) : TyX K H (.ref a) (.ref C) := .base (.ins e cl i.ha i.hn i.ht i.hm)

end Ow
namespace Ow
open PySem L2
local macro_rules | `(tactic| walk_at "o2") => `(tactic| first | with_reducible assumption | exact Ow.divw64 (by omega) (by omega) | exact Ow.mul0 ⟨by omega, by omega⟩ | exact Ow.mul1 ⟨by omega, by omega⟩ | exact Ow.shl0 (by omega) (by omega) (by omega) | exact ⟨by omega, by omega⟩ | exact ⟨by omega, by omega, by omega⟩ | omega | (simp only [List.length_append, List.length_cons, List.length_nil]; omega) | (subst_vars; omega) | assumption | exact Ow.divW (by omega) (by omega) | exact Ow.mulW ⟨by omega, by omega⟩ ⟨by omega, by omega⟩ | exact Ow.shlW (by omega) (by omega) ⟨by omega, by omega⟩)
local macro_rules | `(tactic| walk_at "ob") => `(tactic| first | assumption | omega | exact ⟨by omega, by omega⟩ | exact ⟨by omega, by omega, by omega⟩ | exact Ow.divw64 (by omega) (by omega) | exact Or.inl ⟨by omega, by omega⟩ | exact Or.inr ⟨by omega, by omega⟩)
inductive F_Form where
  | Shifted
  | Scaled
  | Early
  | More
  | Wide
inductive Tf_Form where
  | shifted (s : Int)
  | scaled (f : Int) (s : Int)
  | early (e : Int) (f : Int) (s : Int)
  | more (f : Int) (s : Int)
  | wide (f : Int) (s : Int)
def tl_Form : Tf_Form → List V
  | .shifted s => [V.str ("shifted"), V.int (s)]
  | .scaled f s => [V.str ("scaled"), V.int (f), V.int (s)]
  | .early e f s => [V.str ("early"), V.int (e), V.int (f), V.int (s)]
  | .more f s => [V.str ("more"), V.int (f), V.int (s)]
  | .wide f s => [V.str ("wide"), V.int (f), V.int (s)]
def fl_Form : Tf_Form → List (Str × V)
  | .shifted s => [(("early" : Str), V.int (0)), (("factor" : Str), V.int (1)), (("shift" : Str), V.int (s))]
  | .scaled f s => [(("early" : Str), V.int (0)), (("factor" : Str), V.int (f)), (("shift" : Str), V.int (s))]
  | .early e f s => [(("early" : Str), V.int (e)), (("factor" : Str), V.int (f)), (("shift" : Str), V.int (s))]
  | .more f s => [(("early" : Str), V.int (0)), (("factor" : Str), V.int (f)), (("shift" : Str), V.int (s))]
  | .wide f s => [(("early" : Str), V.int (0)), (("factor" : Str), V.int (f)), (("shift" : Str), V.int (s))]
def kn_Form : Tf_Form → F_Form
  | .shifted s => .Shifted
  | .scaled f s => .Scaled
  | .early e f s => .Early
  | .more f s => .More
  | .wide f s => .Wide

/-- x turned right by k in a word of w bits -/
def turn (w x k : Int) : Int := x / 2 ^ k.toNat + x % 2 ^ k.toNat * 2 ^ (w - k).toNat
/-- the twos of d and the inverse of what is left -/
def Ex (w d t i : Int) : Prop := 0 ≤ t ∧ t < w ∧ 1 ≤ d ∧ d < 2 ^ w.toNat ∧ d % 2 ^ t.toNat = 0 ∧ d / 2 ^ t.toNat % 2 = 1 ∧ 0 ≤ i ∧ i < 2 ^ w.toNat ∧ i * (d / 2 ^ t.toNat) % 2 ^ w.toNat = 1
theorem turn_zero (w x : Int) : turn w x 0 = x := by
  unfold turn
  simp
/-- a number between 0 and M that is 0 by M is 0 -/
theorem zero_of {M c : Int} (h0 : -M < M * c) (h1 : M * c < M) (hM : 0 < M) : c = 0 := by
  by_cases h : c = 0
  · exact h
  · exfalso
    by_cases h2 : 0 < c
    · have : M * 1 ≤ M * c := Int.mul_le_mul_of_nonneg_left (by omega) (by omega)
      omega
    · have : M * c ≤ M * (-1) := Int.mul_le_mul_of_nonneg_left (by omega) (by omega)
      omega
theorem split_d {A e d : Int} (hd : d % A = 0) (he : d / A = e) : d = A * e := by
  have := Int.mul_ediv_add_emod d A
  rw [hd, he] at this
  omega
theorem core {A B e i x y : Int} (hA : 0 < A) (hB : 0 < B) (he : 0 < e) (hi : i * e % (A * B) = 1) (x0 : 0 ≤ x) (x1 : x < A * B) (hy : y = x * i % (A * B)) :
    y / A + y % A * B ≤ (A * B - 1) / (A * e) ↔ x % (A * e) = 0 := by
  have hM : 0 < A * B := Int.mul_pos hA hB
  have hD : 0 < A * e := Int.mul_pos hA he
  have y0 : 0 ≤ y := hy ▸ Int.emod_nonneg _ (by omega)
  have y1 : y < A * B := hy ▸ Int.emod_lt_of_pos _ hM
  obtain ⟨z, hz⟩ : ∃ z, i * e = 1 + A * B * z := ⟨i * e / (A * B), by have := Int.mul_ediv_add_emod (i * e) (A * B); omega⟩
  obtain ⟨c, hc⟩ : ∃ c, x * i = y + A * B * c := ⟨x * i / (A * B), by have := Int.mul_ediv_add_emod (x * i) (A * B); omega⟩
  have hx : x = y * e + A * B * (c * e - x * z) := by
    have e1 : x * i * e = x + A * B * (x * z) := by rw [Int.mul_assoc, hz, Int.mul_add, Int.mul_one, ← Int.mul_assoc, Int.mul_comm x (A * B), Int.mul_assoc]
    have e2 : x * i * e = y * e + A * B * (c * e) := by rw [hc, Int.add_mul, Int.mul_assoc (A * B)]
    rw [Int.mul_sub]
    omega
  constructor
  · intro h
    generalize hb : (A * B - 1) / (A * e) = b at h
    have b1 : A * e * b ≤ A * B - 1 := hb ▸ Int.mul_ediv_self_le (by omega)
    have b0 : 0 ≤ b := hb ▸ Int.ediv_nonneg (by omega) (by omega)
    have bB : b < B := by
      by_cases hbb : b < B
      · exact hbb
      · exfalso
        have s1 : A * B ≤ A * b := Int.mul_le_mul_of_nonneg_left (by omega) (by omega)
        have s2 : A * b * 1 ≤ A * b * e := Int.mul_le_mul_of_nonneg_left (by omega) (Int.mul_nonneg (by omega) b0)
        have s3 : A * b * e = A * e * b := Int.mul_right_comm ..
        omega
    have q0 : 0 ≤ y / A := Int.ediv_nonneg y0 (by omega)
    have r0 : 0 ≤ y % A := Int.emod_nonneg _ (by omega)
    have rz : y % A = 0 := by
      by_cases h1 : y % A = 0
      · exact h1
      · have : 1 * B ≤ y % A * B := Int.mul_le_mul_of_nonneg_right (by omega) (by omega)
        omega
    rw [rz, Int.zero_mul, Int.add_zero] at h
    have ya := split_d rz rfl
    have s3 : A * e * (y / A) ≤ A * e * b := Int.mul_le_mul_of_nonneg_left h (by omega)
    have s4 : y * e = A * e * (y / A) := by
      have : A * (y / A) * e = A * e * (y / A) := Int.mul_right_comm ..
      rw [← ya] at this
      exact this
    have s5 : 0 ≤ A * e * (y / A) := Int.mul_nonneg (by omega) q0
    have := zero_of (M := A * B) (c := c * e - x * z) (by omega) (by omega) hM
    rw [this] at hx
    rw [hx, s4, Int.mul_zero, Int.add_zero]
    exact Int.mul_emod_right ..
  · intro h
    have hxq := split_d h rfl
    generalize x / (A * e) = q at hxq
    have q0 : 0 ≤ q := by
      by_cases hq : 0 ≤ q
      · exact hq
      · have : A * e * q ≤ A * e * (-1) := Int.mul_le_mul_of_nonneg_left (by omega) (by omega)
        omega
    have a0 : 0 ≤ A * q := Int.mul_nonneg (by omega) q0
    have a1 : A * q * 1 ≤ A * q * e := Int.mul_le_mul_of_nonneg_left (by omega) a0
    have a2 : A * q * e = x := by rw [hxq]; exact Int.mul_right_comm ..
    have yq : y = A * q := by
      have t1 : x * i = A * q + A * B * (A * q * z) := by
        rw [← a2, Int.mul_assoc (A * q), Int.mul_comm e i, hz, Int.mul_add, Int.mul_one, ← Int.mul_assoc, Int.mul_comm (A * q) (A * B), Int.mul_assoc]
      rw [hy, t1, Int.add_mul_emod_self_left]
      exact Int.emod_eq_of_lt a0 (by omega)
    rw [yq, Int.mul_ediv_cancel_left _ (by omega), Int.mul_emod_right, Int.zero_mul, Int.add_zero]
    refine Int.le_ediv_of_mul_le hD ?_
    rw [Int.mul_comm, ← hxq]
    omega
theorem ex_split {w d t i : Int} (h : Ex w d t i) : (2 : Int) ^ w.toNat = 2 ^ t.toNat * 2 ^ (w - t).toNat ∧ d = 2 ^ t.toNat * (d / 2 ^ t.toNat) ∧ 0 < d / 2 ^ t.toNat := by
  obtain ⟨t0, t1, d0, d1, h1, h2, i0, i1, h3⟩ := h
  have e := split_d h1 rfl
  refine ⟨by rw [← Int.pow_add]; congr 1; omega, e, ?_⟩
  by_cases z : 0 < d / 2 ^ t.toNat
  · exact z
  · have : 2 ^ t.toNat * (d / 2 ^ t.toNat) ≤ 0 := Int.mul_nonpos_of_nonneg_of_nonpos (by have := p2 t.toNat; omega) (by omega)
    omega
theorem mult_iff {w d t i x : Int} (h : Ex w d t i) (x0 : 0 ≤ x) (x1 : x < 2 ^ w.toNat) : turn w (x * i % 2 ^ w.toNat) t ≤ (2 ^ w.toNat - 1) / d ↔ x % d = 0 := by
  obtain ⟨e1, e2, e3⟩ := ex_split h
  obtain ⟨t0, t1, d0, d1, h1, h2, i0, i1, h3⟩ := h
  unfold turn
  have := core (A := 2 ^ t.toNat) (B := 2 ^ (w - t).toNat) (e := d / 2 ^ t.toNat) (i := i) (x := x) (p2 _) (p2 _) e3 (by rw [← e1]; exact h3) x0 (by rw [← e1]; exact x1) rfl
  rw [← e1, ← e2] at this
  exact this
theorem exq {w d t i x : Int} (h : Ex w d t i) (x0 : 0 ≤ x) (x1 : x < 2 ^ w.toNat) (hx : x % d = 0) : x / 2 ^ t.toNat * i % 2 ^ w.toNat = x / d := by
  obtain ⟨e1, e2, e3⟩ := ex_split h
  obtain ⟨t0, t1, d0, d1, h1, h2, i0, i1, h3⟩ := h
  have hxq := split_d hx rfl
  have q0 : 0 ≤ x / d := Int.ediv_nonneg x0 (by omega)
  have q1 : x / d ≤ x := Int.ediv_le_self _ x0
  generalize x / d = q at hxq q0 q1
  generalize he : d / 2 ^ t.toNat = e at e2 e3 h3
  have a : x / 2 ^ t.toNat = e * q := by rw [hxq, e2, Int.mul_assoc]; exact Int.mul_ediv_cancel_left _ (by have := p2 t.toNat; omega)
  obtain ⟨z, hz⟩ : ∃ z, i * e = 1 + 2 ^ w.toNat * z := ⟨i * e / 2 ^ w.toNat, by have := Int.mul_ediv_add_emod (i * e) (2 ^ w.toNat); omega⟩
  have b : e * q * i = q + 2 ^ w.toNat * (q * z) := by
    rw [Int.mul_right_comm, Int.mul_comm e i, hz, Int.add_mul, Int.one_mul, Int.mul_assoc, Int.mul_comm z q]
  rw [a, b, Int.add_mul_emod_self_left]
  exact Int.emod_eq_of_lt q0 (by omega)
theorem tw_le {d t t2 : Int} (t0 : 0 ≤ t) (h1 : d / 2 ^ t.toNat % 2 = 1) (h1' : d % 2 ^ t.toNat = 0) (h2 : d % 2 ^ t2.toNat = 0) (s0 : 0 ≤ t2) : t2 ≤ t := by
  by_cases h : t2 ≤ t
  · exact h
  · exfalso
    have e : (2 : Int) ^ t2.toNat = 2 ^ t.toNat * (2 * 2 ^ (t2 - t - 1).toNat) := by
      rw [show (2 : Int) * 2 ^ (t2 - t - 1).toNat = 2 ^ ((t2 - t - 1).toNat + 1) by rw [Int.pow_succ, Int.mul_comm], ← Int.pow_add]
      congr 1; omega
    have d2 := split_d h2 rfl
    generalize d / 2 ^ t2.toNat = c at d2
    rw [e, Int.mul_assoc, Int.mul_assoc] at d2
    have : d / 2 ^ t.toNat = 2 * (2 ^ (t2 - t - 1).toNat * c) := by
      rw [d2]; exact Int.mul_ediv_cancel_left _ (by have := p2 t.toNat; omega)
    omega
theorem tw_uniq {d t t2 : Int} (t0 : 0 ≤ t) (h1 : d / 2 ^ t.toNat % 2 = 1) (h1' : d % 2 ^ t.toNat = 0) (s0 : 0 ≤ t2) (g1 : d / 2 ^ t2.toNat % 2 = 1) (g2 : d % 2 ^ t2.toNat = 0) : t = t2 := by
  have a := tw_le t0 h1 h1' g2 s0
  have b := tw_le s0 g1 g2 h1' t0
  omega
theorem inv_uniq' {x y d M : Int} (_hM : 1 < M) (x0 : 0 ≤ x) (x1 : x < M) (y0 : 0 ≤ y) (y1 : y < M) (hx : x * d % M = 1) (hy : y * d % M = 1) : x = y := by
  have e1 : x * (y * d) % M = x := by rw [Int.mul_emod, hy, Int.mul_one, Int.emod_emod_of_dvd _ (Int.dvd_refl _)]; exact Int.emod_eq_of_lt x0 x1
  have e2 : y * (x * d) % M = y := by rw [Int.mul_emod, hx, Int.mul_one, Int.emod_emod_of_dvd _ (Int.dvd_refl _)]; exact Int.emod_eq_of_lt y0 y1
  have e3 : x * (y * d) = y * (x * d) := Int.mul_left_comm ..
  rw [e3, e2] at e1
  exact e1.symm
theorem ex_uniq {w d t i t2 i2 : Int} (h : Ex w d t i) (g : Ex w d t2 i2) : t2 = t ∧ i2 = i := by
  obtain ⟨t0, t1, d0, d1, h1, h2, i0, i1, h3⟩ := h
  obtain ⟨s0, s1, _, _, g1, g2, j0, j1, g3⟩ := g
  have e := tw_uniq s0 g2 g1 t0 h2 h1
  subst e
  refine ⟨rfl, ?_⟩
  have : (2 : Int) ^ 1 ≤ 2 ^ w.toNat := by
    rw [show w.toNat = 1 + (w.toNat - 1) by omega, Int.pow_add]
    have := p2 (w.toNat - 1)
    omega
  exact inv_uniq' (M := 2 ^ w.toNat) (by omega) j0 j1 i0 i1 g3 h3
/-- the two parts of a turned word -/
theorem turn_parts {w x k : Int} (k0 : 0 ≤ k) (k1 : k ≤ w) : x * 2 ^ (w - k).toNat % 2 ^ w.toNat = x % 2 ^ k.toNat * 2 ^ (w - k).toNat := by
  rw [show (2 : Int) ^ w.toNat = 2 ^ k.toNat * 2 ^ (w - k).toNat by rw [← Int.pow_add]; congr 1; omega]
  rw [Int.mul_comm x, Int.mul_comm (2 ^ k.toNat), Int.mul_emod_mul_of_pos _ _ (p2 _), Int.mul_comm]
theorem nat_or {a b n : Nat} (h : a < 2 ^ n) : a ||| b * 2 ^ n = a + b * 2 ^ n := by
  rw [Nat.or_comm, Nat.mul_comm, ← Nat.two_pow_add_eq_or_of_lt h, Nat.add_comm]
theorem half_lt {w x k : Int} (x1 : x < 2 ^ w.toNat) (k0 : 0 ≤ k) (k1 : k ≤ w) : x / 2 ^ k.toNat < 2 ^ (w - k).toNat := by
  refine Int.ediv_lt_of_lt_mul (p2 _) ?_
  rw [← Int.pow_add, show (w - k).toNat + k.toNat = w.toNat by omega]
  exact x1
theorem half_pos {A d : Int} (hA : 0 < A) (h : d % A = 0) (d0 : 1 ≤ d) : 1 ≤ d / A ∧ d / A ≤ d := by
  have e := split_d h rfl
  have z : 0 < d / A := by
    by_cases z : 0 < d / A
    · exact z
    · have : A * (d / A) ≤ 0 := Int.mul_nonpos_of_nonneg_of_nonpos (by omega) (by omega)
      omega
  exact ⟨by omega, Int.ediv_le_self _ (by omega)⟩
/-- one turn of the loop that counts the twos -/
theorem twos_step {d t : Int} (t0 : 0 ≤ t) (h : d % 2 ^ t.toNat = 0) (h1 : d / 2 ^ t.toNat % 2 = 0) : d % 2 ^ (t + 1).toNat = 0 := by
  have e := split_d h rfl
  rw [show (t + 1).toNat = t.toNat + 1 by omega, Int.pow_succ]
  rw [e]
  obtain ⟨c, hc⟩ : ∃ c, d / 2 ^ t.toNat = 2 * c := ⟨d / 2 ^ t.toNat / 2, by omega⟩
  rw [hc, ← Int.mul_assoc]
  exact Int.mul_emod_right ..
theorem twos_lt {d t w : Int} (t0 : 0 ≤ t) (d0 : 1 ≤ d) (d1 : d < 2 ^ w.toNat) (h : d % 2 ^ t.toNat = 0) : t < w := by
  by_cases z : t < w
  · exact z
  · exfalso
    have e := Int.le_of_dvd (by omega) (Int.dvd_of_emod_eq_zero h)
    have : (2 : Int) ^ w.toNat ≤ 2 ^ t.toNat := by
      rw [show t.toNat = w.toNat + (t.toNat - w.toNat) by omega, Int.pow_add]
      have h1 := p2 (t.toNat - w.toNat)
      have h2 := p2 w.toNat
      have : 2 ^ w.toNat * 1 ≤ (2 : Int) ^ w.toNat * 2 ^ (t.toNat - w.toNat) := Int.mul_le_mul_of_nonneg_left (by omega) (by omega)
      omega
    omega
theorem twos_halve {d e t c : Int} (t0 : 0 ≤ t) (h : d = e * 2 ^ t.toNat) (h1 : e % 2 = 0) (hc : c = e / 2) : d = c * 2 ^ (t + 1).toNat := by
  rw [show (t + 1).toNat = t.toNat + 1 by omega, Int.pow_succ, h, show e = c * 2 by omega, Int.mul_assoc, Int.mul_comm 2]
theorem twos_end {d e t : Int} (h : d = e * 2 ^ t.toNat) (h1 : e % 2 ≠ 0) : d % 2 ^ t.toNat = 0 ∧ d / 2 ^ t.toNat % 2 = 1 := by
  have := p2 t.toNat
  rw [h, Int.mul_emod_left, Int.mul_ediv_cancel _ (by omega)]
  omega
theorem quot_mul {W d m q : Int} (d1 : 1 ≤ d) (hm : m = q * d) (q0 : 0 ≤ q) (hq : q ≤ (W - 1) / d) : 0 ≤ m ∧ m ≤ W - 1 := by
  subst hm
  have a := Int.mul_le_mul_of_nonneg_right hq (show 0 ≤ d by omega)
  have b : (W - 1) / d * d ≤ W - 1 := Int.ediv_mul_le _ (by omega)
  exact ⟨Int.mul_nonneg q0 (by omega), by omega⟩
theorem bor_turn {w x k a b r : Int} (x0 : 0 ≤ x) (x1 : x < 2 ^ w.toNat) (k0 : 0 ≤ k) (k1 : k ≤ w) (ha : a = x / 2 ^ k.toNat) (hb : b = x * 2 ^ (w - k).toNat % 2 ^ w.toNat) (hr : r = PySem.Builtin.bitOr a b) : r = turn w x k := by
  have a1 := half_lt x1 k0 k1
  have a0 : 0 ≤ a := ha ▸ Int.ediv_nonneg x0 (by have := p2 k.toNat; omega)
  rw [← ha] at a1
  rw [turn_parts k0 k1] at hb
  have n0 : 0 ≤ x % 2 ^ k.toNat := Int.emod_nonneg _ (by have := p2 k.toNat; omega)
  have ht : turn w x k = a + b := by unfold turn; rw [ha, hb]
  obtain ⟨n, hn⟩ := Int.eq_ofNat_of_zero_le n0
  obtain ⟨m, hm⟩ := Int.eq_ofNat_of_zero_le a0
  have hb2 : b = ((n * 2 ^ (w - k).toNat : Nat) : Int) := by rw [hb, hn, Int.natCast_mul, Int.natCast_pow]; rfl
  have hlt : m < 2 ^ (w - k).toNat := by
    have e : ((2 ^ (w - k).toNat : Nat) : Int) = 2 ^ (w - k).toNat := by rw [Int.natCast_pow]; rfl
    omega
  rw [hr, bitOr_nn a0 (by omega), ht, hm, hb2, Int.toNat_natCast, Int.toNat_natCast, nat_or hlt, Int.natCast_add]

def Stp (w d : Int) (xs : List Int) : Prop :=
  xs[0]? = some d ∧ (∀ (j : Nat) (x : Int), xs[j]? = some x → 0 ≤ x ∧ x < 2 ^ w.toNat ∧ (x * d - 1) % 2 ^ min w.toNat (3 * 2 ^ j) = 0) ∧
    ∀ (j : Nat) (x y : Int), xs[j]? = some x → xs[j + 1]? = some y → x * d % 2 ^ w.toNat ≠ 1 ∧ y = x * (2 - d * x) % 2 ^ w.toNat
theorem pow_dvd {a b : Nat} (h : a ≤ b) : (2 : Int) ^ a ∣ 2 ^ b := ⟨2 ^ (b - a), by rw [← Int.pow_add, show a + (b - a) = b by omega]⟩
theorem one_mod {x : Int} {M : Int} (h : 1 < M) : x % M = 1 ↔ M ∣ x - 1 := by
  constructor
  · intro e
    refine Int.dvd_of_emod_eq_zero ?_
    rw [Int.sub_emod, e, Int.emod_eq_of_lt (a := 1) (by omega) h]
    simp
  · intro e
    have e2 := Int.emod_eq_zero_of_dvd e
    have h1 := Int.emod_nonneg x (show M ≠ 0 by omega)
    have h2 := Int.emod_lt_of_pos x (show 0 < M by omega)
    obtain ⟨c, hc⟩ := e
    have : x = 1 + M * c := by omega
    rw [this, Int.add_mul_emod_self_left, Int.emod_eq_of_lt (by omega) h]
theorem pow_gt1 {w : Int} (h : 4 ≤ w) : (1 : Int) < 2 ^ w.toNat := by
  have e : (2 : Int) ^ w.toNat = 2 ^ 4 * 2 ^ (w.toNat - 4) := by rw [← Int.pow_add, show 4 + (w.toNat - 4) = w.toNat by omega]
  have := p2 (w.toNat - 4)
  rw [e]; omega
theorem stp_init {w d : Int} (hw : 4 ≤ w) (h0 : 1 ≤ d) (h1 : d < 2 ^ w.toNat) (ho : d % 2 = 1) : Stp w d [d] := by
  refine ⟨rfl, fun j x h => ?_, fun j x y _ h => ?_⟩
  · match j, h with
    | 0, h =>
      cases h
      refine ⟨by omega, h1, ?_⟩
      rw [show min w.toNat (3 * 2 ^ 0) = 3 by omega]
      obtain ⟨k, hk⟩ : ∃ k, d = 2 * k + 1 := ⟨d / 2, by omega⟩
      obtain ⟨m, hm⟩ : ∃ m, k * (k + 1) = 2 * m := by
        rcases Int.emod_two_eq k with z | z
        · obtain ⟨q, hq⟩ : ∃ q, k = 2 * q := ⟨k / 2, by omega⟩
          exact ⟨q * (k + 1), by rw [hq, Int.mul_assoc]⟩
        · obtain ⟨q, hq⟩ : ∃ q, k + 1 = 2 * q := ⟨(k + 1) / 2, by omega⟩
          exact ⟨k * q, by rw [hq, Int.mul_left_comm]⟩
      have e : d * d - 1 = 8 * m := by
        rw [hk]
        have : (2 * k + 1) * (2 * k + 1) - 1 = 4 * (k * (k + 1)) := by
          simp only [Int.mul_add, Int.add_mul, Int.mul_one, Int.one_mul]
          have : 2 * k * (2 * k) = 4 * (k * k) := by rw [Int.mul_assoc, Int.mul_left_comm k 2 k]; omega
          omega
        rw [this, hm]; omega
      rw [e]
      show 8 * m % 8 = 0
      omega
  · simp at h
theorem stp_step {w d l n : Int} {xs : List Int} (hw : 4 ≤ w) (h32 : w ≤ 32) (hx : Stp w d xs) (hl : xs.getLast? = some l) (hp : l * d % 2 ^ w.toNat ≠ 1)
    (hn : n = l * ((2 - l * d % 2 ^ w.toNat) % 2 ^ w.toNat) % 2 ^ w.toNat) (h5 : xs.length ≤ 5) : xs.length ≤ 4 ∧ Stp w d (xs ++ [n]) := by
  obtain ⟨a1, a2, a3⟩ := hx
  have hM := pow_gt1 hw
  have hlen : 0 < xs.length := by
    cases xs with
    | nil => simp at hl
    | cons => simp
  have hl' : xs[xs.length - 1]? = some l := by rw [← List.getLast?_eq_getElem?]; exact hl
  obtain ⟨l0, l1, l2⟩ := a2 _ _ hl'
  have hn' : n = l * (2 - d * l) % 2 ^ w.toNat := by
    rw [hn, Int.mul_emod l (_ % _), Int.emod_emod_of_dvd _ (Int.dvd_refl _), ← Int.mul_emod]
    rw [Int.mul_emod, Int.sub_emod 2 (l * d % _), Int.emod_emod_of_dvd _ (Int.dvd_refl _), ← Int.sub_emod, ← Int.mul_emod, Int.mul_comm l d]
  have h4 : xs.length ≤ 4 := by
    by_cases h : xs.length ≤ 4
    · exact h
    · have e : xs.length - 1 = 4 := by omega
      rw [e, show min w.toNat (3 * 2 ^ 4) = w.toNat by omega] at l2
      exact absurd ((one_mod hM).mpr (Int.dvd_of_emod_eq_zero l2)) hp
  refine ⟨h4, ?_, fun j x h => ?_, fun j x y h h' => ?_⟩
  · rw [List.getElem?_append_left hlen]; exact a1
  · by_cases hj : j < xs.length
    · rw [List.getElem?_append_left hj] at h
      exact a2 j x h
    · rw [List.getElem?_append_right (by omega)] at h
      have ej : j = xs.length := by
        by_cases e : j - xs.length = 0
        · omega
        · rw [List.getElem?_eq_none (by simp; omega)] at h; cases h
      subst ej
      rw [Nat.sub_self] at h
      cases h
      refine ⟨hn' ▸ Int.emod_nonneg _ (by omega), hn' ▸ Int.emod_lt_of_pos _ (by omega), ?_⟩
      have d1 : (2 : Int) ^ min w.toNat (3 * 2 ^ (xs.length - 1)) ∣ l * d - 1 := Int.dvd_of_emod_eq_zero l2
      obtain ⟨c, hc⟩ := d1
      have ep : 2 ^ xs.length = 2 * 2 ^ (xs.length - 1) := by
        rw [← Nat.pow_succ']; congr 1; omega
      have hk : min w.toNat (3 * 2 ^ xs.length) ≤ min w.toNat (3 * 2 ^ (xs.length - 1)) + min w.toNat (3 * 2 ^ (xs.length - 1)) := by rw [ep]; omega
      have d2 : (2 : Int) ^ min w.toNat (3 * 2 ^ xs.length) ∣ (l * d - 1) * (l * d - 1) := by
        rw [hc]
        have : (2 : Int) ^ min w.toNat (3 * 2 ^ (xs.length - 1)) * c * (2 ^ min w.toNat (3 * 2 ^ (xs.length - 1)) * c) = 2 ^ (min w.toNat (3 * 2 ^ (xs.length - 1)) + min w.toNat (3 * 2 ^ (xs.length - 1))) * (c * c) := by
          rw [Int.pow_add]; simp only [Int.mul_assoc, Int.mul_left_comm, Int.mul_comm]
        rw [this]
        exact Int.dvd_trans (pow_dvd hk) (Int.dvd_mul_right _ _)
      have d3 : (2 : Int) ^ min w.toNat (3 * 2 ^ xs.length) ∣ 2 ^ w.toNat := pow_dvd (by omega)
      refine Int.emod_eq_zero_of_dvd ?_
      have e1 := Int.ediv_mul_add_emod (l * (2 - d * l)) (2 ^ w.toNat)
      rw [← hn'] at e1
      have e2 : n = l * (2 - d * l) - l * (2 - d * l) / 2 ^ w.toNat * 2 ^ w.toNat := by omega
      generalize l * (2 - d * l) / 2 ^ w.toNat = t at e2
      have e3 : n * d - 1 = -((l * d - 1) * (l * d - 1)) - t * d * 2 ^ w.toNat := by
        rw [e2]
        generalize (2 : Int) ^ w.toNat = M
        simp only [Int.mul_sub, Int.sub_mul, Int.mul_one, Int.one_mul]
        have z1 : l * (d * l) * d = l * d * (l * d) := by simp only [Int.mul_assoc, Int.mul_left_comm, Int.mul_comm]
        have z2 : t * M * d = t * d * M := by simp only [Int.mul_assoc, Int.mul_left_comm, Int.mul_comm]
        have z3 : l * 2 * d = 2 * (l * d) := by simp only [Int.mul_assoc, Int.mul_left_comm, Int.mul_comm]
        omega
      rw [e3]
      exact Int.dvd_sub (Int.dvd_neg.mpr d2) (Int.dvd_trans d3 (Int.dvd_mul_left _ _))
  · by_cases hj : j + 1 < xs.length
    · rw [List.getElem?_append_left (by omega)] at h
      rw [List.getElem?_append_left hj] at h'
      exact a3 j x y h h'
    · have ej : j + 1 = xs.length := by
        by_cases e : j + 1 - xs.length = 0
        · omega
        · rw [List.getElem?_eq_none (by simp; omega)] at h'; cases h'
      rw [List.getElem?_append_right (by omega), ej, Nat.sub_self] at h'
      cases h'
      rw [List.getElem?_append_left (by omega), show j = xs.length - 1 by omega, hl'] at h
      cases h
      exact ⟨hp, hn'⟩
theorem inv_uniq {x y d M : Int} (hM : 1 < M) (x0 : 0 ≤ x) (x1 : x < M) (y0 : 0 ≤ y) (y1 : y < M) (hx : x * d % M = 1) (hy : y * d % M = 1) : x = y := by
  have e1 : x * (y * d) % M = x := by
    rw [Int.mul_emod, hy, Int.mul_one, Int.emod_emod_of_dvd _ (Int.dvd_refl _), Int.emod_eq_of_lt x0 x1]
  have e2 : y * (x * d) % M = y := by
    rw [Int.mul_emod, hx, Int.mul_one, Int.emod_emod_of_dvd _ (Int.dvd_refl _), Int.emod_eq_of_lt y0 y1]
  have e3 : x * (y * d) = y * (x * d) := Int.mul_left_comm ..
  rw [e3] at e1
  exact e1.symm.trans e2
theorem stp_last {w d l : Int} {xs : List Int} (hx : Stp w d xs) (hl : xs.getLast? = some l) : 0 ≤ l ∧ l < 2 ^ w.toNat := by
  rw [List.getLast?_eq_getElem?] at hl
  obtain ⟨h, h', _⟩ := hx.2.1 _ _ hl
  exact ⟨h, h'⟩

theorem shl_lt {a k w h : Int} (h0 : 1 ≤ a) (ha : a ≤ 2 ^ (w - h).toNat) (k0 : 0 ≤ k) (hk : k < h) (hh : h ≤ w) : 1 ≤ a * 2 ^ k.toNat ∧ a * 2 ^ k.toNat < 2 ^ w.toNat := by
  have p := p2 k.toNat
  have q := p2 (w - h).toNat
  have e : (2 : Int) ^ w.toNat = 2 ^ (w - h).toNat * 2 ^ h.toNat := by rw [← Int.pow_add]; congr 1; omega
  have e2 : (2 : Int) ^ k.toNat < 2 ^ h.toNat := by
    have e3 : (2 : Int) ^ h.toNat = 2 ^ k.toNat * 2 ^ (h - k).toNat := by rw [← Int.pow_add]; congr 1; omega
    have e4 : (2 : Int) ^ (h - k).toNat = 2 * 2 ^ (h - k - 1).toNat := by
      rw [show (h - k).toNat = (h - k - 1).toNat + 1 by omega, Int.pow_succ, Int.mul_comm]
    have p3 := p2 (h - k - 1).toNat
    have : (2 : Int) ^ k.toNat * 2 ≤ 2 ^ k.toNat * 2 ^ (h - k).toNat := Int.mul_le_mul_of_nonneg_left (by omega) (by omega)
    omega
  constructor
  · have : 1 * 2 ^ k.toNat ≤ a * 2 ^ k.toNat := Int.mul_le_mul_of_nonneg_right h0 (by omega)
    omega
  · rw [e]
    have h1 : a * 2 ^ k.toNat ≤ 2 ^ (w - h).toNat * 2 ^ k.toNat := Int.mul_le_mul_of_nonneg_right ha (by omega)
    have h2 : (2 : Int) ^ (w - h).toNat * 2 ^ k.toNat < 2 ^ (w - h).toNat * 2 ^ h.toNat := Int.mul_lt_mul_of_pos_left e2 q
    omega
theorem rest_mod (x a M : Int) : (x - a % M) % M = (x - a) % M := by
  rw [Int.sub_emod x (a % M), Int.emod_emod_of_dvd _ (Int.dvd_refl _), ← Int.sub_emod]
theorem quo_word {x d M : Int} (x0 : 0 ≤ x) (x1 : x < M) (d0 : 1 ≤ d) : 0 ≤ x / d ∧ x / d < M := by
  have h1 := Int.ediv_le_self d x0
  have h2 : 0 ≤ x / d := Int.ediv_nonneg x0 (by omega)
  omega
theorem rest_quo {x d M : Int} (x0 : 0 ≤ x) (x1 : x < M) (d0 : 1 ≤ d) : (x - x / d * d) % M = x % d := by
  have h1 := Int.ediv_mul_add_emod x d
  have h2 := Int.emod_nonneg x (show d ≠ 0 by omega)
  have h3 : 0 ≤ x / d * d := Int.mul_nonneg (Int.ediv_nonneg x0 (by omega)) (by omega)
  rw [show x - x / d * d = x % d by omega, Int.emod_eq_of_lt h2 (by omega)]

theorem last_ix {xs : List Int} {l i : Int} (h : xs[i.toNat]? = some l) (hi : i = xs.length - 1) (h0 : 0 < xs.length) : xs.getLast? = some l := by
  rw [List.getLast?_eq_getElem?, ← h]; congr 1; omega

theorem stp_at {w d x i : Int} {xs : List Int} (hx : Stp w d xs) (hw : 0 ≤ w) (h : xs[i.toNat]? = some x) (m : Int) (hm : m ≤ w ∧ m ≤ 3 * 2 ^ i.toNat ∧ (m = w ∨ m = 3 * 2 ^ i.toNat)) : (x * d - 1) % 2 ^ m.toNat = 0 := by
  have e := (hx.2.1 _ _ h).2.2
  have e2 : m.toNat = min w.toNat (3 * 2 ^ i.toNat) := by
    have e3 : ((3 * 2 ^ i.toNat : Nat) : Int) = 3 * 2 ^ i.toNat := by simp
    omega
  rw [e2]; exact e
theorem stp_next {w d x i : Int} {xs : List Int} (hx : Stp w d xs) (h : xs[i.toNat]? = some x) (hi : i.toNat + 1 < xs.length) : x * d % 2 ^ w.toNat ≠ 1 :=
  (hx.2.2 _ _ _ h (List.getElem?_eq_getElem hi)).1
theorem stp_val {w d x y i : Int} {xs : List Int} (hx : Stp w d xs) (h : xs[i.toNat]? = some x) (h' : xs[(i + 1).toNat]? = some y) (hi : 0 ≤ i) : y = x * (2 - d * x) % 2 ^ w.toNat := by
  rw [show (i + 1).toNat = i.toNat + 1 by omega] at h'
  exact (hx.2.2 _ _ _ h h').2

/-- the corner words of 0 .. last for d -/
def Cor (last d k : Int) : Prop := k = 0 ∨ (k = d - 1 ∧ d - 1 ≤ last) ∨ (k = last ∧ last ≤ d - 1) ∨ k = last / d * d ∨ k = last ∨ (0 < last / d ∧ k = last / d * d - 1)
/-- ys are the corner words, each once, rising -/
def Cors (last d : Int) (ys : List Int) : Prop := ys.Pairwise (· < ·) ∧ ∀ k, k ∈ ys ↔ Cor last d k
theorem srt_uniq : ∀ {xs ys : List Int}, xs.Pairwise (· < ·) → ys.Pairwise (· < ·) → (∀ k, k ∈ xs ↔ k ∈ ys) → xs = ys
  | [], [], _, _, _ => rfl
  | [], y :: ys, _, _, h => absurd ((h y).mpr List.mem_cons_self) (by simp)
  | x :: xs, [], _, _, h => absurd ((h x).mp List.mem_cons_self) (by simp)
  | x :: xs, y :: ys, hx, hy, h => by
    have hx' := List.pairwise_cons.mp hx
    have hy' := List.pairwise_cons.mp hy
    have e : x = y := by
      rcases List.mem_cons.mp ((h x).mp List.mem_cons_self) with e | e
      · exact e
      · rcases List.mem_cons.mp ((h y).mpr List.mem_cons_self) with e2 | e2
        · exact e2.symm
        · have a := hy'.1 x e
          have b := hx'.1 y e2
          omega
    subst e
    refine congrArg (x :: ·) (srt_uniq hx'.2 hy'.2 fun k => ?_)
    constructor
    · intro hk
      rcases List.mem_cons.mp ((h k).mp (List.mem_cons_of_mem _ hk)) with e | e
      · have := hx'.1 k hk; omega
      · exact e
    · intro hk
      rcases List.mem_cons.mp ((h k).mpr (List.mem_cons_of_mem _ hk)) with e | e
      · have := hy'.1 k hk; omega
      · exact e
theorem cors_uniq {last d : Int} {xs ys : List Int} (h : Cors last d xs) (g : Cors last d ys) : xs = ys :=
  srt_uniq h.1 g.1 fun k => (h.2 k).trans (g.2 k).symm
theorem srt_strict : ∀ {xs : List Int}, xs.Pairwise (· ≤ ·) → xs.Nodup → xs.Pairwise (· < ·)
  | [], _, _ => .nil
  | x :: xs, h, n => by
    have h' := List.pairwise_cons.mp h
    have n' := List.nodup_cons.mp n
    refine .cons (fun y hy => ?_) (srt_strict h'.2 n'.2)
    have a := h'.1 y hy
    have : x ≠ y := fun e => n'.1 (e ▸ hy)
    omega
/-- what numbers bring x to -/
def brought (e f a t x : Int) : Int := (f * (x / 2 ^ e.toNat) + a) / 2 ^ t.toNat
theorem div_eq_iff {n T q : Int} (hT : 0 < T) : n / T = q ↔ q * T ≤ n ∧ n < (q + 1) * T := by
  constructor
  · rintro rfl
    have e := Int.ediv_mul_add_emod n T
    have e1 := Int.emod_nonneg n (show T ≠ 0 by omega)
    have e2 := Int.emod_lt_of_pos n hT
    rw [Int.add_mul]
    omega
  · rintro ⟨h1, h2⟩
    have a := Int.le_ediv_of_mul_le hT h1
    have b := Int.ediv_lt_of_lt_mul hT h2
    omega
/-- lines that meet the steps at both ends meet them between -/
theorem between {D T f a j q : Int} (j0 : 0 ≤ j) (jq : j ≤ q) (a0 : 0 ≤ a) (h : q * T ≤ f * (q * D) + a) : j * T ≤ f * (j * D) + a := by
  have r1 : f * (q * D) = q * (f * D) := Int.mul_left_comm ..
  have r2 : f * (j * D) = j * (f * D) := Int.mul_left_comm ..
  rw [r1] at h
  rw [r2]
  by_cases c : T ≤ f * D
  · have := Int.mul_le_mul_of_nonneg_left c j0
    omega
  · have s1 : j * (T - f * D) ≤ q * (T - f * D) := Int.mul_le_mul_of_nonneg_right jq (by omega)
    rw [Int.mul_sub, Int.mul_sub] at s1
    omega
theorem between' {D T f a j q : Int} (j0 : 0 ≤ j) (jq : j + 1 ≤ q) (h0 : f * (D - 1) + a < T) (h : f * (q * D - 1) + a < q * T) : f * (j * D + D - 1) + a < (j + 1) * T := by
  have r1 : f * (q * D - 1) = q * (f * D) - f := by rw [Int.mul_sub, Int.mul_one, Int.mul_left_comm]
  have r2 : f * (j * D + D - 1) = j * (f * D) + f * D - f := by rw [Int.mul_sub, Int.mul_add, Int.mul_one, Int.mul_left_comm]
  have r3 : f * (D - 1) = f * D - f := by rw [Int.mul_sub, Int.mul_one]
  rw [r1] at h
  rw [r3] at h0
  rw [r2, Int.add_mul, Int.one_mul]
  by_cases c : f * D ≤ T
  · have := Int.mul_le_mul_of_nonneg_left c j0
    omega
  · have s1 : (j + 1) * (f * D - T) ≤ q * (f * D - T) := Int.mul_le_mul_of_nonneg_right jq (by omega)
    rw [Int.mul_sub, Int.mul_sub, Int.add_mul, Int.add_mul] at s1
    omega
theorem corners_do {last d e f a t : Int} (d1 : 1 ≤ d) (he : d % 2 ^ e.toNat = 0) (f0 : 0 ≤ f) (a0 : 0 ≤ a) (l0 : 0 ≤ last) (h : ∀ k, Cor last d k → brought e f a t k = k / d) {x : Int} (x0 : 0 ≤ x) (x1 : x ≤ last) : brought e f a t x = x / d := by
  have hE := p2 e.toNat
  have hT := p2 t.toNat
  unfold brought at h ⊢
  generalize (2 : Int) ^ e.toNat = E at *
  generalize (2 : Int) ^ t.toNat = T at *
  have hd : d = E * (d / E) := by have := Int.mul_ediv_add_emod d E; omega
  generalize d / E = D at hd
  have D1 : 0 < D := by
    by_cases z : 0 < D
    · exact z
    · have : E * D ≤ 0 := Int.mul_nonpos_of_nonneg_of_nonpos (by omega) (by omega)
      omega
  have dv : ∀ j r : Int, (j * d + r) / E = j * D + r / E := fun j r => by
    rw [hd, show j * (E * D) = j * D * E by rw [Int.mul_comm E D, ← Int.mul_assoc], Int.add_comm, Int.add_mul_ediv_right _ _ (by omega), Int.add_comm]
  have dm : (-1 : Int) / E = -1 := by
    have := (div_eq_iff (n := -1) (T := E) (q := -1) hE).mpr ⟨by omega, by omega⟩
    exact this
  have hx := Int.ediv_mul_add_emod x d
  have hr0 := Int.emod_nonneg x (show d ≠ 0 by omega)
  have hr1 := Int.emod_lt_of_pos x (show 0 < d by omega)
  have hl := Int.ediv_mul_add_emod last d
  have hl0 := Int.emod_nonneg last (show d ≠ 0 by omega)
  have hl1 := Int.emod_lt_of_pos last (show 0 < d by omega)
  have j0 : 0 ≤ x / d := Int.ediv_nonneg x0 (by omega)
  have jq : x / d ≤ last / d := Int.ediv_le_ediv (by omega) x1
  have cq := h (last / d * d) (.inr (.inr (.inr (.inl rfl))))
  have cl := h last (.inr (.inr (.inr (.inr (.inl rfl)))))
  have c1 := h (last / d * d - 1)
  have cd := h (d - 1)
  generalize hj : x / d = j at *
  generalize hq : last / d = q at *
  generalize hr : x % d = r at *
  rw [← Int.add_zero (q * d), dv, Int.zero_ediv, Int.add_zero, Int.add_zero, Int.mul_ediv_cancel _ (show d ≠ 0 by omega), div_eq_iff hT] at cq
  rw [div_eq_iff hT] at cl ⊢
  have hy : x / E = j * D + r / E := by rw [← hx]; exact dv j r
  have ry0 : 0 ≤ r / E := Int.ediv_nonneg hr0 (by omega)
  have ry1 : r / E < D := Int.ediv_lt_of_lt_mul hE (by rw [Int.mul_comm, ← hd]; exact hr1)
  have lo : f * (j * D) ≤ f * (x / E) := Int.mul_le_mul_of_nonneg_left (by omega) f0
  refine ⟨Int.le_trans (between j0 jq a0 cq.1) (by omega), ?_⟩
  by_cases c : j = q
  · have := Int.mul_le_mul_of_nonneg_left (Int.ediv_le_ediv hE x1) f0
    rw [c]
    omega
  · have q1 : 0 < q := by omega
    have ld : d ≤ q * d := by
      have : 1 * d ≤ q * d := Int.mul_le_mul_of_nonneg_right (by omega) (by omega)
      omega
    have e1 := c1 (.inr (.inr (.inr (.inr (.inr ⟨by rw [hq]; exact q1, by rw [hq]⟩)))))
    have e2 := cd (.inr (.inl ⟨rfl, by omega⟩))
    rw [show q * d - 1 = q * d + (-1) by omega, dv, dm, show (q * d + -1) / d = q - 1 from (div_eq_iff (by omega)).mpr ⟨by rw [Int.sub_mul]; omega, by rw [show q - 1 + 1 = q by omega]; omega⟩, div_eq_iff hT, show q - 1 + 1 = q by omega] at e1
    rw [show d - 1 = 1 * d + (-1) by omega, dv, dm, show (1 * d + -1) / d = 0 from (div_eq_iff (by omega)).mpr ⟨by omega, by omega⟩, div_eq_iff hT] at e2
    have hi : f * (x / E) ≤ f * (j * D + D - 1) := Int.mul_le_mul_of_nonneg_left (by omega) f0
    have := between' (D := D) (T := T) (f := f) (a := a) (j := j) (q := q) j0 (by omega) (by rw [show D - 1 = 1 * D + -1 by omega]; omega) (by rw [show q * D - 1 = q * D + -1 by omega]; omega)
    omega
theorem nodup_snoc {xs : List Int} {x : Int} (h : xs.Nodup) (hx : ¬ x ∈ xs) : (xs ++ [x]).Nodup := by
  refine List.nodup_append.mpr ⟨h, by simp, fun a ha b hb => ?_⟩
  rw [List.mem_singleton.mp hb]
  exact fun e => hx (e ▸ ha)
theorem take_add {L xs : List Int} {i : Nat} {x : Int} (hx : L[i]? = some x) (h0 : 0 ≤ x) (hm : ∀ k, k ∈ xs ↔ 0 ≤ k ∧ k ∈ L.take i) (k : Int) : k ∈ xs ++ [x] ↔ 0 ≤ k ∧ k ∈ L.take (i + 1) := by
  rw [List.take_add_one, hx, List.mem_append, List.mem_append, hm k]
  simp only [Option.toList, List.mem_singleton]
  constructor
  · rintro (⟨a, b⟩ | rfl)
    · exact ⟨a, .inl b⟩
    · exact ⟨h0, .inr rfl⟩
  · rintro ⟨a, b | b⟩
    · exact .inl ⟨a, b⟩
    · exact .inr b
theorem take_skip {L xs : List Int} {i : Nat} {x : Int} (hx : L[i]? = some x) (h : ¬ 0 ≤ x ∨ x ∈ xs) (hm : ∀ k, k ∈ xs ↔ 0 ≤ k ∧ k ∈ L.take i) (k : Int) : k ∈ xs ↔ 0 ≤ k ∧ k ∈ L.take (i + 1) := by
  rw [List.take_add_one, hx, List.mem_append, hm k]
  simp only [Option.toList, List.mem_singleton]
  constructor
  · rintro ⟨a, b⟩
    exact ⟨a, .inl b⟩
  · rintro ⟨a, b | b⟩
    · exact ⟨a, b⟩
    · subst b
      rcases h with h | h
      · exact absurd a h
      · exact (hm _).mp h
theorem qd_pos {last d q m : Int} (l0 : 0 ≤ last) (d1 : 1 ≤ d) (hq : q = last / d) (hm : m = q * d) : 0 ≤ q ∧ 0 ≤ m ∧ m ≤ last ∧ q ≤ last ∧ ((q = 0 ∧ m = 0) ∨ (0 < q ∧ d ≤ m)) := by
  have q0 : 0 ≤ q := hq ▸ Int.ediv_nonneg l0 (by omega)
  have a : q * d ≤ last := hq ▸ Int.ediv_mul_le _ (by omega)
  have b : q ≤ last := hq ▸ Int.ediv_le_self _ l0
  refine ⟨q0, hm ▸ Int.mul_nonneg q0 (by omega), by omega, b, ?_⟩
  by_cases z : q = 0
  · exact .inl ⟨z, by rw [hm, z, Int.zero_mul]⟩
  · have : 1 * d ≤ q * d := Int.mul_le_mul_of_nonneg_right (by omega) (by omega)
    exact .inr ⟨by omega, by omega⟩
theorem mod_le {d t e : Int} (h : d % 2 ^ t.toNat = 0) (e0 : 0 ≤ e) (het : e ≤ t) : d % 2 ^ e.toNat = 0 := by
  have e1 : (2 : Int) ^ t.toNat = 2 ^ e.toNat * 2 ^ (t - e).toNat := by rw [← Int.pow_add]; congr 1; omega
  have := Int.dvd_of_emod_eq_zero h
  rw [e1] at this
  exact Int.emod_eq_zero_of_dvd (Int.dvd_trans ⟨_, rfl⟩ this)
theorem mul_bd {f e : Int} (f0 : 0 ≤ f) (f1 : f ≤ 2 ^ 70) (e0 : 0 ≤ e) (e1 : e < 2 ^ 70) : 0 ≤ f * e ∧ f * e < 2 ^ 141 := by
  have a := Int.mul_nonneg f0 e0
  have b : f * e ≤ 2 ^ 70 * 2 ^ 70 := Int.mul_le_mul f1 (by omega) e0 (by omega)
  exact ⟨a, by omega⟩
theorem take_all {L : List Int} {i : Nat} {x : Int} {Pr : Int → Prop} (hx : L[i]? = some x) (h0 : Pr x) (h : ∀ k ∈ L.take i, Pr k) (k : Int) (hk : k ∈ L.take (i + 1)) : Pr k := by
  rw [List.take_add_one, hx] at hk
  rcases List.mem_append.mp hk with a | a
  · exact h k a
  · simp only [Option.toList, List.mem_singleton] at a
    exact a ▸ h0
theorem cor_rng {last d k : Int} (l0 : 0 ≤ last) (d1 : 1 ≤ d) (h : Cor last d k) : 0 ≤ k ∧ k ≤ last := by
  have qd := qd_pos l0 d1 (q := last / d) rfl rfl
  unfold Cor at h
  omega
theorem quot_mul2 {L d m t : Int} (d1 : 1 ≤ d) (hm : m = d * t) (t0 : 0 ≤ t) (ht : t < L / d + 1) : 0 ≤ m ∧ m ≤ L := by
  rw [Int.mul_comm] at hm
  have a := Int.mul_le_mul_of_nonneg_right (show t ≤ L / d by omega) (show 0 ≤ d by omega)
  have b : L / d * d ≤ L := Int.ediv_mul_le _ (by omega)
  exact ⟨hm ▸ Int.mul_nonneg t0 (by omega), by omega⟩
theorem shl4 {s b k : Int} (hs : s = b * 2 ^ k.toNat) (b0 : 1 ≤ b) (b1 : b ≤ 7) (k0 : 0 ≤ k) (k1 : k < 4) : 1 ≤ s ∧ s ≤ 56 := by
  have : k = 0 ∨ k = 1 ∨ k = 2 ∨ k = 3 := by omega
  rcases this with rfl | rfl | rfl | rfl <;> simp at hs <;> omega

theorem quo_b {q a b : Int} (h : q = a / b) (a0 : 0 ≤ a) (b0 : 0 < b) : 0 ≤ q ∧ q ≤ a := by
  subst h; exact ⟨Int.ediv_nonneg a0 (by omega), Int.ediv_le_self _ a0⟩
theorem mul_rng {a b : Int} (a0 : 0 ≤ a) (a1 : a ≤ 1180591620717411303424) (b0 : 0 ≤ b) (b1 : b ≤ 1180591620717411303424) : 0 ≤ a * b ∧ a * b ≤ 1180591620717411303424 * 1180591620717411303424 :=
  ⟨Int.mul_nonneg a0 b0, Int.mul_le_mul a1 b1 b0 (by decide)⟩
theorem quo_rng {d q : Int} {k : Nat} (h : q = d / 2 ^ k) (hd : d % 2 ^ k = 0) (h1 : 1 ≤ d) : 1 ≤ q ∧ q ≤ d := by
  have hp := p2 k
  have e := Int.ediv_mul_add_emod d (2 ^ k)
  rw [← h, hd] at e
  have l : q ≤ d := by rw [h]; exact Int.ediv_le_self _ (by omega)
  refine ⟨?_, l⟩
  by_cases c : 1 ≤ q
  · exact c
  · have : q * 2 ^ k ≤ 0 := Int.mul_nonpos_of_nonpos_of_nonneg (by omega) (by omega)
    omega
theorem bl7 {n : Int} (h0 : 0 ≤ n) (h1 : n ≤ 90) : (PySem.Builtin.Int.intBits n : Int) ≤ 7 := by
  obtain ⟨m, rfl⟩ := Int.eq_ofNat_of_zero_le h0
  have a : ∀ m : Fin 91, PySem.Builtin.Int.intBits (m.val : Int) ≤ 7 := by decide
  have := a ⟨m, by omega⟩
  simp only at this
  omega

theorem half_step {d t : Int} (h : 0 ≤ t) : d / 2 ^ (t + 1).toNat = d / 2 ^ t.toNat / 2 := by
  have e : (t + 1).toNat = t.toNat + 1 := by omega
  rw [e, Int.pow_succ, Int.ediv_ediv_of_nonneg (Int.le_of_lt (p2 _))]
/-- all of 0 .. last come to their quotients -/
def AllR (last d e f ad t : Int) : Prop := ∀ x, 0 ≤ x → x ≤ last → brought e f ad t x = x / d
theorem allr_of {last d e f ad t : Int} (d1 : 1 ≤ d) (he : d % 2 ^ e.toNat = 0) (f0 : 0 ≤ f) (a0 : 0 ≤ ad) (l0 : 0 ≤ last) {ys : List Int} {n : Nat} (hc : Cors last d ys) (hn : ys.length ≤ n) (h : ∀ k ∈ List.take n ys, brought e f ad t k = k / d) : AllR last d e f ad t := by
  intro x x0 x1
  refine corners_do d1 he f0 a0 l0 (fun k hk => h k ?_) x0 x1
  rw [List.take_of_length_le hn]
  exact (hc.2 k).mpr hk
theorem bits_le {n w b : Int} (hb : (PySem.Builtin.Int.intBits n : Int) = b) (h0 : 0 ≤ n) (h1 : n < 2 ^ w.toNat) (hw : 0 ≤ w) : 0 ≤ b ∧ b ≤ w := by
  subst hb
  refine ⟨Int.natCast_nonneg _, ?_⟩
  have : PySem.Builtin.Int.intBits n ≤ w.toNat := PySem.intBits_le_iff.mpr (by
    have e : ((2 ^ w.toNat : Nat) : Int) = (2 : Int) ^ w.toNat := by rw [Int.natCast_pow]; rfl
    omega)
  omega
def FOk : Tf_Form → Prop
  | .shifted s => 0 ≤ s ∧ s ≤ 64
  | .scaled f s => 0 ≤ f ∧ f ≤ 4294967295 ∧ 0 ≤ s ∧ s ≤ 64
  | .early e f s => 0 ≤ e ∧ e ≤ 64 ∧ 0 ≤ f ∧ f ≤ 4294967295 ∧ 0 ≤ s ∧ s ≤ 64
  | .more f s => 0 ≤ f ∧ f ≤ 4294967295 ∧ 0 ≤ s ∧ s ≤ 64
  | .wide f s => 0 ≤ f ∧ f ≤ 4294967295 ∧ 1 ≤ s ∧ s ≤ 64
def nE : Tf_Form → Int
  | .shifted _ => 0
  | .scaled _ _ => 0
  | .early e _ _ => e
  | .more _ _ => 0
  | .wide _ _ => 0
def nF : Tf_Form → Int → Int
  | .shifted _, _ => 1
  | .scaled f _, _ => f
  | .early _ f _, _ => f
  | .more f _, _ => f
  | .wide f _, w => 2 ^ w.toNat + f
def nA : Tf_Form → Int
  | .shifted _ => 0
  | .scaled _ _ => 0
  | .early _ _ _ => 0
  | .more f _ => f
  | .wide _ _ => 0
def nT : Tf_Form → Int → Int
  | .shifted s, _ => s
  | .scaled _ s, w => w + s
  | .early _ _ s, w => w + s
  | .more _ s, w => w + s
  | .wide _ s, w => w + s
/-- the form is right at all words -/
def Right (fm : Tf_Form) (w d : Int) : Prop := AllR (2 ^ w.toNat - 1) d (nE fm) (nF fm w) (nA fm) (nT fm w)
theorem nrng {fm : Tf_Form} {w : Int} (h : FOk fm) (w0 : 4 ≤ w) (w1 : w ≤ 32) : 0 ≤ nE fm ∧ nE fm ≤ 64 ∧ 0 ≤ nF fm w ∧ nF fm w ≤ 2 ^ 34 ∧ 0 ≤ nA fm ∧ nA fm ≤ 2 ^ 34 ∧ 0 ≤ nT fm w ∧ nT fm w ≤ 96 := by
  have a := pow2_le32 w1
  have b := p2 w.toNat
  cases fm <;> simp only [FOk] at h <;> simp only [nE, nF, nA, nT] <;> omega
theorem upto_step {P : Int → Prop} {i : Nat} {x : Int} (h : ∀ k : Int, 0 ≤ k → k < i → P k) (hx : P x) (e : x = i) : ∀ k : Int, 0 ≤ k → k < ((i + 1 : Nat) : Int) → P k := by
  intro k h0 h1
  by_cases z : k = i
  · rw [z, ← e]; exact hx
  · exact h k h0 (by omega)
theorem upto_all {P : Int → Prop} {n : Nat} {N : Int} (h : ∀ k : Int, 0 ≤ k → k < n → P k) (hn : N ≤ n) : ∀ k, 0 ≤ k → k ≤ N - 1 → P k := fun k h0 h1 => h k h0 (by omega)
theorem quo_le {d e : Int} (d0 : 0 ≤ d) : 0 ≤ d / 2 ^ e.toNat ∧ d / 2 ^ e.toNat ≤ d :=
  ⟨Int.ediv_nonneg d0 (Int.le_of_lt (p2 _)), Int.ediv_le_self _ d0⟩
theorem oth {d w e q m s : Int} (hq : q = d / 2 ^ e.toNat) (hm : q ≤ m ∧ 1 ≤ m ∧ (m = q ∨ m = 1)) (hs : s = m * 2 ^ e.toNat) (d1 : 1 ≤ d) (d2 : d < 2 ^ w.toNat) (e0 : 0 ≤ e) (ew : e + 1 ≤ w) : 1 ≤ s ∧ s < 2 ^ w.toNat ∧ s % 2 ^ e.toNat = 0 := by
  have hp := p2 e.toNat
  have h1 : 1 * 2 ^ e.toNat ≤ m * 2 ^ e.toNat := Int.mul_le_mul_of_nonneg_right hm.2.1 (by omega)
  refine ⟨by omega, ?_, by rw [hs]; exact Int.mul_emod_left ..⟩
  rcases hm.2.2 with h | h
  · have := Int.ediv_mul_le d (show (2 : Int) ^ e.toNat ≠ 0 by omega)
    rw [hs, h, hq]; omega
  · have := pow2_lt (a := e) (b := w) e0 (by omega)
    rw [hs, h]; omega
theorem bq {a b : Bool} {P : Prop} (h : a = true ↔ P) (g : b = true ↔ P) : a = b := Bool.eq_iff_iff.mpr (h.trans g.symm)

def Ra (d f a T x : Int) : Prop := (f * x + a) / T = x / d
theorem ra_iff {d f a T x : Int} (hT : 0 < T) : Ra d f a T x ↔ x / d * T ≤ f * x + a ∧ f * x + a < (x / d + 1) * T := by
  unfold Ra; exact div_eq_iff hT
/-- too great, too small at x -/
def TGa (d f a T x : Int) : Prop := (x / d + 1) * T ≤ f * x + a
def TSa (d f a T x : Int) : Prop := f * x + a < x / d * T
theorem ra_tt {d f a T x : Int} (hT : 0 < T) : Ra d f a T x ↔ ¬ TGa d f a T x ∧ ¬ TSa d f a T x := by
  rw [ra_iff hT]; unfold TGa TSa; omega
theorem qd {d x : Int} (hd : 0 < d) (h0 : 0 ≤ x) : 0 ≤ x / d ∧ x / d * d ≤ x ∧ x < x / d * d + d := by
  have e := Int.ediv_mul_add_emod x d
  have a := Int.emod_nonneg x (show d ≠ 0 by omega)
  have b := Int.emod_lt_of_pos x hd
  exact ⟨Int.ediv_nonneg h0 (by omega), by omega, by omega⟩
theorem tg_gap {d f a T x : Int} (hd : 0 < d) (f0 : 0 ≤ f) (h0 : 0 ≤ x) (h : TGa d f a T x) : f - a ≤ (x / d + 1) * (f * d - T) := by
  obtain ⟨a, b, c⟩ := qd hd h0
  unfold TGa at h
  generalize x / d = j at *
  have e : f * x ≤ f * (j * d + d - 1) := Int.mul_le_mul_of_nonneg_left (by omega) f0
  have e2 : f * (j * d + d - 1) = (j + 1) * (f * d) - f := by
    rw [Int.mul_sub, Int.mul_one, Int.mul_add, Int.add_mul, Int.one_mul, Int.mul_left_comm]
  rw [Int.mul_sub]
  omega
theorem ceil_rng {n b q : Int} (hb : 0 < b) (h : q = (0 - n) / b) : (0 - q - 1) * b < n ∧ n ≤ (0 - q) * b := by
  have e := Int.ediv_mul_add_emod (0 - n) b
  have a := Int.emod_nonneg (0 - n) (show b ≠ 0 by omega)
  have c := Int.emod_lt_of_pos (0 - n) hb
  rw [← h] at e
  rw [Int.sub_mul, Int.sub_mul, Int.zero_mul, Int.one_mul]
  omega
theorem tg_none {d f a T g q : Int} (hd : 0 < d) (f0 : 0 ≤ f) (hg : g = f * d - T) (hq : q * g < f - a) (h1 : g ≤ 0 → q = 1) (h2 : 0 < g → f - a ≤ q * g) : ∀ x, 0 ≤ x → ¬ TGa d f a T x := by
  intro x h0 h
  have e := tg_gap hd f0 h0 h
  rw [← hg] at e
  have a := (qd hd h0).1
  by_cases c : 0 < g
  · have := h2 c; omega
  · have hq1 := h1 (by omega)
    subst hq1
    have : (x / d + 1) * g ≤ 1 * g := Int.mul_le_mul_of_nonpos_right (by omega) (by omega)
    omega
theorem tg_zero {d a T g q : Int} (hd : 0 < d) (hT : 0 < T) (hg : g = 0 - T) (hq : ¬ q * g < 0 - a) (q1 : q = 1) : TGa d 0 a T 0 := by
  subst q1
  unfold TGa
  rw [Int.zero_ediv]; omega
theorem tg_some {d f a T g q r : Int} (hd : 0 < d) (f1 : 0 < f) (hT : 0 < T) (hg : g = f * d - T) (q1 : 1 ≤ q) (hq : ¬ q * g < f - a) (h1 : g ≤ 0 → q = 1) (h2 : 0 < g → q = 1 ∨ (q - 1) * g < f - a) (r0 : 0 ≤ r) (r1 : r = 0 ∨ (r - 1) * f < q * T - a) (r2 : q * T - a ≤ r * f) :
    TGa d f a T r ∧ (∀ x, 0 ≤ x → x < r → ¬ TGa d f a T x) ∧ r < q * d := by
  have e1 : q * g = q * (f * d) - q * T := by rw [hg, Int.mul_sub]
  have e2 : (q * d - 1) * f = q * (f * d) - f := by rw [Int.sub_mul, Int.one_mul, Int.mul_assoc, Int.mul_comm d f]
  have rd : r < q * d := by
    rcases r1 with z | r1
    · have : 0 < q * d := Int.mul_pos (by omega) hd
      omega
    · have : (r - 1) * f < (q * d - 1) * f := by omega
      have := Int.lt_of_mul_lt_mul_right this (by omega)
      omega
  refine ⟨?_, fun x x0 xr h => ?_, rd⟩
  · unfold TGa
    have a : r / d < q := Int.ediv_lt_of_lt_mul hd rd
    have b : (r / d + 1) * T ≤ q * T := Int.mul_le_mul_of_nonneg_right (by omega) (by omega)
    rw [Int.mul_comm f r]
    omega
  · have e := tg_gap hd (by omega) x0 h
    rw [← hg] at e
    have a := (qd hd x0).1
    have jq : q ≤ x / d + 1 := by
      by_cases c : q ≤ x / d + 1
      · exact c
      · by_cases g0 : 0 < g
        · rcases h2 g0 with z | z
          · omega
          · have : (x / d + 1) * g ≤ (q - 1) * g := Int.mul_le_mul_of_nonneg_right (by omega) (by omega)
            omega
        · have := h1 (by omega)
          omega
    unfold TGa at h
    have b : q * T ≤ (x / d + 1) * T := Int.mul_le_mul_of_nonneg_right jq (by omega)
    rcases r1 with z | r1
    · omega
    · have c : x * f ≤ (r - 1) * f := Int.mul_le_mul_of_nonneg_right (by omega) (by omega)
      rw [Int.mul_comm f x] at h
      omega
theorem ts_none {d f a T g : Int} (hd : 0 < d) (f0 : 0 ≤ f) (a0 : 0 ≤ a) (hg : g = T - f * d) (h : g ≤ 0) : ∀ x, 0 ≤ x → ¬ TSa d f a T x := by
  intro x x0 h2
  obtain ⟨a, b, _⟩ := qd hd x0
  unfold TSa at h2
  have e1 : f * (x / d * d) ≤ f * x := Int.mul_le_mul_of_nonneg_left b f0
  have e2 : x / d * T ≤ x / d * (f * d) := Int.mul_le_mul_of_nonneg_left (by omega) a
  rw [Int.mul_left_comm] at e1
  omega
theorem ts_some {d f a T g q j r : Int} (hd : 0 < d) (f0 : 0 ≤ f) (a0 : 0 ≤ a) (hg : g = T - f * d) (h : ¬ g ≤ 0) (hq : q = a / g) (hj : j = q + 1) (hr : r = j * d) : 0 ≤ r ∧ r ≤ (a + 1) * d ∧ TSa d f a T r ∧ ∀ x, 0 ≤ x → x < r → ¬ TSa d f a T x := by
  have e := Int.ediv_mul_add_emod a g
  have e1 := Int.emod_nonneg a (show g ≠ 0 by omega)
  have e2 := Int.emod_lt_of_pos a (show 0 < g by omega)
  have q0 : 0 ≤ a / g := Int.ediv_nonneg a0 (by omega)
  have q1 : a / g ≤ a := Int.ediv_le_self _ a0
  rw [← hq] at e q0 q1
  have jg : j * g = q * g + g := by rw [hj, Int.add_mul, Int.one_mul]
  have e3 : j * g = j * T - j * (f * d) := by rw [hg, Int.mul_sub]
  have r0 : 0 ≤ r := by rw [hr]; exact Int.mul_nonneg (by omega) (by omega)
  have r1 : r ≤ (a + 1) * d := by rw [hr]; exact Int.mul_le_mul_of_nonneg_right (by omega) (by omega)
  refine ⟨r0, r1, ?_, fun x x0 x1 h2 => ?_⟩
  · unfold TSa
    rw [hr, Int.mul_ediv_cancel _ (by omega), Int.mul_left_comm f j d]
    omega
  · unfold TSa at h2
    obtain ⟨b0, b1, b2⟩ := qd hd x0
    have xj : x / d < j := Int.ediv_lt_of_lt_mul hd (by omega)
    have c1 : f * (x / d * d) ≤ f * x := Int.mul_le_mul_of_nonneg_left b1 f0
    rw [Int.mul_left_comm] at c1
    have c2 : x / d * g ≤ q * g := Int.mul_le_mul_of_nonneg_right (by omega) (by omega)
    have c3 : x / d * g = x / d * T - x / d * (f * d) := by rw [hg, Int.mul_sub]
    omega
/-- the least wrong one -/
def LwR (last d e f ad t r : Int) : Prop := 0 ≤ r ∧ r ≤ last ∧ ¬ brought e f ad t r = r / d ∧ ∀ x, 0 ≤ x → x < r → brought e f ad t x = x / d
theorem br_iff {d e f ad t x D : Int} (hd : d % 2 ^ e.toNat = 0) (hD : D = d / 2 ^ e.toNat) : brought e f ad t x = x / d ↔ Ra D f ad (2 ^ t.toNat) (x / 2 ^ e.toNat) := by
  have hp := p2 e.toNat
  have h1 := Int.ediv_mul_add_emod d (2 ^ e.toNat)
  have h2 : d = 2 ^ e.toNat * D := by rw [hD, Int.mul_comm]; omega
  unfold brought Ra
  rw [h2, ← Int.ediv_ediv_of_nonneg (Int.le_of_lt hp)]
theorem lwr_al {last d e f ad t m D : Int} (hd : d % 2 ^ e.toNat = 0) (hD : D = d / 2 ^ e.toNat) (hg : ∀ y, 0 ≤ y → y * 2 ^ e.toNat < m → ¬ TGa D f ad (2 ^ t.toNat) y) (hs : ∀ y, 0 ≤ y → y * 2 ^ e.toNat < m → ¬ TSa D f ad (2 ^ t.toNat) y) (h : last < m) : AllR last d e f ad t := by
  intro x x0 x1
  have hp := p2 e.toNat
  have a := Int.ediv_nonneg x0 (Int.le_of_lt hp)
  have b := Int.ediv_mul_le x (show (2 : Int) ^ e.toNat ≠ 0 by omega)
  exact (br_iff hd hD).mpr ((ra_tt (p2 _)).mpr ⟨hg _ a (by omega), hs _ a (by omega)⟩)
theorem lwr_at {last d e f ad t m D y0 : Int} (hd : d % 2 ^ e.toNat = 0) (hD : D = d / 2 ^ e.toNat) (hg : ∀ y, 0 ≤ y → y * 2 ^ e.toNat < m → ¬ TGa D f ad (2 ^ t.toNat) y) (hs : ∀ y, 0 ≤ y → y * 2 ^ e.toNat < m → ¬ TSa D f ad (2 ^ t.toNat) y)
    (hm : m = y0 * 2 ^ e.toNat) (y00 : 0 ≤ y0) (h : m ≤ last) (hw : TGa D f ad (2 ^ t.toNat) y0 ∨ TSa D f ad (2 ^ t.toNat) y0) : LwR last d e f ad t m := by
  have hp := p2 e.toNat
  refine ⟨by rw [hm]; exact Int.mul_nonneg y00 (by omega), h, fun z => ?_, fun x x0 x1 => ?_⟩
  · have z2 := (ra_tt (p2 _)).mp ((br_iff hd hD).mp z)
    rw [hm, Int.mul_ediv_cancel _ (by omega)] at z2
    rcases hw with w | w
    · exact z2.1 w
    · exact z2.2 w
  · have a := Int.ediv_nonneg x0 (Int.le_of_lt hp)
    have b := Int.ediv_mul_le x (show (2 : Int) ^ e.toNat ≠ 0 by omega)
    exact (br_iff hd hD).mpr ((ra_tt (p2 _)).mpr ⟨hg _ a (by omega), hs _ a (by omega)⟩)
theorem lt_y {y e m r : Int} (h : y * 2 ^ e.toNat < m) (h2 : m ≤ r * 2 ^ e.toNat) : y < r :=
  Int.lt_of_mul_lt_mul_right (Int.lt_of_lt_of_le h h2) (Int.le_of_lt (p2 _))
theorem lwr_uniq {last d e f ad t r s : Int} (h : LwR last d e f ad t r) (g : LwR last d e f ad t s) : r = s := by
  by_cases a : r < s
  · exact absurd (g.2.2.2 r h.1 a) h.2.2.1
  · by_cases b : s < r
    · exact absurd (h.2.2.2 s g.1 b) g.2.2.1
    · omega
theorem lwr_no {last d e f ad t r : Int} (h : AllR last d e f ad t) (g : LwR last d e f ad t r) : False := g.2.2.1 (h r g.1 g.2.1)
theorem quo_neg {q n b : Int} (hb : 0 < b) (h : q = (0 - n) / b) : (0 ≤ n → -n ≤ q ∧ q ≤ 0) ∧ (n ≤ 0 → 0 ≤ q ∧ q ≤ -n) := by
  have e := ceil_rng hb h
  constructor
  · intro n0
    have q0 : q ≤ 0 := by
      by_cases z : q ≤ 0
      · exact z
      · have : (0 - q) * b < 0 := Int.mul_neg_of_neg_of_pos (by omega) hb
        omega
    refine ⟨?_, q0⟩
    by_cases c : -n ≤ q
    · exact c
    · have a : (0 - q - 1) * 1 ≤ (0 - q - 1) * b := Int.mul_le_mul_of_nonneg_left (by omega) (by omega)
      omega
  · intro n0
    exact ⟨by rw [h]; exact Int.ediv_nonneg (by omega) (by omega), by rw [h]; exact Int.le_trans (Int.ediv_le_self _ (by omega)) (by omega)⟩
/-- the greater of 0 and a ceiling -/
theorem ceil_max0 {n b q r : Int} (hb : 0 < b) (h : q = (0 - n) / b) (hr : 0 ≤ r ∧ 0 - q ≤ r ∧ (r = 0 ∨ r = 0 - q)) : 0 ≤ r ∧ (r = 0 ∨ (r - 1) * b < n) ∧ n ≤ r * b := by
  have e := ceil_rng hb h
  refine ⟨hr.1, ?_, ?_⟩
  · rcases hr.2.2 with z | z
    · exact .inl z
    · rw [z]; exact .inr e.1
  · have := Int.mul_le_mul_of_nonneg_right hr.2.1 (Int.le_of_lt hb)
    omega
theorem lwr_at' {last d e f ad t m D : Int} (hd : d % 2 ^ e.toNat = 0) (hD : D = d / 2 ^ e.toNat) (hg : ∀ y, 0 ≤ y → y * 2 ^ e.toNat < m → ¬ TGa D f ad (2 ^ t.toNat) y) (hs : ∀ y, 0 ≤ y → y * 2 ^ e.toNat < m → ¬ TSa D f ad (2 ^ t.toNat) y)
    (hw : ∃ y0, m = y0 * 2 ^ e.toNat ∧ 0 ≤ y0 ∧ (TGa D f ad (2 ^ t.toNat) y0 ∨ TSa D f ad (2 ^ t.toNat) y0)) (h : m ≤ last) : LwR last d e f ad t m :=
  hw.elim fun _ z => lwr_at hd hD hg hs z.1 z.2.1 h z.2.2
theorem tg_qmax {q p a f g : Int} (g0 : 0 < g) (f0 : 0 ≤ f) (f1 : f ≤ 2 ^ 70) (a0 : 0 ≤ a) (h : p = (a - f) / g) (hm : 1 ≤ q ∧ 0 - p ≤ q ∧ (q = 1 ∨ q = 0 - p)) : (q = 1 ∨ (q - 1) * g < f - a) ∧ f - a ≤ q * g ∧ q ≤ 2 ^ 70 := by
  have h' : p = (0 - (f - a)) / g := by rw [h]; congr 1; omega
  have e := ceil_rng g0 h'
  have b := quo_neg g0 h'
  have c : (0 - p) * g ≤ q * g := Int.mul_le_mul_of_nonneg_right hm.2.1 (Int.le_of_lt g0)
  refine ⟨?_, by omega, by omega⟩
  rcases hm.2.2 with z | z
  · exact .inl z
  · right; rw [z]; exact e.1
theorem tg_none' {d f a g q t m B p : Int} (hd : 0 < d) (f0 : 0 ≤ f) (hg : g = m - B) (hm : m = f * d) (hB : B = 2 ^ t.toNat) (hp : p = q * g) (hq : p < f - a) (h1 : g ≤ 0 → q = 1) (h2 : 0 < g → f - a ≤ q * g) : ∀ x, 0 ≤ x → ¬ TGa d f a (2 ^ t.toNat) x :=
  tg_none (q := q) (g := g) hd f0 (by rw [hg, hm, hB]) (by rw [← hp]; exact hq) h1 h2
theorem tg_zero' {d f a g q t m B p : Int} (hd : 0 < d) (f0 : f = 0) (hg : g = m - B) (hm : m = f * d) (hB : B = 2 ^ t.toNat) (hp : p = q * g) (hq : ¬ p < f - a) (h1 : g ≤ 0 → q = 1) : TGa d f a (2 ^ t.toNat) 0 := by
  subst f0
  rw [Int.zero_mul] at hm
  have hT := p2 t.toNat
  exact tg_zero (g := g) (q := q) hd hT (by omega) (by rw [← hp]; exact hq) (h1 (by omega))
theorem tg_fin {d f a g q t m B p s q2 r : Int} (hd : 0 < d) (d1 : d < 2 ^ 70) (f0 : 0 ≤ f) (f1 : f ≠ 0) (hg : g = m - B) (hm : m = f * d) (hB : B = 2 ^ t.toNat) (hp : p = q * g) (hq : ¬ p < f - a) (q1 : 1 ≤ q) (q9 : q ≤ 2 ^ 70) (h1 : g ≤ 0 → q = 1) (h2 : 0 < g → q = 1 ∨ (q - 1) * g < f - a)
    (hs : s = q * 2 ^ t.toNat) (hq2 : q2 = (a - s) / f) (hr : 0 ≤ r ∧ 0 - q2 ≤ r ∧ (r = 0 ∨ r = 0 - q2)) : 0 ≤ r ∧ r < 2 ^ 150 ∧ TGa d f a (2 ^ t.toNat) r ∧ ∀ x, 0 ≤ x → x < r → ¬ TGa d f a (2 ^ t.toNat) x := by
  have cm := ceil_max0 (n := s - a) (by omega : 0 < f) (by rw [hq2]; congr 1; omega) hr
  have z := tg_some (g := g) (q := q) hd (by omega) (p2 t.toNat) (by rw [hg, hm, hB]) q1 (by rw [← hp]; exact hq) h1 h2 cm.1 (by rw [← hs]; exact cm.2.1) (by rw [← hs]; exact cm.2.2)
  have y : q * d ≤ 2 ^ 70 * 2 ^ 70 := Int.mul_le_mul q9 (by omega) (by omega) (by decide)
  exact ⟨cm.1, by omega, z.1, z.2.1⟩
theorem mn0 {m d : Int} (h : (([] : List Int) = [] ∧ m = d) ∨ (m ∈ ([] : List Int) ∧ ∀ y ∈ ([] : List Int), m ≤ y)) : m = d := by
  rcases h with h | h
  · exact h.2
  · cases h.1
theorem mn1 {m d a : Int} (h : ([a] = [] ∧ m = d) ∨ (m ∈ [a] ∧ ∀ y ∈ [a], m ≤ y)) : m = a := by
  rcases h with h | h
  · cases h.1
  · exact List.mem_singleton.mp h.1
theorem mn2 {m d a b : Int} (h : ([a, b] = [] ∧ m = d) ∨ (m ∈ [a, b] ∧ ∀ y ∈ [a, b], m ≤ y)) : (m = a ∨ m = b) ∧ m ≤ a ∧ m ≤ b := by
  rcases h with h | h
  · cases h.1
  · exact ⟨by simpa using h.1, h.2 a (by simp), h.2 b (by simp)⟩

def WrongF (fm : Tf_Form) (w d r : Int) : Prop := LwR (2 ^ w.toNat - 1) d (nE fm) (nF fm w) (nA fm) (nT fm w) r

theorem log2_small {i : Int} (h0 : 0 ≤ i) (h1 : i < 2 ^ 41) : i.natAbs.log2 < 1920 := by
  by_cases z : i.natAbs = 0
  · rw [z]; decide
  · exact Nat.lt_of_lt_of_le ((Nat.log2_lt z).mpr (by omega : i.natAbs < 2 ^ 41)) (by decide)
theorem wr_out {fm : Tf_Form} {w d x : Int} (h : false = true ↔ 0 ≤ x ∧ x ≤ 2 ^ w.toNat - 1) : ¬ WrongF fm w d x := fun z => by
  have := h.mpr ⟨z.1, z.2.1⟩
  cases this
theorem wr_right {fm : Tf_Form} {w d x : Int} (h : brought (nE fm) (nF fm w) (nA fm) (nT fm w) x = x / d) : ¬ WrongF fm w d x := fun z => z.2.2.1 h
theorem wr_zero {fm : Tf_Form} {w d x : Int} (h : x = 0) (hw : ¬ brought (nE fm) (nF fm w) (nA fm) (nT fm w) x = x / d) (hp : (0 : Int) < 2 ^ w.toNat) : WrongF fm w d x := ⟨by omega, by have := p2 w.toNat; omega, hw, fun y a b => by omega⟩
theorem wr_iff {fm : Tf_Form} {w d x : Int} (hw : ¬ brought (nE fm) (nF fm w) (nA fm) (nT fm w) x = x / d) (h0 : 0 ≤ x) (h1 : x ≤ 2 ^ w.toNat - 1) : AllR (x - 1) d (nE fm) (nF fm w) (nA fm) (nT fm w) ↔ WrongF fm w d x :=
  ⟨fun h => ⟨h0, h1, hw, fun y a b => h y a (by omega)⟩, fun h y a b => h.2.2.2 y a (by omega)⟩

theorem no_T {b : Bool} {P : Prop} (n : ¬ (b = true ↔ True)) (h : b = true ↔ P) (p : P) : False := n (iff_of_true (h.mpr p) trivial)
theorem no_a {b : Bool} {L d e f a t x : Int} (n : ¬ (b = true ↔ V.non = V.int x)) (h : b = true ↔ AllR L d e f a t) (q : LwR L d e f a t x) : False := n (h.trans (iff_of_false (fun z => by first | exact lwr_no z q | exact lwr_no q z) (fun z => nomatch z)))
theorem no_b {b : Bool} {L d e f a t x : Int} (n : ¬ (b = true ↔ V.int x = V.non)) (h : b = true ↔ LwR L d e f a t x) (q : AllR L d e f a t) : False := n (h.trans (iff_of_false (fun z => by first | exact lwr_no z q | exact lwr_no q z) (fun z => nomatch z)))
theorem no_c {b : Bool} {L d e f a t x y : Int} (n : ¬ (b = true ↔ x = y)) (h : b = true ↔ LwR L d e f a t x) (q : LwR L d e f a t y) : False := n (h.trans ⟨fun z => lwr_uniq z q, fun z => z ▸ q⟩)

def top (i : Nat) : Stmt := PySem.Challenge.pw_overwise_k30_words_that_are_shown.main.body.getD i (.Pass ⟨0, 0, 0, 0⟩)
abbrev s_l_draw : Stmt := top 34
theorem sc_l_draw : FnScope ["_law_state", "_law_size", "_law_number", "_law_one", "_law_two"] ["_law_state", "_law_size"] (defScope s_l_draw) := ⟨rfl, rfl, rfl, by decide +kernel, rfl, by decide +kernel, by decide +kernel⟩
abbrev s_l_divisor : Stmt := top 36
theorem sc_l_divisor : FnScope ["_law_state", "_law_width", "_law_last", "_law_kind", "_law_half"] ["_law_state", "_law_width"] (defScope s_l_divisor) := ⟨rfl, rfl, rfl, by decide +kernel, rfl, by decide +kernel, by decide +kernel⟩
abbrev s_l_twos : Stmt := top 35
theorem sc_l_twos : FnScope ["_law_d", "_law_twos_here"] ["_law_d"] (defScope s_l_twos) := ⟨rfl, rfl, rfl, by decide +kernel, rfl, by decide +kernel, by decide +kernel⟩
abbrev s_l_near : Stmt := top 44
theorem sc_l_near : FnScope ["_law_state", "_law_width", "_law_d", "_law_kind", "_law_k", "_law_early", "_law_factor"] ["_law_state", "_law_width", "_law_d"] (defScope s_l_near) := ⟨rfl, rfl, rfl, by decide +kernel, rfl, by decide +kernel, by decide +kernel⟩
abbrev s_l_numbers : Stmt := top 42
theorem sc_l_numbers : FnScope ["_law_told", "_law_width"] ["_law_told", "_law_width"] (defScope s_l_numbers) := ⟨rfl, rfl, rfl, by decide +kernel, rfl, by decide +kernel, by decide +kernel⟩
abbrev s_is_whole : Stmt := top 9
theorem sc_is_whole : FnScope ["thing"] ["thing"] (defScope s_is_whole) := ⟨rfl, rfl, rfl, by decide +kernel, rfl, by decide +kernel, by decide +kernel⟩
abbrev s_is_between : Stmt := top 14
theorem sc_is_between : FnScope ["number", "least", "greatest"] ["number", "least", "greatest"] (defScope s_is_between) := ⟨rfl, rfl, rfl, by decide +kernel, rfl, by decide +kernel, by decide +kernel⟩
abbrev s_Form___init__ : Stmt := inClass (top 18) 0
theorem sc_Form___init__ : FnScope ["self", "early", "factor", "shift", "tells"] ["self", "early", "factor", "shift", "tells"] (defScope s_Form___init__) := ⟨rfl, rfl, rfl, by decide +kernel, rfl, by decide +kernel, by decide +kernel⟩
abbrev s_Wide___init__ : Stmt := inClass (top 23) 0
theorem sc_Wide___init__ : FnScope ["self", "factor", "shift"] ["self", "factor", "shift"] (defScope s_Wide___init__) := ⟨rfl, rfl, rfl, by decide +kernel, rfl, by decide +kernel, by decide +kernel⟩
abbrev s_Shifted___init__ : Stmt := inClass (top 19) 0
theorem sc_Shifted___init__ : FnScope ["self", "shift"] ["self", "shift"] (defScope s_Shifted___init__) := ⟨rfl, rfl, rfl, by decide +kernel, rfl, by decide +kernel, by decide +kernel⟩
abbrev s_Scaled___init__ : Stmt := inClass (top 20) 0
theorem sc_Scaled___init__ : FnScope ["self", "factor", "shift"] ["self", "factor", "shift"] (defScope s_Scaled___init__) := ⟨rfl, rfl, rfl, by decide +kernel, rfl, by decide +kernel, by decide +kernel⟩
abbrev s_Early___init__ : Stmt := inClass (top 21) 0
theorem sc_Early___init__ : FnScope ["self", "early", "factor", "shift"] ["self", "early", "factor", "shift"] (defScope s_Early___init__) := ⟨rfl, rfl, rfl, by decide +kernel, rfl, by decide +kernel, by decide +kernel⟩
abbrev s_More___init__ : Stmt := inClass (top 22) 0
theorem sc_More___init__ : FnScope ["self", "factor", "shift"] ["self", "factor", "shift"] (defScope s_More___init__) := ⟨rfl, rfl, rfl, by decide +kernel, rfl, by decide +kernel, by decide +kernel⟩
abbrev s_l_make : Stmt := top 43
theorem sc_l_make : FnScope ["_law_told"] ["_law_told"] (defScope s_l_make) := ⟨rfl, rfl, rfl, by decide +kernel, rfl, by decide +kernel, by decide +kernel⟩
abbrev s_l_other : Stmt := top 47
theorem sc_l_other : FnScope ["_law_state", "_law_width", "_law_d", "_law_early"] ["_law_state", "_law_width", "_law_d", "_law_early"] (defScope s_l_other) := ⟨rfl, rfl, rfl, by decide +kernel, rfl, by decide +kernel, by decide +kernel⟩
abbrev s_need_width : Stmt := top 10
theorem sc_need_width : FnScope ["width"] ["width"] (defScope s_need_width) := ⟨rfl, rfl, rfl, by decide +kernel, rfl, by decide +kernel, by decide +kernel⟩
abbrev s_need_divisor : Stmt := top 15
theorem sc_need_divisor : FnScope ["width", "d"] ["width", "d"] (defScope s_need_divisor) := ⟨rfl, rfl, rfl, by decide +kernel, rfl, by decide +kernel, by decide +kernel⟩
abbrev s_Shifted_numbers_in : Stmt := inClass (top 19) 3
theorem sc_Shifted_numbers_in : FnScope ["self", "width"] ["self", "width"] (defScope s_Shifted_numbers_in) := ⟨rfl, rfl, rfl, by decide +kernel, rfl, by decide +kernel, by decide +kernel⟩
abbrev s_Form_numbers_in : Stmt := inClass (top 18) 3
theorem sc_Form_numbers_in : FnScope ["self", "width"] ["self", "width"] (defScope s_Form_numbers_in) := ⟨rfl, rfl, rfl, by decide +kernel, rfl, by decide +kernel, by decide +kernel⟩
abbrev s_More_numbers_in : Stmt := inClass (top 22) 2
theorem sc_More_numbers_in : FnScope ["self", "width"] ["self", "width"] (defScope s_More_numbers_in) := ⟨rfl, rfl, rfl, by decide +kernel, rfl, by decide +kernel, by decide +kernel⟩
abbrev s_Wide_numbers_in : Stmt := inClass (top 23) 2
theorem sc_Wide_numbers_in : FnScope ["self", "width"] ["self", "width"] (defScope s_Wide_numbers_in) := ⟨rfl, rfl, rfl, by decide +kernel, rfl, by decide +kernel, by decide +kernel⟩
abbrev s_twos_in : Stmt := top 16
theorem sc_twos_in : FnScope ["d", "twos"] ["d"] (defScope s_twos_in) := ⟨rfl, rfl, rfl, by decide +kernel, rfl, by decide +kernel, by decide +kernel⟩
abbrev s_numbers_for : Stmt := top 26
theorem sc_numbers_for : FnScope ["width", "d", "form", "numbers"] ["width", "d", "form"] (defScope s_numbers_for) := ⟨rfl, rfl, rfl, by decide +kernel, rfl, by decide +kernel, by decide +kernel⟩
abbrev s_first_too_great : Stmt := top 27
theorem sc_first_too_great : FnScope ["d", "factor", "addend", "total", "gap", "q"] ["d", "factor", "addend", "total"] (defScope s_first_too_great) := ⟨rfl, rfl, rfl, by decide +kernel, rfl, by decide +kernel, by decide +kernel⟩
abbrev s_first_too_small : Stmt := top 28
theorem sc_first_too_small : FnScope ["d", "factor", "addend", "total", "gap"] ["d", "factor", "addend", "total"] (defScope s_first_too_small) := ⟨rfl, rfl, rfl, by decide +kernel, rfl, by decide +kernel, by decide +kernel⟩
abbrev s_least_wrong : Stmt := top 29
theorem sc_least_wrong : FnScope ["last", "d", "reckoning", "early", "factor", "addend", "total", "some", "found", "x"] ["last", "d", "reckoning"] (defScope s_least_wrong) := ⟨rfl, rfl, rfl, by decide +kernel, rfl, by decide +kernel, by decide +kernel⟩
abbrev s_wrong_word : Stmt := top 30
theorem sc_wrong_word : FnScope ["width", "d", "form", "numbers"] ["width", "d", "form"] (defScope s_wrong_word) := ⟨rfl, rfl, rfl, by decide +kernel, rfl, by decide +kernel, by decide +kernel⟩
abbrev s_l_whole : Stmt := top 37
theorem sc_l_whole : FnScope ["_law_found"] ["_law_found"] (defScope s_l_whole) := ⟨rfl, rfl, rfl, by decide +kernel, rfl, by decide +kernel, by decide +kernel⟩
abbrev s_l_things : Stmt := top 46
theorem sc_l_things : FnScope ["_law_state", "_law_width", "_law_d", "_law_word", "_law_some"] ["_law_state", "_law_width", "_law_d", "_law_word"] (defScope s_l_things) := ⟨rfl, rfl, rfl, by decide +kernel, rfl, by decide +kernel, by decide +kernel⟩
abbrev s_l_corners : Stmt := top 38
theorem sc_l_corners : FnScope ["_law_last", "_law_d", "_law_q", "_law_found", "_law_x"] ["_law_last", "_law_d"] (defScope s_l_corners) := ⟨rfl, rfl, rfl, by decide +kernel, rfl, by decide +kernel, by decide +kernel⟩
abbrev s_l_brought : Stmt := top 39
theorem sc_l_brought : FnScope ["_law_numbers_here", "_law_x", "_law_early", "_law_factor", "_law_addend", "_law_total"] ["_law_numbers_here", "_law_x"] (defScope s_l_brought) := ⟨rfl, rfl, rfl, by decide +kernel, rfl, by decide +kernel, by decide +kernel⟩
abbrev s_l_right_to : Stmt := top 40
theorem sc_l_right_to : FnScope ["_law_last", "_law_d", "_law_numbers_here", "_law_x"] ["_law_last", "_law_d", "_law_numbers_here"] (defScope s_l_right_to) := ⟨rfl, rfl, rfl, by decide +kernel, rfl, by decide +kernel, by decide +kernel⟩
abbrev s_l_least : Stmt := top 41
theorem sc_l_least : FnScope ["_law_last", "_law_d", "_law_numbers_here", "_law_word"] ["_law_last", "_law_d", "_law_numbers_here", "_law_word"] (defScope s_l_least) := ⟨rfl, rfl, rfl, by decide +kernel, rfl, by decide +kernel, by decide +kernel⟩
abbrev s_corners_to : Stmt := top 24
theorem sc_corners_to : FnScope ["last", "d", "q", "found"] ["last", "d"] (defScope s_corners_to) := ⟨rfl, rfl, rfl, by decide +kernel, rfl, by decide +kernel, by decide +kernel⟩
abbrev s_brought : Stmt := top 17
theorem sc_brought : FnScope ["reckoning", "x", "early", "factor", "addend", "total"] ["reckoning", "x"] (defScope s_brought) := ⟨rfl, rfl, rfl, by decide +kernel, rfl, by decide +kernel, by decide +kernel⟩
abbrev s_holds_to : Stmt := top 25
theorem sc_holds_to : FnScope ["last", "d", "reckoning", "x"] ["last", "d", "reckoning"] (defScope s_holds_to) := ⟨rfl, rfl, rfl, by decide +kernel, rfl, by decide +kernel, by decide +kernel⟩
abbrev s_is_wrong_word : Stmt := top 31
theorem sc_is_wrong_word : FnScope ["width", "d", "form", "thing", "numbers", "last"] ["width", "d", "form", "thing"] (defScope s_is_wrong_word) := ⟨rfl, rfl, rfl, by decide +kernel, rfl, by decide +kernel, by decide +kernel⟩
abbrev s_l_first : Stmt := top 45
theorem sc_l_first : FnScope ["_law_width", "_law_d", "_law_numbers_here", "_law_x"] ["_law_width", "_law_d", "_law_numbers_here"] (defScope s_l_first) := ⟨rfl, rfl, rfl, by decide +kernel, rfl, by decide +kernel, by decide +kernel⟩
abbrev s_l_case : Stmt := top 48
theorem sc_l_case : FnScope ["_law_state", "_law_width", "_law_d", "_law_told", "_law_numbers_here", "_law_form", "_law_wide", "_law_by", "_law_thing", "_law_word", "_law_due", "_law_found"] ["_law_state"] (defScope s_l_case) := ⟨rfl, rfl, rfl, by decide +kernel, rfl, by decide +kernel, by decide +kernel⟩
abbrev s_l_start : Stmt := top 33
theorem sc_l_start : FnScope ["_law_script", "_law_k", "_law_cell", "_law_number"] ["_law_script", "_law_k"] (defScope s_l_start) := ⟨rfl, rfl, rfl, by decide +kernel, rfl, by decide +kernel, by decide +kernel⟩
abbrev s_law : Stmt := top 49
theorem sc_law : FnScope ["_law_script", "_law_k"] ["_law_script"] (defScope s_law) := ⟨rfl, rfl, rfl, by decide +kernel, rfl, by decide +kernel, by decide +kernel⟩
structure Tx (K : PySem.W.Frag) (mg : Str → Option Value) : Type where
  k_Early : Ow.Kc K mg "Early"
  k_Form : Ow.Kc K mg "Form"
  k_More : Ow.Kc K mg "More"
  k_Scaled : Ow.Kc K mg "Scaled"
  k_Shifted : Ow.Kc K mg "Shifted"
  k_Wide : Ow.Kc K mg "Wide"
  na_Early_early : NoAttr K k_Early.C "early"
  na_Early_factor : NoAttr K k_Early.C "factor"
  na_Early_shift : NoAttr K k_Early.C "shift"
  na_More_early : NoAttr K k_More.C "early"
  na_More_factor : NoAttr K k_More.C "factor"
  na_More_shift : NoAttr K k_More.C "shift"
  na_Scaled_early : NoAttr K k_Scaled.C "early"
  na_Scaled_factor : NoAttr K k_Scaled.C "factor"
  na_Scaled_shift : NoAttr K k_Scaled.C "shift"
  na_Shifted_early : NoAttr K k_Shifted.C "early"
  na_Shifted_factor : NoAttr K k_Shifted.C "factor"
  na_Shifted_shift : NoAttr K k_Shifted.C "shift"
  na_Wide_early : NoAttr K k_Wide.C "early"
  na_Wide_factor : NoAttr K k_Wide.C "factor"
  na_Wide_shift : NoAttr K k_Wide.C "shift"
  d_l_draw : Ow.Dk K mg "_law_draw" "_law_draw" s_l_draw ["_law_state", "_law_size"]
  d_l_divisor : Ow.Dk K mg "_law_divisor" "_law_divisor" s_l_divisor ["_law_state", "_law_width"]
  d_l_twos : Ow.Dk K mg "_law_twos" "_law_twos" s_l_twos ["_law_d"]
  d_l_near : Ow.Dk K mg "_law_near" "_law_near" s_l_near ["_law_state", "_law_width", "_law_d"]
  d_l_numbers : Ow.Dk K mg "_law_numbers" "_law_numbers" s_l_numbers ["_law_told", "_law_width"]
  d_is_whole : Ow.Dk K mg "is_whole" "is_whole" s_is_whole ["thing"]
  d_is_between : Ow.Dk K mg "is_between" "is_between" s_is_between ["number", "least", "greatest"]
  d_Form___init__ : Ow.Dm K "__init__" "Form.__init__" s_Form___init__ ["self", "early", "factor", "shift", "tells"]
  d_Wide___init__ : Ow.Dm K "__init__" "Wide.__init__" s_Wide___init__ ["self", "factor", "shift"]
  d_Shifted___init__ : Ow.Dm K "__init__" "Shifted.__init__" s_Shifted___init__ ["self", "shift"]
  d_Scaled___init__ : Ow.Dm K "__init__" "Scaled.__init__" s_Scaled___init__ ["self", "factor", "shift"]
  d_Early___init__ : Ow.Dm K "__init__" "Early.__init__" s_Early___init__ ["self", "early", "factor", "shift"]
  d_More___init__ : Ow.Dm K "__init__" "More.__init__" s_More___init__ ["self", "factor", "shift"]
  d_l_make : Ow.Dk K mg "_law_make" "_law_make" s_l_make ["_law_told"]
  d_l_other : Ow.Dk K mg "_law_other" "_law_other" s_l_other ["_law_state", "_law_width", "_law_d", "_law_early"]
  d_need_width : Ow.Dk K mg "need_width" "need_width" s_need_width ["width"]
  d_need_divisor : Ow.Dk K mg "need_divisor" "need_divisor" s_need_divisor ["width", "d"]
  d_Shifted_numbers_in : Ow.Dm K "numbers_in" "Shifted.numbers_in" s_Shifted_numbers_in ["self", "width"]
  mt_Shifted_numbers_in : Meth K k_Shifted.C "numbers_in" d_Shifted_numbers_in.f
  d_Form_numbers_in : Ow.Dm K "numbers_in" "Form.numbers_in" s_Form_numbers_in ["self", "width"]
  mt_Early_numbers_in : Meth K k_Early.C "numbers_in" d_Form_numbers_in.f
  mt_Scaled_numbers_in : Meth K k_Scaled.C "numbers_in" d_Form_numbers_in.f
  d_More_numbers_in : Ow.Dm K "numbers_in" "More.numbers_in" s_More_numbers_in ["self", "width"]
  mt_More_numbers_in : Meth K k_More.C "numbers_in" d_More_numbers_in.f
  d_Wide_numbers_in : Ow.Dm K "numbers_in" "Wide.numbers_in" s_Wide_numbers_in ["self", "width"]
  mt_Wide_numbers_in : Meth K k_Wide.C "numbers_in" d_Wide_numbers_in.f
  d_twos_in : Ow.Dk K mg "twos_in" "twos_in" s_twos_in ["d"]
  d_numbers_for : Ow.Dk K mg "numbers_for" "numbers_for" s_numbers_for ["width", "d", "form"]
  d_first_too_great : Ow.Dk K mg "first_too_great" "first_too_great" s_first_too_great ["d", "factor", "addend", "total"]
  d_first_too_small : Ow.Dk K mg "first_too_small" "first_too_small" s_first_too_small ["d", "factor", "addend", "total"]
  d_least_wrong : Ow.Dk K mg "least_wrong" "least_wrong" s_least_wrong ["last", "d", "reckoning"]
  d_wrong_word : Ow.Dk K mg "wrong_word" "wrong_word" s_wrong_word ["width", "d", "form"]
  d_l_whole : Ow.Dk K mg "_law_whole" "_law_whole" s_l_whole ["_law_found"]
  d_l_things : Ow.Dk K mg "_law_things" "_law_things" s_l_things ["_law_state", "_law_width", "_law_d", "_law_word"]
  d_l_corners : Ow.Dk K mg "_law_corners" "_law_corners" s_l_corners ["_law_last", "_law_d"]
  d_l_brought : Ow.Dk K mg "_law_brought" "_law_brought" s_l_brought ["_law_numbers_here", "_law_x"]
  d_l_right_to : Ow.Dk K mg "_law_right_to" "_law_right_to" s_l_right_to ["_law_last", "_law_d", "_law_numbers_here"]
  d_l_least : Ow.Dk K mg "_law_least" "_law_least" s_l_least ["_law_last", "_law_d", "_law_numbers_here", "_law_word"]
  d_corners_to : Ow.Dk K mg "corners_to" "corners_to" s_corners_to ["last", "d"]
  d_brought : Ow.Dk K mg "brought" "brought" s_brought ["reckoning", "x"]
  d_holds_to : Ow.Dk K mg "holds_to" "holds_to" s_holds_to ["last", "d", "reckoning"]
  d_is_wrong_word : Ow.Dk K mg "is_wrong_word" "is_wrong_word" s_is_wrong_word ["width", "d", "form", "thing"]
  d_l_first : Ow.Dk K mg "_law_first" "_law_first" s_l_first ["_law_width", "_law_d", "_law_numbers_here"]
  d_l_case : Ow.Dk K mg "_law_case" "_law_case" s_l_case ["_law_state"]
  d_l_start : Ow.Dk K mg "_law_start" "_law_start" s_l_start ["_law_script", "_law_k"]
  d_law : Ow.Dk K mg "law" "law" s_law ["_law_script"]
  mk_Early : Mk K k_Early.C d_Early___init__.f
  mk_More : Mk K k_More.C d_More___init__.f
  mk_Scaled : Mk K k_Scaled.C d_Scaled___init__.f
  mk_Shifted : Mk K k_Shifted.C d_Shifted___init__.f
  mk_Wide : Mk K k_Wide.C d_Wide___init__.f
  cc_Form___init__ : Ow.Cc K k_Form.C "__init__" d_Form___init__.f
  g_GREATEST_SHIFT : ∃ t, mg "GREATEST_SHIFT" = some (.int 64 t)
  g_GREATEST_FACTOR : ∃ t, mg "GREATEST_FACTOR" = some (.int 4294967295 t)
  g_LEAST_WIDTH : ∃ t, mg "LEAST_WIDTH" = some (.int 4 t)
  g_GREATEST_WIDTH : ∃ t, mg "GREATEST_WIDTH" = some (.int 32 t)
  z_max : mg "max" = none
  z_min : mg "min" = none
  z_isinstance : mg "isinstance" = none
  z_bool : mg "bool" = none
  z_int : mg "int" = none
  z_str : mg "str" = none
  z_sorted : mg "sorted" = none
  z_set : mg "set" = none
  z_range : mg "range" = none
  z_len : mg "len" = none
def cls_Form {K : PySem.W.Frag} {mg : Str → Option Value} (T : Tx K mg) : F_Form → Addr
  | .Shifted => T.k_Shifted.C
  | .Scaled => T.k_Scaled.C
  | .Early => T.k_Early.C
  | .More => T.k_More.C
  | .Wide => T.k_Wide.C
theorem kcl_Form {K : PySem.W.Frag} {mg : Str → Option Value} (T : Tx K mg) (w : F_Form) : Cls K (cls_Form T w) := by cases w <;> first | exact T.k_Shifted.cl | exact T.k_Scaled.cl | exact T.k_Early.cl | exact T.k_More.cl | exact T.k_Wide.cl
theorem kna_Form_early {K : PySem.W.Frag} {mg : Str → Option Value} (T : Tx K mg) (w : F_Form) : NoAttr K (cls_Form T w) "early" := by cases w <;> first | exact T.na_Shifted_early | exact T.na_Scaled_early | exact T.na_Early_early | exact T.na_More_early | exact T.na_Wide_early
theorem kna_Form_factor {K : PySem.W.Frag} {mg : Str → Option Value} (T : Tx K mg) (w : F_Form) : NoAttr K (cls_Form T w) "factor" := by cases w <;> first | exact T.na_Shifted_factor | exact T.na_Scaled_factor | exact T.na_Early_factor | exact T.na_More_factor | exact T.na_Wide_factor
theorem kna_Form_shift {K : PySem.W.Frag} {mg : Str → Option Value} (T : Tx K mg) (w : F_Form) : NoAttr K (cls_Form T w) "shift" := by cases w <;> first | exact T.na_Shifted_shift | exact T.na_Scaled_shift | exact T.na_Early_shift | exact T.na_More_shift | exact T.na_Wide_shift
def sp_l_draw {K : PySem.W.Frag} {mg : Str → Option Value} (T : Tx K mg) : Sp := fun vs H Q E => ∃ (box : Addr) (size : Int) (a : Int) (c : Int), vs = [.ref box, .int size] ∧ H box = some (.lst [.int (a), .int (c)]) ∧ (0 < size) ∧ (size < 2 ^ 80) ∧ (∀ (r : Int), ∀ (a2 : Int), ∀ (c2 : Int), (0 ≤ r) → (r < size) → Q (.int (r)) (upd H box (.lst [.int (a2), .int (c2)])))
def sp_l_divisor {K : PySem.W.Frag} {mg : Str → Option Value} (T : Tx K mg) : Sp := fun vs H Q E => ∃ (box : Addr) (width : Int) (a : Int) (c : Int), vs = [.ref box, .int width] ∧ H box = some (.lst [.int (a), .int (c)]) ∧ (4 ≤ width) ∧ (width ≤ 32) ∧ (∀ (r : Int), ∀ (a2 : Int), ∀ (c2 : Int), (1 ≤ r) → (r < 2 ^ width.toNat) → Q (.int (r)) (upd H box (.lst [.int (a2), .int (c2)])))
def sp_l_twos {K : PySem.W.Frag} {mg : Str → Option Value} (T : Tx K mg) : Sp := fun vs H Q E => ∃ (d : Int), vs = [.int d] ∧ (1 ≤ d) ∧ (d < 2 ^ 70) ∧ (∀ (t : Int), (0 ≤ t) → (t < 70) → (d % 2 ^ t.toNat = 0) → ∀ H', Same H H' → Q (.int (t)) H')
def sp_l_near {K : PySem.W.Frag} {mg : Str → Option Value} (T : Tx K mg) : Sp := fun vs H Q E => ∃ (box : Addr) (width : Int) (d : Int) (a : Int) (c : Int), vs = [.ref box, .int width, .int d] ∧ H box = some (.lst [.int (a), .int (c)]) ∧ (4 ≤ width) ∧ (width ≤ 32) ∧ (1 ≤ d) ∧ (d < 2 ^ width.toNat) ∧ (∀ (fm : Ow.Tf_Form), ∀ (a2 : Int), ∀ (c2 : Int), (Ow.FOk fm) → (d % 2 ^ (Ow.nE fm).toNat = 0) → ∀ aq H', Ow.Fm box H H' → H' box = some (.lst [.int (a2), .int (c2)]) → H aq = none → H' aq = some (.tup (Ow.tl_Form fm)) → Q (.ref aq) H')
def sp_l_numbers {K : PySem.W.Frag} {mg : Str → Option Value} (T : Tx K mg) : Sp := fun vs H Q E => ∃ (told : Addr) (width : Int) (fm : Ow.Tf_Form), vs = [.ref told, .int width] ∧ (4 ≤ width) ∧ (width ≤ 32) ∧ H told = some (.tup (Ow.tl_Form fm)) ∧ (Ow.FOk fm) ∧ (∀ aq H', Same H H' → H aq = none → H' aq = some (.tup [.int (Ow.nE fm), .int (Ow.nF fm width), .int (Ow.nA fm), .int (Ow.nT fm width)]) → Q (.ref aq) H')
def sp_is_whole {K : PySem.W.Frag} {mg : Str → Option Value} (T : Tx K mg) : Sp := fun vs H Q E => (∃ (thing : Int), vs = [.int thing] ∧ (Q (.bl (true)) H)) ∨ (vs = [.non] ∧ (Q (.bl (false)) H)) ∨ (∃ (thing : Bool), vs = [.bl thing] ∧ (Q (.bl (false)) H)) ∨ (∃ (thing : Str), vs = [.str thing] ∧ (Q (.bl (false)) H)) ∨ (∃ (thing : Addr) (vl : List L2.V), vs = [.ref thing] ∧ H thing = some (.lst vl) ∧ (Q (.bl (false)) H)) ∨ (∃ (thing : Addr) (vl : List L2.V), vs = [.ref thing] ∧ H thing = some (.tup vl) ∧ (Q (.bl (false)) H)) ∨ (∃ (thing : Addr), vs = [.ref thing] ∧ H thing = some (.dK []) ∧ (Q (.bl (false)) H))
def sp_is_between {K : PySem.W.Frag} {mg : Str → Option Value} (T : Tx K mg) : Sp := fun vs H Q E => (∃ (number : Int) (least : Int) (greatest : Int), vs = [.int number, .int least, .int greatest] ∧ (least ≤ number) ∧ (number ≤ greatest) ∧ (Q (.bl (true)) H)) ∨ (∃ (thing : Int) (least : Int) (greatest : Int), vs = [.int thing, .int least, .int greatest] ∧ (∀ (b : Bool), (b = true ↔ least ≤ thing ∧ thing ≤ greatest) → Q (.bl (b)) H)) ∨ (∃ (least : Int) (greatest : Int), vs = [.non, .int least, .int greatest] ∧ (Q (.bl (false)) H)) ∨ (∃ (thing : Bool) (least : Int) (greatest : Int), vs = [.bl thing, .int least, .int greatest] ∧ (Q (.bl (false)) H)) ∨ (∃ (thing : Str) (least : Int) (greatest : Int), vs = [.str thing, .int least, .int greatest] ∧ (Q (.bl (false)) H)) ∨ (∃ (thing : Addr) (least : Int) (greatest : Int) (vl : List L2.V), vs = [.ref thing, .int least, .int greatest] ∧ H thing = some (.lst vl) ∧ (Q (.bl (false)) H)) ∨ (∃ (thing : Addr) (least : Int) (greatest : Int) (vl : List L2.V), vs = [.ref thing, .int least, .int greatest] ∧ H thing = some (.tup vl) ∧ (Q (.bl (false)) H)) ∨ (∃ (thing : Addr) (least : Int) (greatest : Int), vs = [.ref thing, .int least, .int greatest] ∧ H thing = some (.dK []) ∧ (Q (.bl (false)) H))
def sp_Form___init__ {K : PySem.W.Frag} {mg : Str → Option Value} (T : Tx K mg) : Sp := fun vs H Q E => ∃ (self : Addr) (early : Int) (factor : Int) (shift : Int) (tells : Addr) (wy : Ow.F_Form) (dx_self : Addr), vs = [.ref self, .int early, .int factor, .int shift, .ref tells] ∧ H self = some (.ins (Ow.cls_Form T wy) dx_self []) ∧ (0 ≤ early) ∧ (early ≤ 64) ∧ (0 ≤ factor) ∧ (factor ≤ 4294967295) ∧ (0 ≤ shift) ∧ (shift ≤ 64) ∧ (∀ H', Ow.Fm self H H' → H' self = some (.ins (Ow.cls_Form T wy) dx_self [(("early" : Str), V.int (early)), (("factor" : Str), V.int (factor)), (("shift" : Str), V.int (shift))]) → Q .non H')
def sp_Wide___init__ {K : PySem.W.Frag} {mg : Str → Option Value} (T : Tx K mg) : Sp := fun vs H Q E => ∃ (self : Addr) (factor : Int) (shift : Int) (dx_self : Addr), vs = [.ref self, .int factor, .int shift] ∧ H self = some (.ins (T.k_Wide.C) dx_self []) ∧ (0 ≤ factor) ∧ (factor ≤ 4294967295) ∧ (0 ≤ shift) ∧ (shift ≤ 64) ∧ (1 ≤ shift) ∧ (∀ H', Ow.Fm self H H' → H' self = some (.ins (T.k_Wide.C) dx_self [(("early" : Str), V.int (0)), (("factor" : Str), V.int (factor)), (("shift" : Str), V.int (shift))]) → Q .non H')
def sp_Shifted___init__ {K : PySem.W.Frag} {mg : Str → Option Value} (T : Tx K mg) : Sp := fun vs H Q E => ∃ (self : Addr) (shift : Int) (dx_self : Addr), vs = [.ref self, .int shift] ∧ H self = some (.ins (T.k_Shifted.C) dx_self []) ∧ (0 ≤ shift) ∧ (shift ≤ 64) ∧ (∀ H', Ow.Fm self H H' → H' self = some (.ins (T.k_Shifted.C) dx_self [(("early" : Str), V.int (0)), (("factor" : Str), V.int (1)), (("shift" : Str), V.int (shift))]) → Q .non H')
def sp_Scaled___init__ {K : PySem.W.Frag} {mg : Str → Option Value} (T : Tx K mg) : Sp := fun vs H Q E => ∃ (self : Addr) (factor : Int) (shift : Int) (dx_self : Addr), vs = [.ref self, .int factor, .int shift] ∧ H self = some (.ins (T.k_Scaled.C) dx_self []) ∧ (0 ≤ factor) ∧ (factor ≤ 4294967295) ∧ (0 ≤ shift) ∧ (shift ≤ 64) ∧ (∀ H', Ow.Fm self H H' → H' self = some (.ins (T.k_Scaled.C) dx_self [(("early" : Str), V.int (0)), (("factor" : Str), V.int (factor)), (("shift" : Str), V.int (shift))]) → Q .non H')
def sp_Early___init__ {K : PySem.W.Frag} {mg : Str → Option Value} (T : Tx K mg) : Sp := fun vs H Q E => ∃ (self : Addr) (early : Int) (factor : Int) (shift : Int) (dx_self : Addr), vs = [.ref self, .int early, .int factor, .int shift] ∧ H self = some (.ins (T.k_Early.C) dx_self []) ∧ (0 ≤ early) ∧ (early ≤ 64) ∧ (0 ≤ factor) ∧ (factor ≤ 4294967295) ∧ (0 ≤ shift) ∧ (shift ≤ 64) ∧ (∀ H', Ow.Fm self H H' → H' self = some (.ins (T.k_Early.C) dx_self [(("early" : Str), V.int (early)), (("factor" : Str), V.int (factor)), (("shift" : Str), V.int (shift))]) → Q .non H')
def sp_More___init__ {K : PySem.W.Frag} {mg : Str → Option Value} (T : Tx K mg) : Sp := fun vs H Q E => ∃ (self : Addr) (factor : Int) (shift : Int) (dx_self : Addr), vs = [.ref self, .int factor, .int shift] ∧ H self = some (.ins (T.k_More.C) dx_self []) ∧ (0 ≤ factor) ∧ (factor ≤ 4294967295) ∧ (0 ≤ shift) ∧ (shift ≤ 64) ∧ (∀ H', Ow.Fm self H H' → H' self = some (.ins (T.k_More.C) dx_self [(("early" : Str), V.int (0)), (("factor" : Str), V.int (factor)), (("shift" : Str), V.int (shift))]) → Q .non H')
def sp_l_make {K : PySem.W.Frag} {mg : Str → Option Value} (T : Tx K mg) : Sp := fun vs H Q E => ∃ (told : Addr) (fm : Ow.Tf_Form), vs = [.ref told] ∧ H told = some (.tup (Ow.tl_Form fm)) ∧ (Ow.FOk fm) ∧ (∀ aq dq H', Same H H' → H aq = none → H' aq = some (.ins (Ow.cls_Form T (Ow.kn_Form fm)) dq (Ow.fl_Form fm)) → Q (.ref aq) H')
def sp_l_other {K : PySem.W.Frag} {mg : Str → Option Value} (T : Tx K mg) : Sp := fun vs H Q E => ∃ (box : Addr) (width : Int) (d : Int) (early : Int) (a : Int) (c : Int), vs = [.ref box, .int width, .int d, .int early] ∧ H box = some (.lst [.int (a), .int (c)]) ∧ (4 ≤ width) ∧ (width ≤ 32) ∧ (1 ≤ d) ∧ (d < 2 ^ width.toNat) ∧ (0 ≤ early) ∧ (d % 2 ^ early.toNat = 0) ∧ (∀ (wi : Int), ∀ (dv : Int), ∀ (a2 : Int), ∀ (c2 : Int), (4 ≤ wi) → (wi ≤ 32) → (1 ≤ dv) → (dv < 2 ^ wi.toNat) → (dv % 2 ^ early.toNat = 0) → ∀ aq H', Ow.Fm box H H' → H' box = some (.lst [.int (a2), .int (c2)]) → H aq = none → H' aq = some (.tup [.int (wi), .int (dv)]) → Q (.ref aq) H')
def sp_need_width {K : PySem.W.Frag} {mg : Str → Option Value} (T : Tx K mg) : Sp := fun vs H Q E => ∃ (width : Int), vs = [.int width] ∧ (4 ≤ width) ∧ (width ≤ 32) ∧ (Q (.non) H)
def sp_need_divisor {K : PySem.W.Frag} {mg : Str → Option Value} (T : Tx K mg) : Sp := fun vs H Q E => ∃ (width : Int) (d : Int), vs = [.int width, .int d] ∧ (4 ≤ width) ∧ (width ≤ 32) ∧ (1 ≤ d) ∧ (d < 2 ^ width.toNat) ∧ (Q (.non) H)
def sp_Shifted_numbers_in {K : PySem.W.Frag} {mg : Str → Option Value} (T : Tx K mg) : Sp := fun vs H Q E => ∃ (self : Addr) (width : Int) (early : Int) (factor : Int) (shift : Int) (dx_self : Addr), vs = [.ref self, .int width] ∧ (4 ≤ width) ∧ (width ≤ 32) ∧ H self = some (.ins (T.k_Shifted.C) dx_self [(("early" : Str), V.int (early)), (("factor" : Str), V.int (factor)), (("shift" : Str), V.int (shift))]) ∧ (0 ≤ early) ∧ (early ≤ 64) ∧ (0 ≤ factor) ∧ (factor ≤ 4294967295) ∧ (0 ≤ shift) ∧ (shift ≤ 64) ∧ (∀ aq H', Same H H' → H aq = none → H' aq = some (.tup [.int (0), .int (1), .int (0), .int (shift)]) → Q (.ref aq) H')
def sp_Form_numbers_in {K : PySem.W.Frag} {mg : Str → Option Value} (T : Tx K mg) : Sp := fun vs H Q E => ∃ (self : Addr) (width : Int) (early : Int) (factor : Int) (shift : Int) (wy : Ow.F_Form) (dx_self : Addr), vs = [.ref self, .int width] ∧ (4 ≤ width) ∧ (width ≤ 32) ∧ H self = some (.ins (Ow.cls_Form T wy) dx_self [(("early" : Str), V.int (early)), (("factor" : Str), V.int (factor)), (("shift" : Str), V.int (shift))]) ∧ (0 ≤ early) ∧ (early ≤ 64) ∧ (0 ≤ factor) ∧ (factor ≤ 4294967295) ∧ (0 ≤ shift) ∧ (shift ≤ 64) ∧ (∀ aq H', Same H H' → H aq = none → H' aq = some (.tup [.int (early), .int (factor), .int (0), .int (width + shift)]) → Q (.ref aq) H')
def sp_More_numbers_in {K : PySem.W.Frag} {mg : Str → Option Value} (T : Tx K mg) : Sp := fun vs H Q E => ∃ (self : Addr) (width : Int) (early : Int) (factor : Int) (shift : Int) (dx_self : Addr), vs = [.ref self, .int width] ∧ (4 ≤ width) ∧ (width ≤ 32) ∧ H self = some (.ins (T.k_More.C) dx_self [(("early" : Str), V.int (early)), (("factor" : Str), V.int (factor)), (("shift" : Str), V.int (shift))]) ∧ (0 ≤ early) ∧ (early ≤ 64) ∧ (0 ≤ factor) ∧ (factor ≤ 4294967295) ∧ (0 ≤ shift) ∧ (shift ≤ 64) ∧ (∀ aq H', Same H H' → H aq = none → H' aq = some (.tup [.int (0), .int (factor), .int (factor), .int (width + shift)]) → Q (.ref aq) H')
def sp_Wide_numbers_in {K : PySem.W.Frag} {mg : Str → Option Value} (T : Tx K mg) : Sp := fun vs H Q E => ∃ (self : Addr) (width : Int) (early : Int) (factor : Int) (shift : Int) (dx_self : Addr), vs = [.ref self, .int width] ∧ (4 ≤ width) ∧ (width ≤ 32) ∧ H self = some (.ins (T.k_Wide.C) dx_self [(("early" : Str), V.int (early)), (("factor" : Str), V.int (factor)), (("shift" : Str), V.int (shift))]) ∧ (0 ≤ early) ∧ (early ≤ 64) ∧ (0 ≤ factor) ∧ (factor ≤ 4294967295) ∧ (0 ≤ shift) ∧ (shift ≤ 64) ∧ (∀ aq H', Same H H' → H aq = none → H' aq = some (.tup [.int (0), .int (2 ^ width.toNat + factor), .int (0), .int (width + shift)]) → Q (.ref aq) H')
def sp_twos_in {K : PySem.W.Frag} {mg : Str → Option Value} (T : Tx K mg) : Sp := fun vs H Q E => ∃ (d : Int), vs = [.int d] ∧ (1 ≤ d) ∧ (d < 2 ^ 70) ∧ (∀ (r : Int), (0 ≤ r) → (∀ k : Int, 0 ≤ k → d % 2 ^ k.toNat = 0 → k ≤ r) → Q (.int (r)) H)
def sp_numbers_for {K : PySem.W.Frag} {mg : Str → Option Value} (T : Tx K mg) : Sp := fun vs H Q E => ∃ (width : Int) (d : Int) (form : Addr) (fm : Ow.Tf_Form) (dx_form : Addr), vs = [.int width, .int d, .ref form] ∧ (4 ≤ width) ∧ (width ≤ 32) ∧ (1 ≤ d) ∧ (d < 2 ^ width.toNat) ∧ H form = some (.ins (Ow.cls_Form T (Ow.kn_Form fm)) dx_form (Ow.fl_Form fm)) ∧ (Ow.FOk fm) ∧ (d % 2 ^ (Ow.nE fm).toNat = 0) ∧ (∀ aq H', Same H H' → H aq = none → H' aq = some (.tup [.int (Ow.nE fm), .int (Ow.nF fm width), .int (Ow.nA fm), .int (Ow.nT fm width)]) → Q (.ref aq) H')
def sp_first_too_great {K : PySem.W.Frag} {mg : Str → Option Value} (T : Tx K mg) : Sp := fun vs H Q E => ∃ (d : Int) (f : Int) (ad : Int) (t : Int), vs = [.int d, .int f, .int ad, .int t] ∧ (1 ≤ d) ∧ (d < 2 ^ 70) ∧ (0 ≤ f) ∧ (f ≤ 2 ^ 70) ∧ (0 ≤ ad) ∧ (ad ≤ 2 ^ 70) ∧ (0 ≤ t) ∧ (t ≤ 130) ∧ ((∀ x, 0 ≤ x → ¬ Ow.TGa d f ad (2 ^ t.toNat) x) → ∀ H', Same H H' → Q (.non) H') ∧ (∀ (r : Int), (0 ≤ r) → (r < 2 ^ 150) → (Ow.TGa d f ad (2 ^ t.toNat) r) → (∀ x, 0 ≤ x → x < r → ¬ Ow.TGa d f ad (2 ^ t.toNat) x) → ∀ H', Same H H' → Q (.int (r)) H')
def sp_first_too_small {K : PySem.W.Frag} {mg : Str → Option Value} (T : Tx K mg) : Sp := fun vs H Q E => ∃ (d : Int) (f : Int) (ad : Int) (t : Int), vs = [.int d, .int f, .int ad, .int t] ∧ (1 ≤ d) ∧ (d < 2 ^ 70) ∧ (0 ≤ f) ∧ (f ≤ 2 ^ 70) ∧ (0 ≤ ad) ∧ (ad ≤ 2 ^ 70) ∧ (0 ≤ t) ∧ (t ≤ 130) ∧ ((∀ x, 0 ≤ x → ¬ Ow.TSa d f ad (2 ^ t.toNat) x) → ∀ H', Same H H' → Q (.non) H') ∧ (∀ (r : Int), (0 ≤ r) → (r < 2 ^ 150) → (Ow.TSa d f ad (2 ^ t.toNat) r) → (∀ x, 0 ≤ x → x < r → ¬ Ow.TSa d f ad (2 ^ t.toNat) x) → ∀ H', Same H H' → Q (.int (r)) H')
def sp_least_wrong {K : PySem.W.Frag} {mg : Str → Option Value} (T : Tx K mg) : Sp := fun vs H Q E => ∃ (last : Int) (d : Int) (reckoning : Addr) (e : Int) (f : Int) (ad : Int) (t : Int), vs = [.int last, .int d, .ref reckoning] ∧ (0 ≤ last) ∧ (last < 2 ^ 70) ∧ (1 ≤ d) ∧ (d < 2 ^ 70) ∧ H reckoning = some (.tup [.int (e), .int (f), .int (ad), .int (t)]) ∧ (0 ≤ e) ∧ (e ≤ 70) ∧ (0 ≤ f) ∧ (f ≤ 2 ^ 70) ∧ (0 ≤ ad) ∧ (ad ≤ 2 ^ 70) ∧ (0 ≤ t) ∧ (t ≤ 130) ∧ (d % 2 ^ e.toNat = 0) ∧ ((Ow.AllR last d e f ad t) → ∀ H', Same H H' → Q (.non) H') ∧ (∀ (r : Int), (Ow.LwR last d e f ad t r) → ∀ H', Same H H' → Q (.int (r)) H')
def sp_wrong_word {K : PySem.W.Frag} {mg : Str → Option Value} (T : Tx K mg) : Sp := fun vs H Q E => ∃ (width : Int) (d : Int) (form : Addr) (fm : Ow.Tf_Form) (dx_form : Addr), vs = [.int width, .int d, .ref form] ∧ (4 ≤ width) ∧ (width ≤ 32) ∧ (1 ≤ d) ∧ (d < 2 ^ width.toNat) ∧ H form = some (.ins (Ow.cls_Form T (Ow.kn_Form fm)) dx_form (Ow.fl_Form fm)) ∧ (Ow.FOk fm) ∧ (d % 2 ^ (Ow.nE fm).toNat = 0) ∧ ((Ow.Right fm width d) → ∀ H', Same H H' → Q (.non) H') ∧ (∀ (r : Int), (Ow.WrongF fm width d r) → ∀ H', Same H H' → Q (.int (r)) H')
def sp_l_whole {K : PySem.W.Frag} {mg : Str → Option Value} (T : Tx K mg) : Sp := fun vs H Q E => (∃ (thing : Int), vs = [.int thing] ∧ (Q (.bl (true)) H)) ∨ (vs = [.non] ∧ (Q (.bl (false)) H)) ∨ (∃ (thing : Bool), vs = [.bl thing] ∧ (Q (.bl (false)) H)) ∨ (∃ (thing : Str), vs = [.str thing] ∧ (Q (.bl (false)) H)) ∨ (∃ (thing : Addr) (vl : List L2.V), vs = [.ref thing] ∧ H thing = some (.lst vl) ∧ (Q (.bl (false)) H)) ∨ (∃ (thing : Addr) (vl : List L2.V), vs = [.ref thing] ∧ H thing = some (.tup vl) ∧ (Q (.bl (false)) H)) ∨ (∃ (thing : Addr), vs = [.ref thing] ∧ H thing = some (.dK []) ∧ (Q (.bl (false)) H))
def sp_l_things {K : PySem.W.Frag} {mg : Str → Option Value} (T : Tx K mg) : Sp := fun vs H Q E => (∃ (box : Addr) (width : Int) (d : Int) (a : Int) (c : Int), vs = [.ref box, .int width, .int d, .non] ∧ H box = some (.lst [.int (a), .int (c)]) ∧ (4 ≤ width) ∧ (width ≤ 32) ∧ (1 ≤ d) ∧ (d < 2 ^ width.toNat) ∧ (∀ (x1 : Int), ∀ (x2 : Int), ∀ (a2 : Int), ∀ (c2 : Int), (0 ≤ x1) → (x1 < 2 ^ 32) → (0 ≤ x2) → (x2 < 2 ^ 41) → ∀ (p l1 t0 d0 : Addr) H', Ow.Fm box H H' → H' box = some (.lst [.int (a2), .int (c2)]) → H p = none → H l1 = none → H t0 = none → H d0 = none → H' p = some (.lst [.non, .bl (true), .bl (false), .int (-1), .int (2 ^ width.toNat), .int (2 ^ width.toNat - 1), .int (0), .int (1), .int (d), .str ("1"), .ref l1, .ref t0, .ref d0, .int (x1), .int (x2)]) → H' l1 = some (.lst [.int (1)]) → H' t0 = some (.tup [.int (0)]) → H' d0 = some (.dK []) → p ≠ l1 → Q (.ref p) H')) ∨ (∃ (box : Addr) (width : Int) (d : Int) (word : Int) (a : Int) (c : Int), vs = [.ref box, .int width, .int d, .int word] ∧ H box = some (.lst [.int (a), .int (c)]) ∧ (4 ≤ width) ∧ (width ≤ 32) ∧ (1 ≤ d) ∧ (d < 2 ^ width.toNat) ∧ (0 ≤ word) ∧ (word < 2 ^ 32) ∧ (∀ (x1 : Int), ∀ (x2 : Int), ∀ (x3 : Int), ∀ (s1 : Str), ∀ (a2 : Int), ∀ (c2 : Int), (0 ≤ x1) → (x1 < 2 ^ 32) → (0 ≤ x2) → (x2 < 2 ^ 41) → (0 ≤ x3) → (x3 < 2 ^ 41) → ∀ (p l1 t0 d0 l2 : Addr) H', Ow.Fm box H H' → H' box = some (.lst [.int (a2), .int (c2)]) → H p = none → H l1 = none → H t0 = none → H d0 = none → H l2 = none → H' p = some (.lst [.non, .bl (true), .bl (false), .int (-1), .int (2 ^ width.toNat), .int (2 ^ width.toNat - 1), .int (0), .int (1), .int (d), .str ("1"), .ref l1, .ref t0, .ref d0, .int (x1), .int (x2), .int (word), .int (word - 1), .int (word + 1), .int (x3), .int (word + d), .str (s1), .ref l2]) → H' l1 = some (.lst [.int (1)]) → H' t0 = some (.tup [.int (0)]) → H' d0 = some (.dK []) → H' l2 = some (.lst [.int (word)]) → p ≠ l1 → p ≠ l2 → l1 ≠ l2 → Q (.ref p) H'))
def sp_l_corners {K : PySem.W.Frag} {mg : Str → Option Value} (T : Tx K mg) : Sp := fun vs H Q E => ∃ (last : Int) (d : Int), vs = [.int last, .int d] ∧ (0 ≤ last) ∧ (last < 2 ^ 140) ∧ (1 ≤ d) ∧ (d < 2 ^ 70) ∧ (∀ (ys : List Int), (Ow.Cors last d ys) → (ys.length ≤ 5) → ∀ aq H', Same H H' → H aq = none → H' aq = some (.lst (ys.map V.int)) → Q (.ref aq) H')
def sp_l_brought {K : PySem.W.Frag} {mg : Str → Option Value} (T : Tx K mg) : Sp := fun vs H Q E => ∃ (nums : Addr) (x : Int) (e : Int) (f : Int) (ad : Int) (t : Int), vs = [.ref nums, .int x] ∧ H nums = some (.tup [.int (e), .int (f), .int (ad), .int (t)]) ∧ (0 ≤ e) ∧ (e ≤ 70) ∧ (0 ≤ f) ∧ (f ≤ 2 ^ 70) ∧ (0 ≤ ad) ∧ (ad ≤ 2 ^ 70) ∧ (0 ≤ t) ∧ (t ≤ 130) ∧ (0 ≤ x) ∧ (x < 2 ^ 70) ∧ (Q (.int (Ow.brought e f ad t x)) H)
def sp_l_right_to {K : PySem.W.Frag} {mg : Str → Option Value} (T : Tx K mg) : Sp := fun vs H Q E => ∃ (last : Int) (d : Int) (nums : Addr) (e : Int) (f : Int) (ad : Int) (t : Int), vs = [.int last, .int d, .ref nums] ∧ (0 ≤ last) ∧ (last < 2 ^ 70) ∧ (1 ≤ d) ∧ (d < 2 ^ 70) ∧ H nums = some (.tup [.int (e), .int (f), .int (ad), .int (t)]) ∧ (0 ≤ e) ∧ (e ≤ 70) ∧ (0 ≤ f) ∧ (f ≤ 2 ^ 70) ∧ (0 ≤ ad) ∧ (ad ≤ 2 ^ 70) ∧ (0 ≤ t) ∧ (t ≤ 130) ∧ (d % 2 ^ e.toNat = 0) ∧ (∀ (b : Bool), (b = true ↔ Ow.AllR last d e f ad t) → ∀ H', Same H H' → Q (.bl (b)) H')
def sp_l_least {K : PySem.W.Frag} {mg : Str → Option Value} (T : Tx K mg) : Sp := fun vs H Q E => (∃ (last : Int) (d : Int) (nums : Addr) (e : Int) (f : Int) (ad : Int) (t : Int), vs = [.int last, .int d, .ref nums, .non] ∧ (0 ≤ last) ∧ (last < 2 ^ 70) ∧ (1 ≤ d) ∧ (d < 2 ^ 70) ∧ H nums = some (.tup [.int (e), .int (f), .int (ad), .int (t)]) ∧ (0 ≤ e) ∧ (e ≤ 70) ∧ (0 ≤ f) ∧ (f ≤ 2 ^ 70) ∧ (0 ≤ ad) ∧ (ad ≤ 2 ^ 70) ∧ (0 ≤ t) ∧ (t ≤ 130) ∧ (d % 2 ^ e.toNat = 0) ∧ (∀ (b : Bool), (b = true ↔ Ow.AllR last d e f ad t) → ∀ H', Same H H' → Q (.bl (b)) H')) ∨ (∃ (last : Int) (d : Int) (nums : Addr) (thing : Int) (e : Int) (f : Int) (ad : Int) (t : Int), vs = [.int last, .int d, .ref nums, .int thing] ∧ (0 ≤ last) ∧ (last < 2 ^ 70) ∧ (1 ≤ d) ∧ (d < 2 ^ 70) ∧ H nums = some (.tup [.int (e), .int (f), .int (ad), .int (t)]) ∧ (0 ≤ e) ∧ (e ≤ 70) ∧ (0 ≤ f) ∧ (f ≤ 2 ^ 70) ∧ (0 ≤ ad) ∧ (ad ≤ 2 ^ 70) ∧ (0 ≤ t) ∧ (t ≤ 130) ∧ (d % 2 ^ e.toNat = 0) ∧ (∀ (b : Bool), (b = true ↔ Ow.LwR last d e f ad t thing) → ∀ H', Same H H' → Q (.bl (b)) H')) ∨ (∃ (last : Int) (d : Int) (nums : Addr) (thing : Bool) (e : Int) (f : Int) (ad : Int) (t : Int), vs = [.int last, .int d, .ref nums, .bl thing] ∧ (0 ≤ last) ∧ (last < 2 ^ 70) ∧ (1 ≤ d) ∧ (d < 2 ^ 70) ∧ H nums = some (.tup [.int (e), .int (f), .int (ad), .int (t)]) ∧ (0 ≤ e) ∧ (e ≤ 70) ∧ (0 ≤ f) ∧ (f ≤ 2 ^ 70) ∧ (0 ≤ ad) ∧ (ad ≤ 2 ^ 70) ∧ (0 ≤ t) ∧ (t ≤ 130) ∧ (d % 2 ^ e.toNat = 0) ∧ (∀ H', Same H H' → Q (.bl (false)) H')) ∨ (∃ (last : Int) (d : Int) (nums : Addr) (thing : Str) (e : Int) (f : Int) (ad : Int) (t : Int), vs = [.int last, .int d, .ref nums, .str thing] ∧ (0 ≤ last) ∧ (last < 2 ^ 70) ∧ (1 ≤ d) ∧ (d < 2 ^ 70) ∧ H nums = some (.tup [.int (e), .int (f), .int (ad), .int (t)]) ∧ (0 ≤ e) ∧ (e ≤ 70) ∧ (0 ≤ f) ∧ (f ≤ 2 ^ 70) ∧ (0 ≤ ad) ∧ (ad ≤ 2 ^ 70) ∧ (0 ≤ t) ∧ (t ≤ 130) ∧ (d % 2 ^ e.toNat = 0) ∧ (∀ H', Same H H' → Q (.bl (false)) H')) ∨ (∃ (last : Int) (d : Int) (nums : Addr) (thing : Addr) (e : Int) (f : Int) (ad : Int) (t : Int) (vl : List L2.V), vs = [.int last, .int d, .ref nums, .ref thing] ∧ (0 ≤ last) ∧ (last < 2 ^ 70) ∧ (1 ≤ d) ∧ (d < 2 ^ 70) ∧ H nums = some (.tup [.int (e), .int (f), .int (ad), .int (t)]) ∧ (0 ≤ e) ∧ (e ≤ 70) ∧ (0 ≤ f) ∧ (f ≤ 2 ^ 70) ∧ (0 ≤ ad) ∧ (ad ≤ 2 ^ 70) ∧ (0 ≤ t) ∧ (t ≤ 130) ∧ (d % 2 ^ e.toNat = 0) ∧ H thing = some (.lst vl) ∧ (∀ H', Same H H' → Q (.bl (false)) H')) ∨ (∃ (last : Int) (d : Int) (nums : Addr) (thing : Addr) (e : Int) (f : Int) (ad : Int) (t : Int) (vl : List L2.V), vs = [.int last, .int d, .ref nums, .ref thing] ∧ (0 ≤ last) ∧ (last < 2 ^ 70) ∧ (1 ≤ d) ∧ (d < 2 ^ 70) ∧ H nums = some (.tup [.int (e), .int (f), .int (ad), .int (t)]) ∧ (0 ≤ e) ∧ (e ≤ 70) ∧ (0 ≤ f) ∧ (f ≤ 2 ^ 70) ∧ (0 ≤ ad) ∧ (ad ≤ 2 ^ 70) ∧ (0 ≤ t) ∧ (t ≤ 130) ∧ (d % 2 ^ e.toNat = 0) ∧ H thing = some (.tup vl) ∧ (∀ H', Same H H' → Q (.bl (false)) H')) ∨ (∃ (last : Int) (d : Int) (nums : Addr) (thing : Addr) (e : Int) (f : Int) (ad : Int) (t : Int), vs = [.int last, .int d, .ref nums, .ref thing] ∧ (0 ≤ last) ∧ (last < 2 ^ 70) ∧ (1 ≤ d) ∧ (d < 2 ^ 70) ∧ H nums = some (.tup [.int (e), .int (f), .int (ad), .int (t)]) ∧ (0 ≤ e) ∧ (e ≤ 70) ∧ (0 ≤ f) ∧ (f ≤ 2 ^ 70) ∧ (0 ≤ ad) ∧ (ad ≤ 2 ^ 70) ∧ (0 ≤ t) ∧ (t ≤ 130) ∧ (d % 2 ^ e.toNat = 0) ∧ H thing = some (.dK []) ∧ (∀ H', Same H H' → Q (.bl (false)) H'))
def sp_corners_to {K : PySem.W.Frag} {mg : Str → Option Value} (T : Tx K mg) : Sp := fun vs H Q E => ∃ (last : Int) (d : Int), vs = [.int last, .int d] ∧ (0 ≤ last) ∧ (last < 2 ^ 140) ∧ (1 ≤ d) ∧ (d < 2 ^ 70) ∧ (∀ (ys : List Int), (Ow.Cors last d ys) → (ys.length ≤ 5) → ∀ aq H', Same H H' → H aq = none → H' aq = some (.lst (ys.map V.int)) → Q (.ref aq) H')
def sp_brought {K : PySem.W.Frag} {mg : Str → Option Value} (T : Tx K mg) : Sp := fun vs H Q E => ∃ (reckoning : Addr) (x : Int) (e : Int) (f : Int) (ad : Int) (t : Int), vs = [.ref reckoning, .int x] ∧ H reckoning = some (.tup [.int (e), .int (f), .int (ad), .int (t)]) ∧ (0 ≤ e) ∧ (e ≤ 70) ∧ (0 ≤ f) ∧ (f ≤ 2 ^ 70) ∧ (0 ≤ ad) ∧ (ad ≤ 2 ^ 70) ∧ (0 ≤ t) ∧ (t ≤ 130) ∧ (0 ≤ x) ∧ (x < 2 ^ 70) ∧ (Q (.int (Ow.brought e f ad t x)) H)
def sp_holds_to {K : PySem.W.Frag} {mg : Str → Option Value} (T : Tx K mg) : Sp := fun vs H Q E => ∃ (last : Int) (d : Int) (reckoning : Addr) (e : Int) (f : Int) (ad : Int) (t : Int), vs = [.int last, .int d, .ref reckoning] ∧ (0 ≤ last) ∧ (last < 2 ^ 70) ∧ (1 ≤ d) ∧ (d < 2 ^ 70) ∧ H reckoning = some (.tup [.int (e), .int (f), .int (ad), .int (t)]) ∧ (0 ≤ e) ∧ (e ≤ 70) ∧ (0 ≤ f) ∧ (f ≤ 2 ^ 70) ∧ (0 ≤ ad) ∧ (ad ≤ 2 ^ 70) ∧ (0 ≤ t) ∧ (t ≤ 130) ∧ (d % 2 ^ e.toNat = 0) ∧ (∀ (b : Bool), (b = true ↔ Ow.AllR last d e f ad t) → ∀ H', Same H H' → Q (.bl (b)) H')
def sp_is_wrong_word {K : PySem.W.Frag} {mg : Str → Option Value} (T : Tx K mg) : Sp := fun vs H Q E => (∃ (width : Int) (d : Int) (form : Addr) (fm : Ow.Tf_Form) (dx_form : Addr), vs = [.int width, .int d, .ref form, .non] ∧ (4 ≤ width) ∧ (width ≤ 32) ∧ (1 ≤ d) ∧ (d < 2 ^ width.toNat) ∧ H form = some (.ins (Ow.cls_Form T (Ow.kn_Form fm)) dx_form (Ow.fl_Form fm)) ∧ (Ow.FOk fm) ∧ (d % 2 ^ (Ow.nE fm).toNat = 0) ∧ (∀ (b : Bool), (b = true ↔ Ow.Right fm width d) → ∀ H', Same H H' → Q (.bl (b)) H')) ∨ (∃ (width : Int) (d : Int) (form : Addr) (thing : Int) (fm : Ow.Tf_Form) (dx_form : Addr), vs = [.int width, .int d, .ref form, .int thing] ∧ (4 ≤ width) ∧ (width ≤ 32) ∧ (1 ≤ d) ∧ (d < 2 ^ width.toNat) ∧ H form = some (.ins (Ow.cls_Form T (Ow.kn_Form fm)) dx_form (Ow.fl_Form fm)) ∧ (Ow.FOk fm) ∧ (d % 2 ^ (Ow.nE fm).toNat = 0) ∧ (∀ (b : Bool), (b = true ↔ Ow.WrongF fm width d thing) → ∀ H', Same H H' → Q (.bl (b)) H')) ∨ (∃ (width : Int) (d : Int) (form : Addr) (thing : Bool) (fm : Ow.Tf_Form) (dx_form : Addr), vs = [.int width, .int d, .ref form, .bl thing] ∧ (4 ≤ width) ∧ (width ≤ 32) ∧ (1 ≤ d) ∧ (d < 2 ^ width.toNat) ∧ H form = some (.ins (Ow.cls_Form T (Ow.kn_Form fm)) dx_form (Ow.fl_Form fm)) ∧ (Ow.FOk fm) ∧ (d % 2 ^ (Ow.nE fm).toNat = 0) ∧ (∀ H', Same H H' → Q (.bl (false)) H')) ∨ (∃ (width : Int) (d : Int) (form : Addr) (thing : Str) (fm : Ow.Tf_Form) (dx_form : Addr), vs = [.int width, .int d, .ref form, .str thing] ∧ (4 ≤ width) ∧ (width ≤ 32) ∧ (1 ≤ d) ∧ (d < 2 ^ width.toNat) ∧ H form = some (.ins (Ow.cls_Form T (Ow.kn_Form fm)) dx_form (Ow.fl_Form fm)) ∧ (Ow.FOk fm) ∧ (d % 2 ^ (Ow.nE fm).toNat = 0) ∧ (∀ H', Same H H' → Q (.bl (false)) H')) ∨ (∃ (width : Int) (d : Int) (form : Addr) (thing : Addr) (fm : Ow.Tf_Form) (vl : List L2.V) (dx_form : Addr), vs = [.int width, .int d, .ref form, .ref thing] ∧ (4 ≤ width) ∧ (width ≤ 32) ∧ (1 ≤ d) ∧ (d < 2 ^ width.toNat) ∧ H form = some (.ins (Ow.cls_Form T (Ow.kn_Form fm)) dx_form (Ow.fl_Form fm)) ∧ (Ow.FOk fm) ∧ (d % 2 ^ (Ow.nE fm).toNat = 0) ∧ H thing = some (.lst vl) ∧ (∀ H', Same H H' → Q (.bl (false)) H')) ∨ (∃ (width : Int) (d : Int) (form : Addr) (thing : Addr) (fm : Ow.Tf_Form) (vl : List L2.V) (dx_form : Addr), vs = [.int width, .int d, .ref form, .ref thing] ∧ (4 ≤ width) ∧ (width ≤ 32) ∧ (1 ≤ d) ∧ (d < 2 ^ width.toNat) ∧ H form = some (.ins (Ow.cls_Form T (Ow.kn_Form fm)) dx_form (Ow.fl_Form fm)) ∧ (Ow.FOk fm) ∧ (d % 2 ^ (Ow.nE fm).toNat = 0) ∧ H thing = some (.tup vl) ∧ (∀ H', Same H H' → Q (.bl (false)) H')) ∨ (∃ (width : Int) (d : Int) (form : Addr) (thing : Addr) (fm : Ow.Tf_Form) (dx_form : Addr), vs = [.int width, .int d, .ref form, .ref thing] ∧ (4 ≤ width) ∧ (width ≤ 32) ∧ (1 ≤ d) ∧ (d < 2 ^ width.toNat) ∧ H form = some (.ins (Ow.cls_Form T (Ow.kn_Form fm)) dx_form (Ow.fl_Form fm)) ∧ (Ow.FOk fm) ∧ (d % 2 ^ (Ow.nE fm).toNat = 0) ∧ H thing = some (.dK []) ∧ (∀ H', Same H H' → Q (.bl (false)) H'))
def sp_l_first {K : PySem.W.Frag} {mg : Str → Option Value} (T : Tx K mg) : Sp := fun vs H Q E => ∃ (width : Int) (d : Int) (nums : Addr) (e : Int) (f : Int) (ad : Int) (t : Int), vs = [.int width, .int d, .ref nums] ∧ (4 ≤ width) ∧ (width ≤ 32) ∧ (1 ≤ d) ∧ (d < 2 ^ width.toNat) ∧ H nums = some (.tup [.int (e), .int (f), .int (ad), .int (t)]) ∧ (0 ≤ e) ∧ (e ≤ 70) ∧ (0 ≤ f) ∧ (f ≤ 2 ^ 70) ∧ (0 ≤ ad) ∧ (ad ≤ 2 ^ 70) ∧ (0 ≤ t) ∧ (t ≤ 130) ∧ (d % 2 ^ e.toNat = 0) ∧ ((Ow.AllR (2 ^ width.toNat - 1) d e f ad t) → ∀ H', Same H H' → Q (.non) H') ∧ (∀ (r : Int), (Ow.LwR (2 ^ width.toNat - 1) d e f ad t r) → ∀ H', Same H H' → Q (.int (r)) H')
def sp_l_case {K : PySem.W.Frag} {mg : Str → Option Value} (T : Tx K mg) : Sp := fun vs H Q E => ∃ (box : Addr) (a : Int) (c : Int), vs = [.ref box] ∧ H box = some (.lst [.int (a), .int (c)]) ∧ (∀ (a2 : Int), ∀ (c2 : Int), ∀ H', Ow.Fm box H H' → H' box = some (.lst [.int (a2), .int (c2)]) → Q (.bl (true)) H')
def sp_l_start {K : PySem.W.Frag} {mg : Str → Option Value} (T : Tx K mg) : Sp := fun vs H Q E => ∃ (script : Addr) (k : Int) (ns : List Int), vs = [.ref script, .int k] ∧ SqL K H script (ns.map V.int) ∧ (0 ≤ k) ∧ (∀ (a : Int), ∀ (c : Int), ∀ aq H', Same H H' → H aq = none → H' aq = some (.lst [.int (a), .int (c)]) → Q (.ref aq) H')
def sp_law (K : PySem.W.Frag) : Sp := fun vs H Q E => ∃ (script : Addr) (ns : List Int), vs = [.ref script] ∧ SqL K H script (ns.map V.int) ∧ (ns.length ≤ 63) ∧ (∀ H', Same H H' → Q (.bl (true)) H')
section
variable {P : Program} {w : World} {K : PySem.W.Frag} {mg : Str → Option Value} {base : Heap}
theorem ok_l_draw (T : Tx K mg) : FnOk P w K mg base CX0 1 T.d_l_draw.f T.d_l_draw.fd ["_law_state", "_law_size"] (sp_l_draw T) := by
  refine T.d_l_draw.F.ok sc_l_draw (fun vs H Q E h => ?_) (fun cdv A outer s H vs Q E hr h => ?_)
  · obtain ⟨box, size, a, c, rfl, _⟩ := h
    rfl
  · obtain ⟨box, size, a, c, rfl, c0, c1, c2, kont⟩ := h
    refine ⟨_, (pss_cons (ps_if (pt_cmpR op_gt (pe_ix ix_list (pv 0) pe_int (fun _ _ => rfl)) pe_int (nomark _)) (pss_cons (ps_set (i := 2) sc_l_draw.nd rfl (Or.inl rfl) (pe_op Ow.op_modN (pe_ix ix_list (pv 0) pe_int (fun _ _ => rfl)) (pv 1)))
        (pss_cons (ps_asg (pe_op Ow.op_divN (pe_ix ix_list (pv 0) pe_int (fun _ _ => rfl)) (pv 1)) (pg_sub (pv 0) pe_int set_list))
        (pss_one (ps_ret (pv 2))))) pss_nil)
        (pss_cons (ps_asg (pe_op Ow.op_modN (pe_op Ow.op_mulN (pe_ix ix_list (pv 0) pe_int (fun _ _ => rfl)) pe_int) pe_int) (pg_sub (pv 0) pe_int set_list))
        (pss_cons (ps_set (i := 3) sc_l_draw.nd rfl (Or.inl rfl) (pe_op Ow.op_modN (pe_op Ow.op_mulN (pe_op op_add (pe_ix ix_list (pv 0) pe_int (fun _ _ => rfl)) (pe_op Ow.op_mulN pe_int (pe_op Ow.op_divN (pe_ix ix_list (pv 0) pe_int (fun _ _ => rfl)) pe_int))) pe_int) pe_int))
        (pss_cons (ps_set (i := 4) sc_l_draw.nd rfl (Or.inl rfl) (pe_op Ow.op_modN (pe_op op_add (pe_op Ow.op_mulN (pv 3) pe_int) (pe_op Ow.op_divN (pe_ix ix_list (pv 0) pe_int (fun _ _ => rfl)) pe_int)) pe_int))
        (pss_one (ps_ret (pe_op Ow.op_modN (pe_op op_add (pe_op Ow.op_mulN (pv 3) pe_int) (pv 4)) (pv 1)))))))), ?_⟩
    refine ⟨_, rfl, ?_⟩
    refine ⟨_, _, _, _, rfl, rfl, (SqL.of c0), (by first | rfl | decide), ?_⟩
    refine ⟨_, _, rfl, rfl, ?_⟩
    refine ⟨_, rfl, ?_⟩
    refine Ow.ifd (fun h1 => ?_) (fun h1 => ?_)
    · refine ⟨_, rfl, ?_⟩
      refine ⟨_, _, _, _, rfl, rfl, (SqL.of c0), (by first | rfl | decide), ?_⟩
      refine ⟨_, rfl, ?_⟩
      refine ⟨_, _, rfl, rfl, (by first | (walk_at "o2")), fun l_number h_l_number h0_l_number h1_l_number => ?_⟩
      refine ⟨_, rfl, ?_⟩
      refine ⟨_, _, _, _, rfl, rfl, (SqL.of c0), (by first | rfl | decide), ?_⟩
      refine ⟨_, rfl, ?_⟩
      refine ⟨_, _, rfl, rfl, (by first | (walk_at "o2")), fun q h_q => ?_⟩
      refine ⟨_, rfl, ?_⟩
      refine ⟨_, _, _, 0, rfl, rfl, c0, rfl, ?_⟩
      refine ⟨_, rfl, ?_⟩
      exact kont l_number q c (by first | (walk_at "o2")) (by first | (walk_at "o2"))
    · refine ⟨_, rfl, ?_⟩
      refine ⟨_, _, _, _, rfl, rfl, (SqL.of c0), (by first | rfl | decide), ?_⟩
      refine ⟨_, _, rfl, rfl, (by first | (walk_at "o2")), fun m h_m => ?_⟩
      refine ⟨_, _, rfl, rfl, (by first | (walk_at "o2")), fun r h_r h0_r h1_r => ?_⟩
      refine ⟨_, rfl, ?_⟩
      refine ⟨_, _, _, 1, rfl, rfl, c0, rfl, ?_⟩
      refine ⟨_, rfl, ?_⟩
      refine ⟨_, _, _, _, rfl, rfl, (SqL.of upd_same), (by first | rfl | decide), ?_⟩
      refine ⟨_, rfl, ?_⟩
      refine ⟨_, _, _, _, rfl, rfl, (SqL.of upd_same), (by first | rfl | decide), ?_⟩
      refine ⟨_, _, rfl, rfl, (by first | (walk_at "o2")), fun q_2 h_q_2 => ?_⟩
      refine ⟨_, _, rfl, rfl, (by first | (walk_at "o2")), fun m_2 h_m_2 => ?_⟩
      refine ⟨_, _, rfl, rfl, ?_⟩
      refine ⟨_, _, rfl, rfl, (by first | (walk_at "o2")), fun m_3 h_m_3 => ?_⟩
      refine ⟨_, _, rfl, rfl, (by first | (walk_at "o2")), fun l_one h_l_one h0_l_one h1_l_one => ?_⟩
      refine ⟨_, rfl, ?_⟩
      refine ⟨_, _, rfl, rfl, (by first | (walk_at "o2")), fun m_4 h_m_4 => ?_⟩
      refine ⟨_, rfl, ?_⟩
      refine ⟨_, _, _, _, rfl, rfl, (SqL.of upd_same), (by first | rfl | decide), ?_⟩
      refine ⟨_, _, rfl, rfl, (by first | (walk_at "o2")), fun q_3 h_q_3 => ?_⟩
      refine ⟨_, _, rfl, rfl, ?_⟩
      refine ⟨_, _, rfl, rfl, (by first | (walk_at "o2")), fun l_two h_l_two h0_l_two h1_l_two => ?_⟩
      refine ⟨_, rfl, ?_⟩
      refine ⟨_, _, rfl, rfl, (by first | (walk_at "o2")), fun m_5 h_m_5 => ?_⟩
      refine ⟨_, rfl, ?_⟩
      refine ⟨_, _, rfl, rfl, ?_⟩
      refine ⟨_, rfl, ?_⟩
      refine ⟨_, _, rfl, rfl, (by first | (walk_at "o2")), fun r_2 h_r_2 h0_r_2 h1_r_2 => ?_⟩
      exact kont r_2 a r (by first | (walk_at "o2")) (by first | (walk_at "o2"))
theorem ok_l_divisor (T : Tx K mg) : FnOk P w K mg base CX0 2 T.d_l_divisor.f T.d_l_divisor.fd ["_law_state", "_law_width"] (sp_l_divisor T) := by
  refine T.d_l_divisor.F.ok sc_l_divisor (fun vs H Q E h => ?_) (fun cdv A outer s H vs Q E hr h => ?_)
  · obtain ⟨box, width, a, c, rfl, _⟩ := h
    rfl
  · obtain ⟨box, width, a, c, rfl, c0, c1, c2, kont⟩ := h
    have p32_width := Ow.pow2_le32 (w := width) (by omega)
    have p0_width := Ow.p2 width.toNat
    have e2 := Ow.pow2_pred (w := width) (by omega)
    have e3 := Ow.p2 (width - 1).toNat
    have e5 := Ow.pow2_mono (a := 4) (b := width.toNat) (by omega)
    refine ⟨_, (pss_cons (ps_set (i := 2) sc_l_divisor.nd rfl (Or.inl rfl) (Ow.pe_nmi (pe_op op_sub (pe_op Ow.op_shl1 pe_int (pv 1)) pe_int)))
        (pss_cons (ps_set (i := 3) sc_l_divisor.nd rfl (Or.inl rfl) (pe_call (Ow.ok_l_draw T) (hr.mono (by decide : 1 ≤ 1)) (by rfl) T.d_l_draw.m T.d_l_draw.F.kp T.d_l_draw.b .nil pass0 (pa_cons (pv 0) (pa_cons pe_int pa_nil))))
        (pss_cons (ps_if (pt_cmpR op_eq (pv 3) pe_int (nomark _)) (pss_one (ps_ret (pe_op Ow.op_shl1 pe_int (pe_call (Ow.ok_l_draw T) (hr.mono (by decide : 1 ≤ 1)) (by rfl) T.d_l_draw.m T.d_l_draw.F.kp T.d_l_draw.b .nil pass0 (pa_cons (pv 0) (pa_cons (pv 1) pa_nil)))))) pss_nil)
        (pss_cons (ps_if (pt_cmpR op_eq (pv 3) pe_int (nomark _)) (pss_one (ps_ret (pe_op op_sub (pv 2) (pe_call (Ow.ok_l_draw T) (hr.mono (by decide : 1 ≤ 1)) (by rfl) T.d_l_draw.m T.d_l_draw.F.kp T.d_l_draw.b .nil pass0 (pa_cons (pv 0) (pa_cons pe_int pa_nil)))))) pss_nil)
        (pss_cons (ps_if (pt_cmpR op_eq (pv 3) pe_int (nomark _)) (pss_one (ps_ret (pe_op op_add pe_int (pe_call (Ow.ok_l_draw T) (hr.mono (by decide : 1 ≤ 1)) (by rfl) T.d_l_draw.m T.d_l_draw.F.kp T.d_l_draw.b .nil pass0 (pa_cons (pv 0) (pa_cons pe_int pa_nil)))))) pss_nil)
        (pss_cons (ps_if (pt_cmpR op_eq (pv 3) pe_int (nomark _)) (pss_cons (ps_set (i := 4) sc_l_divisor.nd rfl (Or.inl rfl) (pe_op Ow.op_divN (pv 1) pe_int))
        (pss_one (ps_ret (pe_op Ow.op_shlN (pe_op op_add pe_int (pe_call (Ow.ok_l_draw T) (hr.mono (by decide : 1 ≤ 1)) (by rfl) T.d_l_draw.m T.d_l_draw.F.kp T.d_l_draw.b .nil pass0 (pa_cons (pv 0) (pa_cons (pe_op Ow.op_shl1 pe_int (pe_op op_sub (pv 1) (pv 4))) pa_nil)))) (pe_call (Ow.ok_l_draw T) (hr.mono (by decide : 1 ≤ 1)) (by rfl) T.d_l_draw.m T.d_l_draw.F.kp T.d_l_draw.b .nil pass0 (pa_cons (pv 0) (pa_cons (pv 4) pa_nil))))))) pss_nil)
        (pss_one (ps_ret (pe_op op_add pe_int (pe_call (Ow.ok_l_draw T) (hr.mono (by decide : 1 ≤ 1)) (by rfl) T.d_l_draw.m T.d_l_draw.F.kp T.d_l_draw.b .nil pass0 (pa_cons (pv 0) (pa_cons (pv 2) pa_nil)))))))))))), ?_⟩
    refine ⟨_, rfl, ?_⟩
    refine ⟨_, rfl, rfl, (by first | (walk_at "o2")), fun B h_B h0_B => ?_⟩
    refine ⟨_, _, rfl, rfl, ?_⟩
    refine ⟨_, rfl, fun l_last h_l_last => ?_⟩
    refine ⟨_, rfl, ?_⟩
    refine ⟨_, _, _, _, rfl, c0, (by first | (walk_at "o2")), (by first | (walk_at "o2")), fun l_kind a2 c2 h1 h2 => ?_⟩
    refine ⟨_, rfl, ?_⟩
    refine ⟨rfl, ?_⟩
    refine ⟨_, rfl, ?_⟩
    refine Ow.ifeqi (fun h3 => ?_) (fun h3 => ?_)
    · refine ⟨_, rfl, ?_⟩
      refine ⟨_, rfl, ?_⟩
      refine ⟨_, _, _, _, rfl, upd_same, (by first | (walk_at "o2")), (by first | (walk_at "o2")), fun t a2_2 c2_2 h4 h5 => ?_⟩
      refine ⟨_, rfl, rfl, (by first | (walk_at "o2")), fun B_2 h_B_2 h0_B_2 => ?_⟩
      try have e4 := Ow.pow2_lt (a := t) (b := width) (by omega) (by omega)
      try have e7 := Ow.shl_lt (a := 1 + t_4) (k := t_5) (w := width) (h := l_half) (by omega) (by subst_vars; omega) (by omega) (by omega) (by omega)
      rw [upd_upd]
      exact kont B_2 a2_2 c2_2 (by first | (walk_at "o2")) (by first | (walk_at "o2"))
    · refine ⟨_, rfl, ?_⟩
      refine ⟨rfl, ?_⟩
      refine ⟨_, rfl, ?_⟩
      refine Ow.ifeqi (fun h6 => ?_) (fun h6 => ?_)
      · refine ⟨_, rfl, ?_⟩
        refine ⟨_, rfl, ?_⟩
        refine ⟨_, _, _, _, rfl, upd_same, (by first | (walk_at "o2")), (by first | (walk_at "o2")), fun t_2 a2_3 c2_3 h7 h8 => ?_⟩
        refine ⟨_, _, rfl, rfl, ?_⟩
        try have e4 := Ow.pow2_lt (a := t) (b := width) (by omega) (by omega)
        try have e7 := Ow.shl_lt (a := 1 + t_4) (k := t_5) (w := width) (h := l_half) (by omega) (by subst_vars; omega) (by omega) (by omega) (by omega)
        rw [upd_upd]
        exact kont (l_last - t_2) a2_3 c2_3 (by first | (walk_at "o2")) (by first | (walk_at "o2"))
      · refine ⟨_, rfl, ?_⟩
        refine ⟨rfl, ?_⟩
        refine ⟨_, rfl, ?_⟩
        refine Ow.ifeqi (fun h9 => ?_) (fun h9 => ?_)
        · refine ⟨_, rfl, ?_⟩
          refine ⟨_, _, _, _, rfl, upd_same, (by first | (walk_at "o2")), (by first | (walk_at "o2")), fun t_3 a2_4 c2_4 h10 h11 => ?_⟩
          refine ⟨_, _, rfl, rfl, ?_⟩
          try have e4 := Ow.pow2_lt (a := t) (b := width) (by omega) (by omega)
          try have e7 := Ow.shl_lt (a := 1 + t_4) (k := t_5) (w := width) (h := l_half) (by omega) (by subst_vars; omega) (by omega) (by omega) (by omega)
          rw [upd_upd]
          exact kont (1 + t_3) a2_4 c2_4 (by first | (walk_at "o2")) (by first | (walk_at "o2"))
        · refine ⟨_, rfl, ?_⟩
          refine ⟨rfl, ?_⟩
          refine ⟨_, rfl, ?_⟩
          refine Ow.ifeqi (fun h12 => ?_) (fun h12 => ?_)
          · refine ⟨_, rfl, ?_⟩
            refine ⟨_, _, rfl, rfl, (by first | (walk_at "o2")), fun l_half h_l_half => ?_⟩
            have e6 := Ow.pow2_le32 (w := width - l_half) (by omega)
            refine ⟨_, rfl, ?_⟩
            refine ⟨_, rfl, ?_⟩
            refine ⟨_, rfl, ?_⟩
            refine ⟨_, _, rfl, rfl, ?_⟩
            refine ⟨_, rfl, rfl, (by first | (walk_at "o2")), fun B_3 h_B_3 h0_B_3 => ?_⟩
            refine ⟨_, _, _, _, rfl, upd_same, (by first | (walk_at "o2")), (by first | (walk_at "o2")), fun t_4 a2_5 c2_5 h13 h14 => ?_⟩
            refine ⟨_, _, rfl, rfl, ?_⟩
            refine ⟨_, rfl, ?_⟩
            refine ⟨_, rfl, ?_⟩
            refine ⟨_, _, _, _, rfl, upd_same, (by first | (walk_at "o2")), (by first | (walk_at "o2")), fun t_5 a2_6 c2_6 h15 h16 => ?_⟩
            refine ⟨_, _, rfl, rfl, (by first | (walk_at "o2")), fun s h_s => ?_⟩
            try have e4 := Ow.pow2_lt (a := t) (b := width) (by omega) (by omega)
            try have e7 := Ow.shl_lt (a := 1 + t_4) (k := t_5) (w := width) (h := l_half) (by omega) (by subst_vars; omega) (by omega) (by omega) (by omega)
            rw [upd_upd, upd_upd]
            exact kont s a2_6 c2_6 (by first | (walk_at "o2")) (by first | (walk_at "o2"))
          · refine ⟨_, rfl, ?_⟩
            refine ⟨_, rfl, ?_⟩
            refine ⟨_, _, _, _, rfl, upd_same, (by first | (walk_at "o2")), (by first | (walk_at "o2")), fun t_6 a2_7 c2_7 h17 h18 => ?_⟩
            refine ⟨_, _, rfl, rfl, ?_⟩
            try have e4 := Ow.pow2_lt (a := t) (b := width) (by omega) (by omega)
            try have e7 := Ow.shl_lt (a := 1 + t_4) (k := t_5) (w := width) (h := l_half) (by omega) (by subst_vars; omega) (by omega) (by omega) (by omega)
            rw [upd_upd]
            exact kont (1 + t_6) a2_7 c2_7 (by first | (walk_at "o2")) (by first | (walk_at "o2"))
theorem ok_l_twos (T : Tx K mg) : FnOk P w K mg base CX0 1 T.d_l_twos.f T.d_l_twos.fd ["_law_d"] (sp_l_twos T) := by
  refine T.d_l_twos.F.ok sc_l_twos (fun vs H Q E h => ?_) (fun cdv A outer s H vs Q E hr h => ?_)
  · obtain ⟨d, rfl, _⟩ := h
    rfl
  · obtain ⟨d, rfl, c0, c1, kont⟩ := h
    refine ⟨_, (pss_cons (ps_set (i := 1) sc_l_twos.nd rfl (Or.inl rfl) pe_int)
        (pss_cons (ps_while PassesOwn.never (pt_cmpR op_eq (pe_op Ow.op_modN (pv 0) pe_int) pe_int (nomark _)) (pss_cons (ps_set (i := 0) sc_l_twos.nd rfl (Or.inl rfl) (pe_op Ow.op_divN (pv 0) pe_int))
        (pss_one (ps_set (i := 1) sc_l_twos.nd rfl (Or.inl rfl) (Ow.pe_nmi (pe_op op_add (pv 1) pe_int))))))
        (pss_one (ps_ret (pv 1))))), ?_⟩
    obtain ⟨Wi, h1⟩ : ∃ W : Hp → Nat → L2.St → Hp → Prop, W = fun H0 m σ2 H2 => ∃ (e : Int) (t : Int), m = e.toNat ∧ σ2 = [some (.int (e)), some (.int (t))] ∧ H2 = H0 ∧ (0 ≤ t) ∧ (1 ≤ e) ∧ (d = e * 2 ^ t.toNat) ∧ True := ⟨_, rfl⟩
    refine ⟨Wi _, ⟨_, by rw [h1]; exact ⟨_, _, rfl, rfl, rfl, (by first | omega | (show d = d * 1; omega)), (by first | omega | (show d = d * 1; omega)), (by first | omega | (show d = d * 1; omega)), trivial⟩⟩, ?_⟩
    intro m σ2 Hn h3
    rw [h1] at h3
    obtain ⟨e, t, rfl, rfl, rfl, h4, h5, h6, _⟩ := h3
    refine ⟨_, rfl, ?_⟩
    refine ⟨_, _, rfl, rfl, (by first | (walk_at "o2")), fun r h_r h0_r h1_r => ?_⟩
    refine ⟨rfl, ?_⟩
    refine ⟨_, rfl, ?_⟩
    refine Ow.ifeqi (fun h7 => ?_) (fun h7 => ?_)
    · refine ⟨fun σ3 H3 => ∃ m2, m2 < e.toNat ∧ Wi _ m2 σ3 H3, fun _ _ z => z, ?_⟩
      refine ⟨_, rfl, ?_⟩
      refine ⟨_, _, rfl, rfl, (by first | (walk_at "o2")), fun l_d h_l_d => ?_⟩
      refine ⟨_, rfl, ?_⟩
      refine ⟨_, _, rfl, rfl, ?_⟩
      refine ⟨_, rfl, fun l_twos_here h_l_twos_here => ?_⟩
      refine ⟨_, ?_, by rw [h1]; exact ⟨l_d, l_twos_here, rfl, rfl, rfl, (by first | omega | (rw [h_l_twos_here]; exact Ow.twos_halve (by assumption) (by assumption) (by omega) (by assumption))), (by first | omega | (rw [h_l_twos_here]; exact Ow.twos_halve (by assumption) (by assumption) (by omega) (by assumption))), (by first | omega | (rw [h_l_twos_here]; exact Ow.twos_halve (by assumption) (by assumption) (by omega) (by assumption))), trivial⟩⟩
      first | (walk_at "o2")
    · refine ⟨_, rfl, ?_⟩
      have g1 := Ow.twos_end (by assumption : d = e * 2 ^ t.toNat) (by omega)
      have g2 := Ow.twos_lt (w := 70) (t := t) (by omega) c0 c1 g1.1
      exact kont t (by first | assumption | omega | exact g1.1) (by first | assumption | omega | exact g1.1) (by first | assumption | omega | exact g1.1) _ (Same.refl _)
theorem ok_l_near (T : Tx K mg) : FnOk P w K mg base CX0 2 T.d_l_near.f T.d_l_near.fd ["_law_state", "_law_width", "_law_d"] (sp_l_near T) := by
  refine T.d_l_near.F.ok sc_l_near (fun vs H Q E h => ?_) (fun cdv A outer s H vs Q E hr h => ?_)
  · obtain ⟨box, width, d, a, c, rfl, _⟩ := h
    rfl
  · obtain ⟨box, width, d, a, c, rfl, c0, c1, c2, c3, c4, kont⟩ := h
    have p32_width := Ow.pow2_le32 (w := width) (by omega)
    have p0_width := Ow.p2 width.toNat
    refine ⟨_, (pss_cons (ps_set (i := 3) sc_l_near.nd rfl (Or.inl rfl) (pe_call (Ow.ok_l_draw T) (hr.mono (by decide : 1 ≤ 1)) (by rfl) T.d_l_draw.m T.d_l_draw.F.kp T.d_l_draw.b .nil pass0 (pa_cons (pv 0) (pa_cons pe_int pa_nil))))
        (pss_cons (ps_set (i := 4) sc_l_near.nd rfl (Or.inl rfl) (pe_call (Ow.ok_l_draw T) (hr.mono (by decide : 1 ≤ 1)) (by rfl) T.d_l_draw.m T.d_l_draw.F.kp T.d_l_draw.b .nil pass0 (pa_cons (pv 0) (pa_cons (pe_op op_add (pe_bits (pe_op op_sub (pv 2) pe_int)) pe_int) pa_nil))))
        (pss_cons (ps_set (i := 5) sc_l_near.nd rfl (Or.inl rfl) pe_int)
        (pss_cons (ps_if (pt_cmpR op_eq (pv 3) pe_int (nomark _)) (pss_one (ps_ret (pe_tup (pa_cons pe_str (pa_cons (Ow.pe_nmi (pe_callB (call_max2 rfl) (by rfl) T.z_max (by decide +kernel) (pa_cons pe_int (pa_cons (pe_op op_add (pe_op op_sub (pe_bits (pv 2)) pe_int) (pe_call (Ow.ok_l_draw T) (hr.mono (by decide : 1 ≤ 1)) (by rfl) T.d_l_draw.m T.d_l_draw.F.kp T.d_l_draw.b .nil pass0 (pa_cons (pv 0) (pa_cons pe_int pa_nil)))) pa_nil)))) pa_nil))))) pss_nil)
        (pss_cons (ps_if (pt_cmpR op_eq (pv 3) pe_int (nomark _)) (pss_one (ps_set (i := 5) sc_l_near.nd rfl (Or.inl rfl) (pe_call (Ow.ok_l_draw T) (hr.mono (by decide : 1 ≤ 1)) (by rfl) T.d_l_draw.m T.d_l_draw.F.kp T.d_l_draw.b .nil pass0 (pa_cons (pv 0) (pa_cons (pe_op op_add (pe_call (Ow.ok_l_twos T) (hr.mono (by decide : 1 ≤ 1)) (by rfl) T.d_l_twos.m T.d_l_twos.F.kp T.d_l_twos.b .nil pass0 (pa_cons (pv 2) pa_nil)) pe_int) pa_nil))))) pss_nil)
        (pss_cons (ps_if (pt_cmpR op_eq (pv 3) pe_int (nomark _)) (pss_one (ps_set (i := 4) sc_l_near.nd rfl (Or.inl rfl) (Ow.pe_nmi (pe_callB (call_max2 rfl) (by rfl) T.z_max (by decide +kernel) (pa_cons pe_int (pa_cons (pv 4) pa_nil)))))) pss_nil)
        (pss_cons (ps_set (i := 6) sc_l_near.nd rfl (Or.inl rfl) (Ow.pe_nmi (pe_op op_sub (pe_op op_add (pe_op Ow.op_divN (pe_op Ow.op_shl1 pe_int (pe_op op_add (pv 1) (pv 4))) (pe_op Ow.op_shrN (pv 2) (pv 5))) (pe_call (Ow.ok_l_draw T) (hr.mono (by decide : 1 ≤ 1)) (by rfl) T.d_l_draw.m T.d_l_draw.F.kp T.d_l_draw.b .nil pass0 (pa_cons (pv 0) (pa_cons pe_int pa_nil)))) pe_int)))
        (pss_cons (ps_if (pt_cmpR op_eq (pv 3) pe_int (nomark _)) (pss_one (ps_set (i := 6) sc_l_near.nd rfl (Or.inl rfl) (Ow.pe_nmi (pe_op op_sub (pv 6) (pe_op Ow.op_shl1 pe_int (pv 1)))))) pss_nil)
        (pss_cons (ps_if (pt_cmpR op_eq (pe_call (Ow.ok_l_draw T) (hr.mono (by decide : 1 ≤ 1)) (by rfl) T.d_l_draw.m T.d_l_draw.F.kp T.d_l_draw.b .nil pass0 (pa_cons (pv 0) (pa_cons pe_int pa_nil))) pe_int (nomark _)) (pss_one (ps_set (i := 6) sc_l_near.nd rfl (Or.inl rfl) (pe_call (Ow.ok_l_draw T) (hr.mono (by decide : 1 ≤ 1)) (by rfl) T.d_l_draw.m T.d_l_draw.F.kp T.d_l_draw.b .nil pass0 (pa_cons (pv 0) (pa_cons pe_int pa_nil))))) pss_nil)
        (pss_cons (ps_set (i := 6) sc_l_near.nd rfl (Or.inl rfl) (Ow.pe_nmi (pe_callB (call_max2 rfl) (by rfl) T.z_max (by decide +kernel) (pa_cons pe_int (pa_cons (Ow.pe_nmi (pe_callB (call_min2 rfl) (by rfl) T.z_min (by decide +kernel) (pa_cons (pv 6) (pa_cons pe_int pa_nil)))) pa_nil)))))
        (pss_cons (ps_if (pt_cmpR op_eq (pv 3) pe_int (nomark _)) (pss_one (ps_ret (pe_tup (pa_cons pe_str (pa_cons (pv 5) (pa_cons (pv 6) (pa_cons (pv 4) pa_nil))))))) pss_nil)
        (pss_one (ps_ret (pe_tup (pa_cons (pe_ix ix_list (pe_lst (pa_cons pe_str (pa_cons pe_str (pa_cons pe_str (pa_cons pe_str (pa_cons pe_str pa_nil)))))) (pv 3) (fun _ _ => rfl)) (pa_cons (pv 6) (pa_cons (pv 4) pa_nil))))))))))))))))), ?_⟩
    refine ⟨_, rfl, ?_⟩
    refine ⟨_, _, _, _, rfl, c0, (by first | (walk_at "o2")), (by first | (walk_at "o2")), fun l_kind a2 c2 h1 h2 => ?_⟩
    refine Ow.gnmS (σ' := [_, _, _, _, _, _, _]) rfl ?_
    refine ⟨_, rfl, ?_⟩
    refine ⟨_, rfl, ?_⟩
    refine ⟨_, _, rfl, rfl, ?_⟩
    refine ⟨_, rfl, ?_⟩
    generalize h_bl : ((PySem.Builtin.Int.intBits (d - 1) : Nat) : Int) = bl
    have hb_bl := Ow.bits_le (w := width) h_bl (by omega) (by omega) (by omega)
    refine ⟨_, _, rfl, rfl, ?_⟩
    refine ⟨_, _, _, _, rfl, upd_same, (by first | (walk_at "o2")), (by first | (walk_at "o2")), fun l_k a2_2 c2_2 h3 h4 => ?_⟩
    refine Ow.gnmS (σ' := [_, _, _, _, _, _, _]) rfl ?_
    refine ⟨_, rfl, ?_⟩
    refine ⟨rfl, ?_⟩
    refine ⟨_, rfl, ?_⟩
    refine Ow.ifeqi (fun h5 => ?_) (fun h5 => ?_)
    · refine ⟨_, rfl, ?_⟩
      refine ⟨_, rfl, ?_⟩
      generalize h_bl_2 : ((PySem.Builtin.Int.intBits (d) : Nat) : Int) = bl_2
      have hb_bl_2 := Ow.bits_le (w := width) h_bl_2 (by omega) (by omega) (by omega)
      refine ⟨_, _, rfl, rfl, ?_⟩
      refine ⟨_, rfl, ?_⟩
      refine ⟨_, _, _, _, rfl, upd_same, (by first | (walk_at "o2")), (by first | (walk_at "o2")), fun t a2_3 c2_3 h6 h7 => ?_⟩
      refine ⟨_, _, rfl, rfl, ?_⟩
      refine ⟨_, _, rfl, ?_⟩
      refine ⟨_, rfl, fun m h_m => ?_⟩
      have hm_m := Ow.max_ite h_m
      refine ⟨by show 2 ≤ sizeLine; decide, fun p h_p => ?_⟩
      exact kont (Ow.Tf_Form.shifted m) a2_3 c2_3 (by first | (walk_at "o2") | (simp only [Ow.FOk]; omega) | (simp only [Ow.nE]; first | assumption | (show d % 1 = 0; omega))) (by first | (walk_at "o2") | (simp only [Ow.FOk]; omega) | (simp only [Ow.nE]; first | assumption | (show d % 1 = 0; omega))) _ _ ((((Ow.Fm.refl.mut).mut).mut).same (Ow.same_new h_p)) (Ow.at_new h_p upd_same) (Ow.Fm.free (((Ow.Fm.refl.mut).mut).mut) upd_same h_p) upd_same
    · refine Ow.tnx ?_
      refine Ow.join (fun σ2 H2 => ∃ (ea : Int) (a9 : Int) (c9 : Int) (v_6 : Option V), σ2 = [some (.ref box), some (.int (width)), some (.int (d)), some (.int (l_kind)), some (.int (l_k)), some (.int (ea)), v_6] ∧ Ow.Fm box H H2 ∧ H2 box = some (.lst [.int (a9), .int (c9)]) ∧ (0 ≤ ea) ∧ (ea < 70) ∧ (d % 2 ^ ea.toNat = 0) ∧ (l_kind = 2 ∨ ea = 0) ∧ True) (fun N h8 => ?_) (fun σ2 H2 h9 => ?_)
      · refine ⟨_, rfl, ?_⟩
        refine ⟨rfl, ?_⟩
        refine ⟨_, rfl, ?_⟩
        refine Ow.ifeqi (fun h10 => ?_) (fun h10 => ?_)
        · refine ⟨_, rfl, ?_⟩
          refine ⟨_, rfl, ?_⟩
          refine ⟨_, rfl, (by first | (walk_at "o2")), (by first | (walk_at "o2")), fun t_2 h11 h12 h13 Hn h14 => ?_⟩
          refine ⟨_, _, rfl, rfl, ?_⟩
          refine ⟨_, _, _, _, rfl, (h14 _ _ upd_same), (by first | (walk_at "o2")), (by first | (walk_at "o2")), fun l_early a2_4 c2_4 h15 h16 => ?_⟩
          exact h8 _ _ ⟨l_early, _, _, _, rfl, ((((Ow.Fm.refl.mut).mut).same h14).mut), upd_same, (by first | (walk_at "o2") | exact Ow.mod_le (by assumption) (by omega) (by omega) | (show d % 1 = 0; omega)), (by first | (walk_at "o2") | exact Ow.mod_le (by assumption) (by omega) (by omega) | (show d % 1 = 0; omega)), (by first | (walk_at "o2") | exact Ow.mod_le (by assumption) (by omega) (by omega) | (show d % 1 = 0; omega)), (by first | (walk_at "o2") | exact Ow.mod_le (by assumption) (by omega) (by omega) | (show d % 1 = 0; omega)), trivial⟩
        · exact h8 _ _ ⟨0, _, _, _, rfl, ((Ow.Fm.refl.mut).mut), upd_same, (by first | (walk_at "o2") | exact Ow.mod_le (by assumption) (by omega) (by omega) | (show d % 1 = 0; omega)), (by first | (walk_at "o2") | exact Ow.mod_le (by assumption) (by omega) (by omega) | (show d % 1 = 0; omega)), (by first | (walk_at "o2") | exact Ow.mod_le (by assumption) (by omega) (by omega) | (show d % 1 = 0; omega)), (by first | (walk_at "o2") | exact Ow.mod_le (by assumption) (by omega) (by omega) | (show d % 1 = 0; omega)), trivial⟩
      · obtain ⟨ea, a9, c9, _, rfl, h17, h18, h19, h20, h21, h22, _⟩ := h9
        refine Ow.join (fun σ2 H2 => ∃ (ka : Int) (a9 : Int) (c9 : Int) (v_6 : Option V), σ2 = [some (.ref box), some (.int (width)), some (.int (d)), some (.int (l_kind)), some (.int (ka)), some (.int (ea)), v_6] ∧ Ow.Fm box H H2 ∧ H2 box = some (.lst [.int (a9), .int (c9)]) ∧ (0 ≤ ka) ∧ (ka ≤ 34) ∧ (l_kind = 4 → 1 ≤ ka) ∧ True) (fun N_2 h23 => ?_) (fun σ2 H2 h24 => ?_)
        · refine ⟨_, rfl, ?_⟩
          refine ⟨rfl, ?_⟩
          refine ⟨_, rfl, ?_⟩
          refine Ow.ifeqi (fun h25 => ?_) (fun h25 => ?_)
          · refine ⟨_, rfl, ?_⟩
            refine ⟨_, _, rfl, ?_⟩
            refine ⟨_, rfl, fun m_2 h_m_2 => ?_⟩
            have hm_m_2 := Ow.max_ite h_m_2
            exact h23 _ _ ⟨m_2, _, _, _, rfl, (Ow.Fm.refl.trans h17), h18, (by first | (walk_at "o2") | exact Ow.mod_le (by assumption) (by omega) (by omega) | (show d % 1 = 0; omega)), (by first | (walk_at "o2") | exact Ow.mod_le (by assumption) (by omega) (by omega) | (show d % 1 = 0; omega)), (by first | (walk_at "o2") | exact Ow.mod_le (by assumption) (by omega) (by omega) | (show d % 1 = 0; omega)), trivial⟩
          · exact h23 _ _ ⟨l_k, _, _, _, rfl, (Ow.Fm.refl.trans h17), h18, (by first | (walk_at "o2") | exact Ow.mod_le (by assumption) (by omega) (by omega) | (show d % 1 = 0; omega)), (by first | (walk_at "o2") | exact Ow.mod_le (by assumption) (by omega) (by omega) | (show d % 1 = 0; omega)), (by first | (walk_at "o2") | exact Ow.mod_le (by assumption) (by omega) (by omega) | (show d % 1 = 0; omega)), trivial⟩
        · obtain ⟨ka, a9_2, c9_2, _, rfl, h26, h27, h28, h29, h30, _⟩ := h24
          have le1 := Ow.half_pos (A := 2 ^ (ea).toNat) (d := d) (Ow.p2 _) (by assumption) (by omega)
          have le2 := Ow.twos_lt (w := width) (t := ea) (by omega) (by omega) (by omega) (by assumption)
          refine ⟨_, rfl, ?_⟩
          refine ⟨_, rfl, ?_⟩
          refine ⟨_, _, rfl, rfl, ?_⟩
          refine ⟨_, rfl, rfl, (by first | (walk_at "o2")), fun B h_B h0_B => ?_⟩
          refine ⟨_, rfl, ?_⟩
          refine ⟨_, rfl, ?_⟩
          refine ⟨_, _, rfl, rfl, (by first | (walk_at "o2")), fun q h_q => ?_⟩
          refine ⟨_, _, rfl, rfl, (by first | (walk_at "o2")), fun q_2 h_q_2 => ?_⟩
          refine ⟨_, rfl, ?_⟩
          refine ⟨_, _, _, _, rfl, h27, (by first | (walk_at "o2")), (by first | (walk_at "o2")), fun t_3 a2_5 c2_5 h31 h32 => ?_⟩
          refine ⟨_, _, rfl, rfl, ?_⟩
          refine ⟨_, _, rfl, rfl, ?_⟩
          refine ⟨_, rfl, fun l_factor h_l_factor => ?_⟩
          refine Ow.gnm ?_
          refine Ow.join (fun σ2 H2 => ∃ (fa : Int) (a9 : Int) (c9 : Int), σ2 = [some (.ref box), some (.int (width)), some (.int (d)), some (.int (l_kind)), some (.int (ka)), some (.int (ea)), some (.int (fa))] ∧ Ow.Fm box H H2 ∧ H2 box = some (.lst [.int (a9), .int (c9)]) ∧ True) (fun N_3 h33 => ?_) (fun σ2 H2 h34 => ?_)
          · refine ⟨_, rfl, ?_⟩
            refine ⟨rfl, ?_⟩
            refine ⟨_, rfl, ?_⟩
            refine Ow.ifeqi (fun h35 => ?_) (fun h35 => ?_)
            · refine ⟨_, rfl, ?_⟩
              refine ⟨_, rfl, ?_⟩
              refine ⟨_, rfl, rfl, (by first | (walk_at "o2")), fun B_2 h_B_2 h0_B_2 => ?_⟩
              refine ⟨_, _, rfl, rfl, ?_⟩
              refine ⟨_, rfl, fun l_factor_2 h_l_factor_2 => ?_⟩
              exact h33 _ _ ⟨l_factor_2, _, _, rfl, ((Ow.Fm.refl.trans h26).mut), upd_same, trivial⟩
            · exact h33 _ _ ⟨l_factor, _, _, rfl, ((Ow.Fm.refl.trans h26).mut), upd_same, trivial⟩
          · obtain ⟨fa, a9_3, c9_3, rfl, h36, h37, _⟩ := h34
            refine Ow.join (fun σ2 H2 => ∃ (fa : Int) (a9 : Int) (c9 : Int), σ2 = [some (.ref box), some (.int (width)), some (.int (d)), some (.int (l_kind)), some (.int (ka)), some (.int (ea)), some (.int (fa))] ∧ Ow.Fm box H H2 ∧ H2 box = some (.lst [.int (a9), .int (c9)]) ∧ True) (fun N_4 h38 => ?_) (fun σ2 H2 h39 => ?_)
            · refine ⟨_, rfl, ?_⟩
              refine ⟨_, _, _, _, rfl, h37, (by first | (walk_at "o2")), (by first | (walk_at "o2")), fun t_4 a2_6 c2_6 h40 h41 => ?_⟩
              refine ⟨rfl, ?_⟩
              refine ⟨_, rfl, ?_⟩
              refine Ow.ifeqi (fun h42 => ?_) (fun h42 => ?_)
              · refine ⟨_, rfl, ?_⟩
                refine ⟨_, _, _, _, rfl, upd_same, (by first | (walk_at "o2")), (by first | (walk_at "o2")), fun l_factor_3 a2_7 c2_7 h43 h44 => ?_⟩
                exact h38 _ _ ⟨l_factor_3, _, _, rfl, (((Ow.Fm.refl.trans h36).mut).mut), upd_same, trivial⟩
              · exact h38 _ _ ⟨fa, _, _, rfl, ((Ow.Fm.refl.trans h36).mut), upd_same, trivial⟩
            · obtain ⟨fa_2, a9_4, c9_4, rfl, h45, h46, _⟩ := h39
              refine ⟨_, rfl, ?_⟩
              refine ⟨_, _, rfl, ?_⟩
              refine ⟨_, rfl, fun m_3 h_m_3 => ?_⟩
              have hm_m_3 := Ow.min_ite h_m_3
              refine ⟨_, _, rfl, ?_⟩
              refine ⟨_, rfl, fun m_4 h_m_4 => ?_⟩
              have hm_m_4 := Ow.max_ite h_m_4
              refine Ow.gnm ?_
              refine ⟨_, rfl, ?_⟩
              refine ⟨rfl, ?_⟩
              refine ⟨_, rfl, ?_⟩
              refine Ow.ifeqi (fun h47 => ?_) (fun h47 => ?_)
              · refine ⟨_, rfl, ?_⟩
                refine ⟨_, rfl, ?_⟩
                refine ⟨_, rfl, ?_⟩
                refine ⟨by show 4 ≤ sizeLine; decide, fun p_2 h_p_2 => ?_⟩
                exact kont (Ow.Tf_Form.early ea m_4 ka) a9_4 c9_4 (by first | (walk_at "o2") | (simp only [Ow.FOk]; omega) | (simp only [Ow.nE]; first | assumption | (show d % 1 = 0; omega))) (by first | (walk_at "o2") | (simp only [Ow.FOk]; omega) | (simp only [Ow.nE]; first | assumption | (show d % 1 = 0; omega))) _ _ ((Ow.Fm.refl.trans h45).same (Ow.same_new h_p_2)) (Ow.at_new h_p_2 h46) (Ow.Fm.free (Ow.Fm.refl.trans h45) h46 h_p_2) upd_same
              · rcases (by omega : l_kind = 1 ∨ l_kind = 3 ∨ l_kind = 4) with rfl | rfl | rfl
                · refine ⟨by show 5 ≤ sizeLine; decide, fun p_3 h_p_3 => ?_⟩
                  refine ⟨_, rfl, ?_⟩
                  refine ⟨_, _, _, _, rfl, rfl, (SqL.of upd_same), (by first | rfl | decide), ?_⟩
                  refine ⟨_, rfl, ?_⟩
                  refine ⟨_, rfl, ?_⟩
                  refine ⟨by show 3 ≤ sizeLine; decide, fun p_4 h_p_4 => ?_⟩
                  exact kont (Ow.Tf_Form.scaled m_4 ka) a9_4 c9_4 (by first | (walk_at "o2") | (simp only [Ow.FOk]; omega) | (simp only [Ow.nE]; first | assumption | (show d % 1 = 0; omega))) (by first | (walk_at "o2") | (simp only [Ow.FOk]; omega) | (simp only [Ow.nE]; first | assumption | (show d % 1 = 0; omega))) _ _ (((Ow.Fm.refl.trans h45).same (Ow.same_new h_p_3)).same (Ow.same_new h_p_4)) (Ow.at_new h_p_4 (Ow.at_new h_p_3 h46)) (Ow.Fm.free ((Ow.Fm.refl.trans h45).same (Ow.same_new h_p_3)) (Ow.at_new h_p_3 h46) h_p_4) upd_same
                · refine ⟨by show 5 ≤ sizeLine; decide, fun p_5 h_p_5 => ?_⟩
                  refine ⟨_, rfl, ?_⟩
                  refine ⟨_, _, _, _, rfl, rfl, (SqL.of upd_same), (by first | rfl | decide), ?_⟩
                  refine ⟨_, rfl, ?_⟩
                  refine ⟨_, rfl, ?_⟩
                  refine ⟨by show 3 ≤ sizeLine; decide, fun p_6 h_p_6 => ?_⟩
                  exact kont (Ow.Tf_Form.more m_4 ka) a9_4 c9_4 (by first | (walk_at "o2") | (simp only [Ow.FOk]; omega) | (simp only [Ow.nE]; first | assumption | (show d % 1 = 0; omega))) (by first | (walk_at "o2") | (simp only [Ow.FOk]; omega) | (simp only [Ow.nE]; first | assumption | (show d % 1 = 0; omega))) _ _ (((Ow.Fm.refl.trans h45).same (Ow.same_new h_p_5)).same (Ow.same_new h_p_6)) (Ow.at_new h_p_6 (Ow.at_new h_p_5 h46)) (Ow.Fm.free ((Ow.Fm.refl.trans h45).same (Ow.same_new h_p_5)) (Ow.at_new h_p_5 h46) h_p_6) upd_same
                · refine ⟨by show 5 ≤ sizeLine; decide, fun p_7 h_p_7 => ?_⟩
                  refine ⟨_, rfl, ?_⟩
                  refine ⟨_, _, _, _, rfl, rfl, (SqL.of upd_same), (by first | rfl | decide), ?_⟩
                  refine ⟨_, rfl, ?_⟩
                  refine ⟨_, rfl, ?_⟩
                  refine ⟨by show 3 ≤ sizeLine; decide, fun p_8 h_p_8 => ?_⟩
                  exact kont (Ow.Tf_Form.wide m_4 ka) a9_4 c9_4 (by first | (walk_at "o2") | (simp only [Ow.FOk]; omega) | (simp only [Ow.nE]; first | assumption | (show d % 1 = 0; omega))) (by first | (walk_at "o2") | (simp only [Ow.FOk]; omega) | (simp only [Ow.nE]; first | assumption | (show d % 1 = 0; omega))) _ _ (((Ow.Fm.refl.trans h45).same (Ow.same_new h_p_7)).same (Ow.same_new h_p_8)) (Ow.at_new h_p_8 (Ow.at_new h_p_7 h46)) (Ow.Fm.free ((Ow.Fm.refl.trans h45).same (Ow.same_new h_p_7)) (Ow.at_new h_p_7 h46) h_p_8) upd_same
theorem ok_l_numbers (T : Tx K mg) : FnOk P w K mg base CX0 1 T.d_l_numbers.f T.d_l_numbers.fd ["_law_told", "_law_width"] (sp_l_numbers T) := by
  refine T.d_l_numbers.F.ok sc_l_numbers (fun vs H Q E h => ?_) (fun cdv A outer s H vs Q E hr h => ?_)
  · obtain ⟨told, width, fm, rfl, _⟩ := h
    rfl
  · obtain ⟨told, width, fm, rfl, c0, c1, c2, c3, kont⟩ := h
    have p32_width := Ow.pow2_le32 (w := width) (by omega)
    have p0_width := Ow.p2 width.toNat
    refine ⟨_, (pss_cons (ps_if (pt_cmpR op_eq (pe_ix ix_tup (pv 0) pe_int (fun _ _ => rfl)) pe_str (nomark _)) (pss_one (ps_ret (pe_tup (pa_cons pe_int (pa_cons pe_int (pa_cons pe_int (pa_cons (pe_ix ix_tup (pv 0) pe_int (fun _ _ => rfl)) pa_nil))))))) pss_nil)
        (pss_cons (ps_if (pt_cmpR op_eq (pe_ix ix_tup (pv 0) pe_int (fun _ _ => rfl)) pe_str (nomark _)) (pss_one (ps_ret (pe_tup (pa_cons pe_int (pa_cons (pe_ix ix_tup (pv 0) pe_int (fun _ _ => rfl)) (pa_cons pe_int (pa_cons (pe_op op_add (pv 1) (pe_ix ix_tup (pv 0) pe_int (fun _ _ => rfl))) pa_nil))))))) pss_nil)
        (pss_cons (ps_if (pt_cmpR op_eq (pe_ix ix_tup (pv 0) pe_int (fun _ _ => rfl)) pe_str (nomark _)) (pss_one (ps_ret (pe_tup (pa_cons (pe_ix ix_tup (pv 0) pe_int (fun _ _ => rfl)) (pa_cons (pe_ix ix_tup (pv 0) pe_int (fun _ _ => rfl)) (pa_cons pe_int (pa_cons (pe_op op_add (pv 1) (pe_ix ix_tup (pv 0) pe_int (fun _ _ => rfl))) pa_nil))))))) pss_nil)
        (pss_cons (ps_if (pt_cmpR op_eq (pe_ix ix_tup (pv 0) pe_int (fun _ _ => rfl)) pe_str (nomark _)) (pss_one (ps_ret (pe_tup (pa_cons pe_int (pa_cons (pe_ix ix_tup (pv 0) pe_int (fun _ _ => rfl)) (pa_cons (pe_ix ix_tup (pv 0) pe_int (fun _ _ => rfl)) (pa_cons (pe_op op_add (pv 1) (pe_ix ix_tup (pv 0) pe_int (fun _ _ => rfl))) pa_nil))))))) pss_nil)
        (pss_one (ps_ret (pe_tup (pa_cons pe_int (pa_cons (pe_op op_add (pe_op Ow.op_shl1 pe_int (pv 1)) (pe_ix ix_tup (pv 0) pe_int (fun _ _ => rfl))) (pa_cons pe_int (pa_cons (pe_op op_add (pv 1) (pe_ix ix_tup (pv 0) pe_int (fun _ _ => rfl))) pa_nil))))))))))), ?_⟩
    rcases fm with ⟨fm_s⟩ | ⟨fm_f, fm_s_2⟩ | ⟨fm_e, fm_f_2, fm_s_3⟩ | ⟨fm_f_3, fm_s_4⟩ | ⟨fm_f_4, fm_s_5⟩
    · replace c2 : H told = some (.tup [.str ("shifted"), .int (fm_s)]) := c2
      simp only [Ow.FOk] at c3
      refine ⟨_, rfl, ?_⟩
      refine ⟨_, _, _, _, rfl, rfl, (SqT.of c2), (by first | rfl | decide), ?_⟩
      refine ⟨rfl, ?_⟩
      refine ⟨_, rfl, ?_⟩
      refine Ow.ifeqs (fun _ => ?_) (fun h => absurd rfl h)
      refine ⟨_, rfl, ?_⟩
      refine ⟨_, _, _, _, rfl, rfl, (SqT.of c2), (by first | rfl | decide), ?_⟩
      refine ⟨by show 4 ≤ sizeLine; decide, fun p h_p => ?_⟩
      subst_vars
      exact kont _ _ (Ow.same_new h_p) h_p upd_same
    · replace c2 : H told = some (.tup [.str ("scaled"), .int (fm_f), .int (fm_s_2)]) := c2
      simp only [Ow.FOk] at c3
      refine ⟨_, rfl, ?_⟩
      refine ⟨_, _, _, _, rfl, rfl, (SqT.of c2), (by first | rfl | decide), ?_⟩
      refine ⟨rfl, ?_⟩
      refine ⟨_, rfl, ?_⟩
      refine Ow.ifeqs (fun h => absurd h (by decide +kernel)) (fun _ => ?_)
      refine ⟨_, rfl, ?_⟩
      refine ⟨_, _, _, _, rfl, rfl, (SqT.of c2), (by first | rfl | decide), ?_⟩
      refine ⟨rfl, ?_⟩
      refine ⟨_, rfl, ?_⟩
      refine Ow.ifeqs (fun _ => ?_) (fun h => absurd rfl h)
      refine ⟨_, rfl, ?_⟩
      refine ⟨_, _, _, _, rfl, rfl, (SqT.of c2), (by first | rfl | decide), ?_⟩
      refine ⟨_, rfl, ?_⟩
      refine ⟨_, rfl, ?_⟩
      refine ⟨_, _, _, _, rfl, rfl, (SqT.of c2), (by first | rfl | decide), ?_⟩
      refine ⟨_, _, rfl, rfl, ?_⟩
      refine ⟨by show 4 ≤ sizeLine; decide, fun p_2 h_p_2 => ?_⟩
      subst_vars
      exact kont _ _ (Ow.same_new h_p_2) h_p_2 upd_same
    · replace c2 : H told = some (.tup [.str ("early"), .int (fm_e), .int (fm_f_2), .int (fm_s_3)]) := c2
      simp only [Ow.FOk] at c3
      refine ⟨_, rfl, ?_⟩
      refine ⟨_, _, _, _, rfl, rfl, (SqT.of c2), (by first | rfl | decide), ?_⟩
      refine ⟨rfl, ?_⟩
      refine ⟨_, rfl, ?_⟩
      refine Ow.ifeqs (fun h => absurd h (by decide +kernel)) (fun _ => ?_)
      refine ⟨_, rfl, ?_⟩
      refine ⟨_, _, _, _, rfl, rfl, (SqT.of c2), (by first | rfl | decide), ?_⟩
      refine ⟨rfl, ?_⟩
      refine ⟨_, rfl, ?_⟩
      refine Ow.ifeqs (fun h => absurd h (by decide +kernel)) (fun _ => ?_)
      refine ⟨_, rfl, ?_⟩
      refine ⟨_, _, _, _, rfl, rfl, (SqT.of c2), (by first | rfl | decide), ?_⟩
      refine ⟨rfl, ?_⟩
      refine ⟨_, rfl, ?_⟩
      refine Ow.ifeqs (fun _ => ?_) (fun h => absurd rfl h)
      refine ⟨_, rfl, ?_⟩
      refine ⟨_, _, _, _, rfl, rfl, (SqT.of c2), (by first | rfl | decide), ?_⟩
      refine ⟨_, rfl, ?_⟩
      refine ⟨_, _, _, _, rfl, rfl, (SqT.of c2), (by first | rfl | decide), ?_⟩
      refine ⟨_, rfl, ?_⟩
      refine ⟨_, rfl, ?_⟩
      refine ⟨_, _, _, _, rfl, rfl, (SqT.of c2), (by first | rfl | decide), ?_⟩
      refine ⟨_, _, rfl, rfl, ?_⟩
      refine ⟨by show 4 ≤ sizeLine; decide, fun p_3 h_p_3 => ?_⟩
      subst_vars
      exact kont _ _ (Ow.same_new h_p_3) h_p_3 upd_same
    · replace c2 : H told = some (.tup [.str ("more"), .int (fm_f_3), .int (fm_s_4)]) := c2
      simp only [Ow.FOk] at c3
      refine ⟨_, rfl, ?_⟩
      refine ⟨_, _, _, _, rfl, rfl, (SqT.of c2), (by first | rfl | decide), ?_⟩
      refine ⟨rfl, ?_⟩
      refine ⟨_, rfl, ?_⟩
      refine Ow.ifeqs (fun h => absurd h (by decide +kernel)) (fun _ => ?_)
      refine ⟨_, rfl, ?_⟩
      refine ⟨_, _, _, _, rfl, rfl, (SqT.of c2), (by first | rfl | decide), ?_⟩
      refine ⟨rfl, ?_⟩
      refine ⟨_, rfl, ?_⟩
      refine Ow.ifeqs (fun h => absurd h (by decide +kernel)) (fun _ => ?_)
      refine ⟨_, rfl, ?_⟩
      refine ⟨_, _, _, _, rfl, rfl, (SqT.of c2), (by first | rfl | decide), ?_⟩
      refine ⟨rfl, ?_⟩
      refine ⟨_, rfl, ?_⟩
      refine Ow.ifeqs (fun h => absurd h (by decide +kernel)) (fun _ => ?_)
      refine ⟨_, rfl, ?_⟩
      refine ⟨_, _, _, _, rfl, rfl, (SqT.of c2), (by first | rfl | decide), ?_⟩
      refine ⟨rfl, ?_⟩
      refine ⟨_, rfl, ?_⟩
      refine Ow.ifeqs (fun _ => ?_) (fun h => absurd rfl h)
      refine ⟨_, rfl, ?_⟩
      refine ⟨_, _, _, _, rfl, rfl, (SqT.of c2), (by first | rfl | decide), ?_⟩
      refine ⟨_, rfl, ?_⟩
      refine ⟨_, _, _, _, rfl, rfl, (SqT.of c2), (by first | rfl | decide), ?_⟩
      refine ⟨_, rfl, ?_⟩
      refine ⟨_, rfl, ?_⟩
      refine ⟨_, _, _, _, rfl, rfl, (SqT.of c2), (by first | rfl | decide), ?_⟩
      refine ⟨_, _, rfl, rfl, ?_⟩
      refine ⟨by show 4 ≤ sizeLine; decide, fun p_4 h_p_4 => ?_⟩
      subst_vars
      exact kont _ _ (Ow.same_new h_p_4) h_p_4 upd_same
    · replace c2 : H told = some (.tup [.str ("wide"), .int (fm_f_4), .int (fm_s_5)]) := c2
      simp only [Ow.FOk] at c3
      refine ⟨_, rfl, ?_⟩
      refine ⟨_, _, _, _, rfl, rfl, (SqT.of c2), (by first | rfl | decide), ?_⟩
      refine ⟨rfl, ?_⟩
      refine ⟨_, rfl, ?_⟩
      refine Ow.ifeqs (fun h => absurd h (by decide +kernel)) (fun _ => ?_)
      refine ⟨_, rfl, ?_⟩
      refine ⟨_, _, _, _, rfl, rfl, (SqT.of c2), (by first | rfl | decide), ?_⟩
      refine ⟨rfl, ?_⟩
      refine ⟨_, rfl, ?_⟩
      refine Ow.ifeqs (fun h => absurd h (by decide +kernel)) (fun _ => ?_)
      refine ⟨_, rfl, ?_⟩
      refine ⟨_, _, _, _, rfl, rfl, (SqT.of c2), (by first | rfl | decide), ?_⟩
      refine ⟨rfl, ?_⟩
      refine ⟨_, rfl, ?_⟩
      refine Ow.ifeqs (fun h => absurd h (by decide +kernel)) (fun _ => ?_)
      refine ⟨_, rfl, ?_⟩
      refine ⟨_, _, _, _, rfl, rfl, (SqT.of c2), (by first | rfl | decide), ?_⟩
      refine ⟨rfl, ?_⟩
      refine ⟨_, rfl, ?_⟩
      refine Ow.ifeqs (fun h => absurd h (by decide +kernel)) (fun _ => ?_)
      refine ⟨_, rfl, ?_⟩
      refine ⟨_, rfl, rfl, (by first | (walk_at "o2")), fun B h_B h0_B => ?_⟩
      refine ⟨_, rfl, ?_⟩
      refine ⟨_, _, _, _, rfl, rfl, (SqT.of c2), (by first | rfl | decide), ?_⟩
      refine ⟨_, _, rfl, rfl, ?_⟩
      refine ⟨_, rfl, ?_⟩
      refine ⟨_, rfl, ?_⟩
      refine ⟨_, _, _, _, rfl, rfl, (SqT.of c2), (by first | rfl | decide), ?_⟩
      refine ⟨_, _, rfl, rfl, ?_⟩
      refine ⟨by show 4 ≤ sizeLine; decide, fun p_5 h_p_5 => ?_⟩
      subst_vars
      exact kont _ _ (Ow.same_new h_p_5) h_p_5 upd_same
theorem ok_is_whole (T : Tx K mg) : FnOk P w K mg base CX0 1 T.d_is_whole.f T.d_is_whole.fd ["thing"] (sp_is_whole T) := by
  refine T.d_is_whole.F.ok sc_is_whole (fun vs H Q E h => ?_) (fun cdv A outer s H vs Q E hr h => ?_)
  · rcases h with h | h | h | h | h | h | h
    · obtain ⟨thing, rfl, _⟩ := h; rfl
    · obtain ⟨rfl, _⟩ := h; rfl
    · obtain ⟨thing, rfl, _⟩ := h; rfl
    · obtain ⟨thing, rfl, _⟩ := h; rfl
    · obtain ⟨thing, vl, rfl, _⟩ := h; rfl
    · obtain ⟨thing, vl, rfl, _⟩ := h; rfl
    · obtain ⟨thing, rfl, _⟩ := h; rfl
  · refine ⟨_, (pss_one (ps_ret (pe_and (pe_callB call_isi (by rfl) T.z_isinstance (by decide +kernel) (pa_cons (pv 0) (pa_cons (pe_bltn (v := .ty "int") (by rfl) T.z_int (by decide +kernel) rfl) pa_nil))) (pe_one (pe_not (pe_callB call_isi (by rfl) T.z_isinstance (by decide +kernel) (pa_cons (pv 0) (pa_cons (pe_bltn (v := .ty "bool") (by rfl) T.z_bool (by decide +kernel) rfl) pa_nil)))))))), ?_⟩
    rcases h with h | h | h | h | h | h | h
    · obtain ⟨thing, rfl, kont⟩ := h
      refine ⟨_, rfl, ?_⟩
      refine ⟨_, _, _, _, true, rfl, .ty _, .base (.int _), kit_ty (by decide +kernel), ?_⟩
      refine ⟨_, rfl, ?_⟩
      refine iteT ?_
      refine ⟨_, rfl, ?_⟩
      refine ⟨_, _, _, _, false, rfl, .ty _, .base (.int _), kit_ty (by decide +kernel), ?_⟩
      refine ⟨_, rfl, ?_⟩
      exact kont
    · obtain ⟨rfl, kont⟩ := h
      refine ⟨_, rfl, ?_⟩
      refine ⟨_, _, _, _, false, rfl, .ty _, .base (.non), kit_ty (by decide +kernel), ?_⟩
      refine ⟨_, rfl, ?_⟩
      refine iteF ?_
      exact kont
    · obtain ⟨thing, rfl, kont⟩ := h
      refine ⟨_, rfl, ?_⟩
      refine ⟨_, _, _, _, true, rfl, .ty _, .base (.bl _), kit_ty (by decide +kernel), ?_⟩
      refine ⟨_, rfl, ?_⟩
      refine iteT ?_
      refine ⟨_, rfl, ?_⟩
      refine ⟨_, _, _, _, true, rfl, .ty _, .base (.bl _), kit_ty (by decide +kernel), ?_⟩
      refine ⟨_, rfl, ?_⟩
      exact kont
    · obtain ⟨thing, rfl, kont⟩ := h
      refine ⟨_, rfl, ?_⟩
      refine ⟨_, _, _, _, false, rfl, .ty _, .base (.str _), kit_ty (by decide +kernel), ?_⟩
      refine ⟨_, rfl, ?_⟩
      refine iteF ?_
      exact kont
    · obtain ⟨thing, vl, rfl, c0, kont⟩ := h
      refine ⟨_, rfl, ?_⟩
      refine ⟨_, _, _, _, false, rfl, .ty _, .base (.lst c0), kit_ty (by decide +kernel), ?_⟩
      refine ⟨_, rfl, ?_⟩
      refine iteF ?_
      exact kont
    · obtain ⟨thing, vl, rfl, c0, kont⟩ := h
      refine ⟨_, rfl, ?_⟩
      refine ⟨_, _, _, _, false, rfl, .ty _, .base (.tup c0), kit_ty (by decide +kernel), ?_⟩
      refine ⟨_, rfl, ?_⟩
      refine iteF ?_
      exact kont
    · obtain ⟨thing, rfl, c0, kont⟩ := h
      refine ⟨_, rfl, ?_⟩
      refine ⟨_, _, _, _, false, rfl, .ty _, .base (.dK c0), kit_ty (by decide +kernel), ?_⟩
      refine ⟨_, rfl, ?_⟩
      refine iteF ?_
      exact kont
theorem ok_is_between (T : Tx K mg) : FnOk P w K mg base CX0 2 T.d_is_between.f T.d_is_between.fd ["number", "least", "greatest"] (sp_is_between T) := by
  refine T.d_is_between.F.ok sc_is_between (fun vs H Q E h => ?_) (fun cdv A outer s H vs Q E hr h => ?_)
  · rcases h with h | h | h | h | h | h | h | h
    · obtain ⟨number, least, greatest, rfl, _⟩ := h; rfl
    · obtain ⟨thing, least, greatest, rfl, _⟩ := h; rfl
    · obtain ⟨least, greatest, rfl, _⟩ := h; rfl
    · obtain ⟨thing, least, greatest, rfl, _⟩ := h; rfl
    · obtain ⟨thing, least, greatest, rfl, _⟩ := h; rfl
    · obtain ⟨thing, least, greatest, vl, rfl, _⟩ := h; rfl
    · obtain ⟨thing, least, greatest, vl, rfl, _⟩ := h; rfl
    · obtain ⟨thing, least, greatest, rfl, _⟩ := h; rfl
  · refine ⟨_, (pss_one (ps_ret (pe_and (pe_call (Ow.ok_is_whole T) (hr.mono (by decide : 1 ≤ 1)) (by rfl) T.d_is_whole.m T.d_is_whole.F.kp T.d_is_whole.b .nil pass0 (pa_cons (pv 0) pa_nil)) (pe_one (pe_chain op_le op_le (pv 1) (pv 0) (pv 2)))))), ?_⟩
    rcases h with h | h | h | h | h | h | h | h
    · obtain ⟨number, least, greatest, rfl, c0, c1, kont⟩ := h
      refine ⟨_, rfl, ?_⟩
      refine Or.inl ?_
      refine ⟨_, rfl, ?_⟩
      refine ⟨_, rfl, ?_⟩
      refine iteT ?_
      refine ⟨_, rfl, ?_⟩
      refine ⟨_, rfl, ?_⟩
      refine ⟨_, _, rfl, rfl, ?_⟩
      refine ⟨_, rfl, ?_⟩
      refine Ow.ifd (fun h1 => ?_) (fun h1 => ?_)
      · refine ⟨_, rfl, ?_⟩
        refine ⟨_, _, rfl, rfl, ?_⟩
        refine Ow.eqd (by first | (walk_at "o2")) ?_
        exact kont
      · exact ((by first | (walk_at "o2")) : False).elim
    · obtain ⟨thing, least, greatest, rfl, kont⟩ := h
      refine ⟨_, rfl, ?_⟩
      refine Or.inl ?_
      refine ⟨_, rfl, ?_⟩
      refine ⟨_, rfl, ?_⟩
      refine iteT ?_
      refine ⟨_, rfl, ?_⟩
      refine ⟨_, rfl, ?_⟩
      refine ⟨_, _, rfl, rfl, ?_⟩
      refine ⟨_, rfl, ?_⟩
      refine Ow.ifd (fun h2 => ?_) (fun h2 => ?_)
      · refine ⟨_, rfl, ?_⟩
        refine ⟨_, _, rfl, rfl, ?_⟩
        exact kont (decide (thing ≤ greatest)) (by first | (rw [decide_eq_true_eq]; omega) | (simp only [Bool.false_eq_true, false_iff]; omega))
      · exact kont false (by first | (rw [decide_eq_true_eq]; omega) | (simp only [Bool.false_eq_true, false_iff]; omega))
    · obtain ⟨least, greatest, rfl, kont⟩ := h
      refine ⟨_, rfl, ?_⟩
      refine Or.inr (Or.inl ?_)
      refine ⟨rfl, ?_⟩
      refine ⟨_, rfl, ?_⟩
      refine iteF ?_
      exact kont
    · obtain ⟨thing, least, greatest, rfl, kont⟩ := h
      refine ⟨_, rfl, ?_⟩
      refine Or.inr (Or.inr (Or.inl ?_))
      refine ⟨_, rfl, ?_⟩
      refine ⟨_, rfl, ?_⟩
      refine iteF ?_
      exact kont
    · obtain ⟨thing, least, greatest, rfl, kont⟩ := h
      refine ⟨_, rfl, ?_⟩
      refine Or.inr (Or.inr (Or.inr (Or.inl ?_)))
      refine ⟨_, rfl, ?_⟩
      refine ⟨_, rfl, ?_⟩
      refine iteF ?_
      exact kont
    · obtain ⟨thing, least, greatest, vl, rfl, c0, kont⟩ := h
      refine ⟨_, rfl, ?_⟩
      refine Or.inr (Or.inr (Or.inr (Or.inr (Or.inl ?_))))
      refine ⟨_, _, rfl, c0, ?_⟩
      refine ⟨_, rfl, ?_⟩
      refine iteF ?_
      exact kont
    · obtain ⟨thing, least, greatest, vl, rfl, c0, kont⟩ := h
      refine ⟨_, rfl, ?_⟩
      refine Or.inr (Or.inr (Or.inr (Or.inr (Or.inr (Or.inl ?_)))))
      refine ⟨_, _, rfl, c0, ?_⟩
      refine ⟨_, rfl, ?_⟩
      refine iteF ?_
      exact kont
    · obtain ⟨thing, least, greatest, rfl, c0, kont⟩ := h
      refine ⟨_, rfl, ?_⟩
      refine Or.inr (Or.inr (Or.inr (Or.inr (Or.inr (Or.inr (?_))))))
      refine ⟨_, rfl, c0, ?_⟩
      refine ⟨_, rfl, ?_⟩
      refine iteF ?_
      exact kont
theorem ok_Form___init__ (T : Tx K mg) : FnOk P w K mg base CX0 3 T.d_Form___init__.f T.d_Form___init__.fd ["self", "early", "factor", "shift", "tells"] (sp_Form___init__ T) := by
  refine T.d_Form___init__.F.ok sc_Form___init__ (fun vs H Q E h => ?_) (fun cdv A outer s H vs Q E hr h => ?_)
  · obtain ⟨self, early, factor, shift, tells, wy, dx_self, rfl, _⟩ := h
    rfl
  · obtain ⟨self, early, factor, shift, tells, wy, dx_self, rfl, c0, c1, c2, c3, c4, c5, c6, kont⟩ := h
    refine ⟨_, (pss_cons (ps_if (PW.pt (pw_or (pt_not (pt_val (pe_call (Ow.ok_is_between T) (hr.mono (by decide : 2 ≤ 2)) (by rfl) T.d_is_between.m T.d_is_between.F.kp T.d_is_between.b .nil pass0 (pa_cons (pv 1) (pa_cons pe_int (pa_cons (pe_glob (v := .int (64)) rfl T.g_GREATEST_SHIFT.choose_spec ⟨_, rfl⟩) pa_nil)))))) (pw_or1 (pt_not (pt_val (pe_call (Ow.ok_is_between T) (hr.mono (by decide : 2 ≤ 2)) (by rfl) T.d_is_between.m T.d_is_between.F.kp T.d_is_between.b .nil pass0 (pa_cons (pv 3) (pa_cons pe_int (pa_cons (pe_glob (v := .int (64)) rfl T.g_GREATEST_SHIFT.choose_spec ⟨_, rfl⟩) pa_nil))))))))) (pss_one ps_never) pss_nil)
        (pss_cons (ps_if (pt_not (pt_val (pe_call (Ow.ok_is_between T) (hr.mono (by decide : 2 ≤ 2)) (by rfl) T.d_is_between.m T.d_is_between.F.kp T.d_is_between.b .nil pass0 (pa_cons (pv 2) (pa_cons pe_int (pa_cons (pe_glob (v := .int (4294967295)) rfl T.g_GREATEST_FACTOR.choose_spec ⟨_, rfl⟩) pa_nil)))))) (pss_one ps_never) pss_nil)
        (pss_cons (ps_fld (pv 0) (pv 1) rfl)
        (pss_cons (ps_fld (pv 0) (pv 2) rfl)
        (pss_one (ps_fld (pv 0) (pv 3) rfl)))))), ?_⟩
    refine ⟨_, rfl, ?_⟩
    refine Or.inl ?_
    refine ⟨_, _, _, rfl, (by first | (walk_at "o2")), (by first | (walk_at "o2")), ?_⟩
    refine ⟨_, rfl, ?_⟩
    refine iteF ?_
    refine ⟨_, rfl, ?_⟩
    refine Or.inl ?_
    refine ⟨_, _, _, rfl, (by first | (walk_at "o2")), (by first | (walk_at "o2")), ?_⟩
    refine ⟨_, rfl, ?_⟩
    refine iteF ?_
    refine ⟨_, rfl, ?_⟩
    refine Or.inl ?_
    refine ⟨_, _, _, rfl, (by first | (walk_at "o2")), (by first | (walk_at "o2")), ?_⟩
    refine ⟨_, rfl, ?_⟩
    refine iteF ?_
    refine ⟨_, rfl, ?_⟩
    refine ⟨_, rfl, ?_⟩
    refine ⟨_, _, _, _, rfl, c0, (Ow.kcl_Form T wy), (Ow.kna_Form_early T wy), (show 0 < 1000 by decide), ?_⟩
    refine ⟨_, rfl, ?_⟩
    refine ⟨_, rfl, ?_⟩
    refine ⟨_, _, _, _, rfl, upd_same, (Ow.kcl_Form T wy), (Ow.kna_Form_factor T wy), (show 1 < 1000 by decide), ?_⟩
    refine ⟨_, rfl, ?_⟩
    refine ⟨_, rfl, ?_⟩
    refine ⟨_, _, _, _, rfl, upd_same, (Ow.kcl_Form T wy), (Ow.kna_Form_shift T wy), (show 2 < 1000 by decide), ?_⟩
    exact kont _ (((Ow.Fm.refl.mut).mut).mut) upd_same
theorem ok_Wide___init__ (T : Tx K mg) : FnOk P w K mg base CX0 4 T.d_Wide___init__.f T.d_Wide___init__.fd ["self", "factor", "shift"] (sp_Wide___init__ T) := by
  refine T.d_Wide___init__.F.ok sc_Wide___init__ (fun vs H Q E h => ?_) (fun cdv A outer s H vs Q E hr h => ?_)
  · obtain ⟨self, factor, shift, dx_self, rfl, _⟩ := h
    rfl
  · obtain ⟨self, factor, shift, dx_self, rfl, c0, c1, c2, c3, c4, c5, kont⟩ := h
    refine ⟨_, (pss_cons (ps_expr (Ow.pe_cdef (by rfl) T.k_Form.m T.cc_Form___init__.rd T.cc_Form___init__.cv T.d_Form___init__.F.kp (Ow.ok_Form___init__ T) (hr.mono (by decide : 3 ≤ 3)) T.d_Form___init__.b pass0 (pa_cons (pv 0) (pa_cons pe_int (pa_cons (pv 1) (pa_cons (pv 2) (pa_cons (pe_tup (pa_cons pe_str (pa_cons (pv 1) (pa_cons (pv 2) pa_nil)))) pa_nil)))))))
        (pss_one (ps_if (pt_cmpR op_eq (pv 2) pe_int (nomark _)) (pss_one ps_never) pss_nil))), ?_⟩
    refine ⟨_, rfl, ?_⟩
    refine ⟨_, rfl, ?_⟩
    refine ⟨_, rfl, ?_⟩
    refine ⟨_, rfl, ?_⟩
    refine ⟨_, rfl, ?_⟩
    refine ⟨by show 3 ≤ sizeLine; decide, fun p h_p => ?_⟩
    refine ⟨_, _, _, _, _, Ow.F_Form.Wide, _, rfl, (Ow.at_new h_p c0), (by first | (walk_at "o2")), (by first | (walk_at "o2")), (by first | (walk_at "o2")), (by first | (walk_at "o2")), (by first | (walk_at "o2")), (by first | (walk_at "o2")), fun Hn h1 h2 => ?_⟩
    refine ⟨_, rfl, ?_⟩
    refine ⟨rfl, ?_⟩
    refine ⟨_, rfl, ?_⟩
    refine Ow.ifeqi (fun h3 => ?_) (fun h3 => ?_)
    · exact ((by first | (walk_at "o2")) : False).elim
    · exact kont _ ((Ow.Fm.refl.same (Ow.same_new h_p)).trans h1) h2
theorem ok_Shifted___init__ (T : Tx K mg) : FnOk P w K mg base CX0 4 T.d_Shifted___init__.f T.d_Shifted___init__.fd ["self", "shift"] (sp_Shifted___init__ T) := by
  refine T.d_Shifted___init__.F.ok sc_Shifted___init__ (fun vs H Q E h => ?_) (fun cdv A outer s H vs Q E hr h => ?_)
  · obtain ⟨self, shift, dx_self, rfl, _⟩ := h
    rfl
  · obtain ⟨self, shift, dx_self, rfl, c0, c1, c2, kont⟩ := h
    refine ⟨_, (pss_one (ps_expr (Ow.pe_cdef (by rfl) T.k_Form.m T.cc_Form___init__.rd T.cc_Form___init__.cv T.d_Form___init__.F.kp (Ow.ok_Form___init__ T) (hr.mono (by decide : 3 ≤ 3)) T.d_Form___init__.b pass0 (pa_cons (pv 0) (pa_cons pe_int (pa_cons pe_int (pa_cons (pv 1) (pa_cons (pe_tup (pa_cons pe_str (pa_cons (pv 1) pa_nil))) pa_nil)))))))), ?_⟩
    refine ⟨_, rfl, ?_⟩
    refine ⟨_, rfl, ?_⟩
    refine ⟨_, rfl, ?_⟩
    refine ⟨by show 2 ≤ sizeLine; decide, fun p h_p => ?_⟩
    refine ⟨_, _, _, _, _, Ow.F_Form.Shifted, _, rfl, (Ow.at_new h_p c0), (by first | (walk_at "o2")), (by first | (walk_at "o2")), (by first | (walk_at "o2")), (by first | (walk_at "o2")), (by first | (walk_at "o2")), (by first | (walk_at "o2")), fun Hn h1 h2 => ?_⟩
    exact kont _ ((Ow.Fm.refl.same (Ow.same_new h_p)).trans h1) h2
theorem ok_Scaled___init__ (T : Tx K mg) : FnOk P w K mg base CX0 4 T.d_Scaled___init__.f T.d_Scaled___init__.fd ["self", "factor", "shift"] (sp_Scaled___init__ T) := by
  refine T.d_Scaled___init__.F.ok sc_Scaled___init__ (fun vs H Q E h => ?_) (fun cdv A outer s H vs Q E hr h => ?_)
  · obtain ⟨self, factor, shift, dx_self, rfl, _⟩ := h
    rfl
  · obtain ⟨self, factor, shift, dx_self, rfl, c0, c1, c2, c3, c4, kont⟩ := h
    refine ⟨_, (pss_one (ps_expr (Ow.pe_cdef (by rfl) T.k_Form.m T.cc_Form___init__.rd T.cc_Form___init__.cv T.d_Form___init__.F.kp (Ow.ok_Form___init__ T) (hr.mono (by decide : 3 ≤ 3)) T.d_Form___init__.b pass0 (pa_cons (pv 0) (pa_cons pe_int (pa_cons (pv 1) (pa_cons (pv 2) (pa_cons (pe_tup (pa_cons pe_str (pa_cons (pv 1) (pa_cons (pv 2) pa_nil)))) pa_nil)))))))), ?_⟩
    refine ⟨_, rfl, ?_⟩
    refine ⟨_, rfl, ?_⟩
    refine ⟨_, rfl, ?_⟩
    refine ⟨_, rfl, ?_⟩
    refine ⟨_, rfl, ?_⟩
    refine ⟨by show 3 ≤ sizeLine; decide, fun p h_p => ?_⟩
    refine ⟨_, _, _, _, _, Ow.F_Form.Scaled, _, rfl, (Ow.at_new h_p c0), (by first | (walk_at "o2")), (by first | (walk_at "o2")), (by first | (walk_at "o2")), (by first | (walk_at "o2")), (by first | (walk_at "o2")), (by first | (walk_at "o2")), fun Hn h1 h2 => ?_⟩
    exact kont _ ((Ow.Fm.refl.same (Ow.same_new h_p)).trans h1) h2
theorem ok_Early___init__ (T : Tx K mg) : FnOk P w K mg base CX0 4 T.d_Early___init__.f T.d_Early___init__.fd ["self", "early", "factor", "shift"] (sp_Early___init__ T) := by
  refine T.d_Early___init__.F.ok sc_Early___init__ (fun vs H Q E h => ?_) (fun cdv A outer s H vs Q E hr h => ?_)
  · obtain ⟨self, early, factor, shift, dx_self, rfl, _⟩ := h
    rfl
  · obtain ⟨self, early, factor, shift, dx_self, rfl, c0, c1, c2, c3, c4, c5, c6, kont⟩ := h
    refine ⟨_, (pss_one (ps_expr (Ow.pe_cdef (by rfl) T.k_Form.m T.cc_Form___init__.rd T.cc_Form___init__.cv T.d_Form___init__.F.kp (Ow.ok_Form___init__ T) (hr.mono (by decide : 3 ≤ 3)) T.d_Form___init__.b pass0 (pa_cons (pv 0) (pa_cons (pv 1) (pa_cons (pv 2) (pa_cons (pv 3) (pa_cons (pe_tup (pa_cons pe_str (pa_cons (pv 1) (pa_cons (pv 2) (pa_cons (pv 3) pa_nil))))) pa_nil)))))))), ?_⟩
    refine ⟨_, rfl, ?_⟩
    refine ⟨_, rfl, ?_⟩
    refine ⟨_, rfl, ?_⟩
    refine ⟨_, rfl, ?_⟩
    refine ⟨_, rfl, ?_⟩
    refine ⟨_, rfl, ?_⟩
    refine ⟨_, rfl, ?_⟩
    refine ⟨by show 4 ≤ sizeLine; decide, fun p h_p => ?_⟩
    refine ⟨_, _, _, _, _, Ow.F_Form.Early, _, rfl, (Ow.at_new h_p c0), (by first | (walk_at "o2")), (by first | (walk_at "o2")), (by first | (walk_at "o2")), (by first | (walk_at "o2")), (by first | (walk_at "o2")), (by first | (walk_at "o2")), fun Hn h1 h2 => ?_⟩
    exact kont _ ((Ow.Fm.refl.same (Ow.same_new h_p)).trans h1) h2
theorem ok_More___init__ (T : Tx K mg) : FnOk P w K mg base CX0 4 T.d_More___init__.f T.d_More___init__.fd ["self", "factor", "shift"] (sp_More___init__ T) := by
  refine T.d_More___init__.F.ok sc_More___init__ (fun vs H Q E h => ?_) (fun cdv A outer s H vs Q E hr h => ?_)
  · obtain ⟨self, factor, shift, dx_self, rfl, _⟩ := h
    rfl
  · obtain ⟨self, factor, shift, dx_self, rfl, c0, c1, c2, c3, c4, kont⟩ := h
    refine ⟨_, (pss_one (ps_expr (Ow.pe_cdef (by rfl) T.k_Form.m T.cc_Form___init__.rd T.cc_Form___init__.cv T.d_Form___init__.F.kp (Ow.ok_Form___init__ T) (hr.mono (by decide : 3 ≤ 3)) T.d_Form___init__.b pass0 (pa_cons (pv 0) (pa_cons pe_int (pa_cons (pv 1) (pa_cons (pv 2) (pa_cons (pe_tup (pa_cons pe_str (pa_cons (pv 1) (pa_cons (pv 2) pa_nil)))) pa_nil)))))))), ?_⟩
    refine ⟨_, rfl, ?_⟩
    refine ⟨_, rfl, ?_⟩
    refine ⟨_, rfl, ?_⟩
    refine ⟨_, rfl, ?_⟩
    refine ⟨_, rfl, ?_⟩
    refine ⟨by show 3 ≤ sizeLine; decide, fun p h_p => ?_⟩
    refine ⟨_, _, _, _, _, Ow.F_Form.More, _, rfl, (Ow.at_new h_p c0), (by first | (walk_at "o2")), (by first | (walk_at "o2")), (by first | (walk_at "o2")), (by first | (walk_at "o2")), (by first | (walk_at "o2")), (by first | (walk_at "o2")), fun Hn h1 h2 => ?_⟩
    exact kont _ ((Ow.Fm.refl.same (Ow.same_new h_p)).trans h1) h2
theorem ok_l_make (T : Tx K mg) : FnOk P w K mg base CX0 6 T.d_l_make.f T.d_l_make.fd ["_law_told"] (sp_l_make T) := by
  refine T.d_l_make.F.ok sc_l_make (fun vs H Q E h => ?_) (fun cdv A outer s H vs Q E hr h => ?_)
  · obtain ⟨told, fm, rfl, _⟩ := h
    rfl
  · obtain ⟨told, fm, rfl, c0, c1, kont⟩ := h
    refine ⟨_, (pss_cons (ps_if (pt_cmpR op_eq (pe_ix ix_tup (pv 0) pe_int (fun _ _ => rfl)) pe_str (nomark _)) (pss_one (ps_ret (pe_make T.mk_Shifted (Ow.ok_Shifted___init__ T) (hr.mono (by decide : 5 ≤ 5)) (by rfl) T.k_Shifted.m T.d_Shifted___init__.b .nil pass0 (pa_cons (pe_ix ix_tup (pv 0) pe_int (fun _ _ => rfl)) pa_nil)))) pss_nil)
        (pss_cons (ps_if (pt_cmpR op_eq (pe_ix ix_tup (pv 0) pe_int (fun _ _ => rfl)) pe_str (nomark _)) (pss_one (ps_ret (pe_make T.mk_Scaled (Ow.ok_Scaled___init__ T) (hr.mono (by decide : 5 ≤ 5)) (by rfl) T.k_Scaled.m T.d_Scaled___init__.b .nil pass0 (pa_cons (pe_ix ix_tup (pv 0) pe_int (fun _ _ => rfl)) (pa_cons (pe_ix ix_tup (pv 0) pe_int (fun _ _ => rfl)) pa_nil))))) pss_nil)
        (pss_cons (ps_if (pt_cmpR op_eq (pe_ix ix_tup (pv 0) pe_int (fun _ _ => rfl)) pe_str (nomark _)) (pss_one (ps_ret (pe_make T.mk_Early (Ow.ok_Early___init__ T) (hr.mono (by decide : 5 ≤ 5)) (by rfl) T.k_Early.m T.d_Early___init__.b .nil pass0 (pa_cons (pe_ix ix_tup (pv 0) pe_int (fun _ _ => rfl)) (pa_cons (pe_ix ix_tup (pv 0) pe_int (fun _ _ => rfl)) (pa_cons (pe_ix ix_tup (pv 0) pe_int (fun _ _ => rfl)) pa_nil)))))) pss_nil)
        (pss_cons (ps_if (pt_cmpR op_eq (pe_ix ix_tup (pv 0) pe_int (fun _ _ => rfl)) pe_str (nomark _)) (pss_one (ps_ret (pe_make T.mk_More (Ow.ok_More___init__ T) (hr.mono (by decide : 5 ≤ 5)) (by rfl) T.k_More.m T.d_More___init__.b .nil pass0 (pa_cons (pe_ix ix_tup (pv 0) pe_int (fun _ _ => rfl)) (pa_cons (pe_ix ix_tup (pv 0) pe_int (fun _ _ => rfl)) pa_nil))))) pss_nil)
        (pss_one (ps_ret (pe_make T.mk_Wide (Ow.ok_Wide___init__ T) (hr.mono (by decide : 5 ≤ 5)) (by rfl) T.k_Wide.m T.d_Wide___init__.b .nil pass0 (pa_cons (pe_ix ix_tup (pv 0) pe_int (fun _ _ => rfl)) (pa_cons (pe_ix ix_tup (pv 0) pe_int (fun _ _ => rfl)) pa_nil))))))))), ?_⟩
    rcases fm with ⟨fm_s⟩ | ⟨fm_f, fm_s_2⟩ | ⟨fm_e, fm_f_2, fm_s_3⟩ | ⟨fm_f_3, fm_s_4⟩ | ⟨fm_f_4, fm_s_5⟩
    · replace c0 : H told = some (.tup [.str ("shifted"), .int (fm_s)]) := c0
      simp only [Ow.FOk] at c1
      refine ⟨_, rfl, ?_⟩
      refine ⟨_, _, _, _, rfl, rfl, (SqT.of c0), (by first | rfl | decide), ?_⟩
      refine ⟨rfl, ?_⟩
      refine ⟨_, rfl, ?_⟩
      refine Ow.ifeqs (fun _ => ?_) (fun h => absurd rfl h)
      refine ⟨_, rfl, ?_⟩
      refine ⟨_, _, _, _, rfl, rfl, (SqT.of c0), (by first | rfl | decide), ?_⟩
      intro o dx h1 h2 h3
      refine ⟨_, _, _, rfl, upd_same, (by first | (walk_at "o2")), (by first | (walk_at "o2")), fun Hn h4 h5 => ?_⟩
      refine ⟨rfl, ?_⟩
      exact kont _ _ _ (Ow.same_frame ((Ow.same_new h2).trans (Ow.same_new (Ow.free2 h3 h1))) h4 h1) h1 h5
    · replace c0 : H told = some (.tup [.str ("scaled"), .int (fm_f), .int (fm_s_2)]) := c0
      simp only [Ow.FOk] at c1
      refine ⟨_, rfl, ?_⟩
      refine ⟨_, _, _, _, rfl, rfl, (SqT.of c0), (by first | rfl | decide), ?_⟩
      refine ⟨rfl, ?_⟩
      refine ⟨_, rfl, ?_⟩
      refine Ow.ifeqs (fun h => absurd h (by decide +kernel)) (fun _ => ?_)
      refine ⟨_, rfl, ?_⟩
      refine ⟨_, _, _, _, rfl, rfl, (SqT.of c0), (by first | rfl | decide), ?_⟩
      refine ⟨rfl, ?_⟩
      refine ⟨_, rfl, ?_⟩
      refine Ow.ifeqs (fun _ => ?_) (fun h => absurd rfl h)
      refine ⟨_, rfl, ?_⟩
      refine ⟨_, _, _, _, rfl, rfl, (SqT.of c0), (by first | rfl | decide), ?_⟩
      refine ⟨_, rfl, ?_⟩
      refine ⟨_, _, _, _, rfl, rfl, (SqT.of c0), (by first | rfl | decide), ?_⟩
      intro o_2 dx_2 h6 h7 h8
      refine ⟨_, _, _, _, rfl, upd_same, (by first | (walk_at "o2")), (by first | (walk_at "o2")), (by first | (walk_at "o2")), (by first | (walk_at "o2")), fun Hn_2 h9 h10 => ?_⟩
      refine ⟨rfl, ?_⟩
      exact kont _ _ _ (Ow.same_frame ((Ow.same_new h7).trans (Ow.same_new (Ow.free2 h8 h6))) h9 h6) h6 h10
    · replace c0 : H told = some (.tup [.str ("early"), .int (fm_e), .int (fm_f_2), .int (fm_s_3)]) := c0
      simp only [Ow.FOk] at c1
      refine ⟨_, rfl, ?_⟩
      refine ⟨_, _, _, _, rfl, rfl, (SqT.of c0), (by first | rfl | decide), ?_⟩
      refine ⟨rfl, ?_⟩
      refine ⟨_, rfl, ?_⟩
      refine Ow.ifeqs (fun h => absurd h (by decide +kernel)) (fun _ => ?_)
      refine ⟨_, rfl, ?_⟩
      refine ⟨_, _, _, _, rfl, rfl, (SqT.of c0), (by first | rfl | decide), ?_⟩
      refine ⟨rfl, ?_⟩
      refine ⟨_, rfl, ?_⟩
      refine Ow.ifeqs (fun h => absurd h (by decide +kernel)) (fun _ => ?_)
      refine ⟨_, rfl, ?_⟩
      refine ⟨_, _, _, _, rfl, rfl, (SqT.of c0), (by first | rfl | decide), ?_⟩
      refine ⟨rfl, ?_⟩
      refine ⟨_, rfl, ?_⟩
      refine Ow.ifeqs (fun _ => ?_) (fun h => absurd rfl h)
      refine ⟨_, rfl, ?_⟩
      refine ⟨_, _, _, _, rfl, rfl, (SqT.of c0), (by first | rfl | decide), ?_⟩
      refine ⟨_, rfl, ?_⟩
      refine ⟨_, _, _, _, rfl, rfl, (SqT.of c0), (by first | rfl | decide), ?_⟩
      refine ⟨_, rfl, ?_⟩
      refine ⟨_, _, _, _, rfl, rfl, (SqT.of c0), (by first | rfl | decide), ?_⟩
      intro o_3 dx_3 h11 h12 h13
      refine ⟨_, _, _, _, _, rfl, upd_same, (by first | (walk_at "o2")), (by first | (walk_at "o2")), (by first | (walk_at "o2")), (by first | (walk_at "o2")), (by first | (walk_at "o2")), (by first | (walk_at "o2")), fun Hn_3 h14 h15 => ?_⟩
      refine ⟨rfl, ?_⟩
      exact kont _ _ _ (Ow.same_frame ((Ow.same_new h12).trans (Ow.same_new (Ow.free2 h13 h11))) h14 h11) h11 h15
    · replace c0 : H told = some (.tup [.str ("more"), .int (fm_f_3), .int (fm_s_4)]) := c0
      simp only [Ow.FOk] at c1
      refine ⟨_, rfl, ?_⟩
      refine ⟨_, _, _, _, rfl, rfl, (SqT.of c0), (by first | rfl | decide), ?_⟩
      refine ⟨rfl, ?_⟩
      refine ⟨_, rfl, ?_⟩
      refine Ow.ifeqs (fun h => absurd h (by decide +kernel)) (fun _ => ?_)
      refine ⟨_, rfl, ?_⟩
      refine ⟨_, _, _, _, rfl, rfl, (SqT.of c0), (by first | rfl | decide), ?_⟩
      refine ⟨rfl, ?_⟩
      refine ⟨_, rfl, ?_⟩
      refine Ow.ifeqs (fun h => absurd h (by decide +kernel)) (fun _ => ?_)
      refine ⟨_, rfl, ?_⟩
      refine ⟨_, _, _, _, rfl, rfl, (SqT.of c0), (by first | rfl | decide), ?_⟩
      refine ⟨rfl, ?_⟩
      refine ⟨_, rfl, ?_⟩
      refine Ow.ifeqs (fun h => absurd h (by decide +kernel)) (fun _ => ?_)
      refine ⟨_, rfl, ?_⟩
      refine ⟨_, _, _, _, rfl, rfl, (SqT.of c0), (by first | rfl | decide), ?_⟩
      refine ⟨rfl, ?_⟩
      refine ⟨_, rfl, ?_⟩
      refine Ow.ifeqs (fun _ => ?_) (fun h => absurd rfl h)
      refine ⟨_, rfl, ?_⟩
      refine ⟨_, _, _, _, rfl, rfl, (SqT.of c0), (by first | rfl | decide), ?_⟩
      refine ⟨_, rfl, ?_⟩
      refine ⟨_, _, _, _, rfl, rfl, (SqT.of c0), (by first | rfl | decide), ?_⟩
      intro o_4 dx_4 h16 h17 h18
      refine ⟨_, _, _, _, rfl, upd_same, (by first | (walk_at "o2")), (by first | (walk_at "o2")), (by first | (walk_at "o2")), (by first | (walk_at "o2")), fun Hn_4 h19 h20 => ?_⟩
      refine ⟨rfl, ?_⟩
      exact kont _ _ _ (Ow.same_frame ((Ow.same_new h17).trans (Ow.same_new (Ow.free2 h18 h16))) h19 h16) h16 h20
    · replace c0 : H told = some (.tup [.str ("wide"), .int (fm_f_4), .int (fm_s_5)]) := c0
      simp only [Ow.FOk] at c1
      refine ⟨_, rfl, ?_⟩
      refine ⟨_, _, _, _, rfl, rfl, (SqT.of c0), (by first | rfl | decide), ?_⟩
      refine ⟨rfl, ?_⟩
      refine ⟨_, rfl, ?_⟩
      refine Ow.ifeqs (fun h => absurd h (by decide +kernel)) (fun _ => ?_)
      refine ⟨_, rfl, ?_⟩
      refine ⟨_, _, _, _, rfl, rfl, (SqT.of c0), (by first | rfl | decide), ?_⟩
      refine ⟨rfl, ?_⟩
      refine ⟨_, rfl, ?_⟩
      refine Ow.ifeqs (fun h => absurd h (by decide +kernel)) (fun _ => ?_)
      refine ⟨_, rfl, ?_⟩
      refine ⟨_, _, _, _, rfl, rfl, (SqT.of c0), (by first | rfl | decide), ?_⟩
      refine ⟨rfl, ?_⟩
      refine ⟨_, rfl, ?_⟩
      refine Ow.ifeqs (fun h => absurd h (by decide +kernel)) (fun _ => ?_)
      refine ⟨_, rfl, ?_⟩
      refine ⟨_, _, _, _, rfl, rfl, (SqT.of c0), (by first | rfl | decide), ?_⟩
      refine ⟨rfl, ?_⟩
      refine ⟨_, rfl, ?_⟩
      refine Ow.ifeqs (fun h => absurd h (by decide +kernel)) (fun _ => ?_)
      refine ⟨_, rfl, ?_⟩
      refine ⟨_, _, _, _, rfl, rfl, (SqT.of c0), (by first | rfl | decide), ?_⟩
      refine ⟨_, rfl, ?_⟩
      refine ⟨_, _, _, _, rfl, rfl, (SqT.of c0), (by first | rfl | decide), ?_⟩
      intro o_5 dx_5 h21 h22 h23
      refine ⟨_, _, _, _, rfl, upd_same, (by first | (walk_at "o2")), (by first | (walk_at "o2")), (by first | (walk_at "o2")), (by first | (walk_at "o2")), (by first | (walk_at "o2")), fun Hn_5 h24 h25 => ?_⟩
      refine ⟨rfl, ?_⟩
      exact kont _ _ _ (Ow.same_frame ((Ow.same_new h22).trans (Ow.same_new (Ow.free2 h23 h21))) h24 h21) h21 h25
theorem ok_l_other (T : Tx K mg) : FnOk P w K mg base CX0 3 T.d_l_other.f T.d_l_other.fd ["_law_state", "_law_width", "_law_d", "_law_early"] (sp_l_other T) := by
  refine T.d_l_other.F.ok sc_l_other (fun vs H Q E h => ?_) (fun cdv A outer s H vs Q E hr h => ?_)
  · obtain ⟨box, width, d, early, a, c, rfl, _⟩ := h
    rfl
  · obtain ⟨box, width, d, early, a, c, rfl, c0, c1, c2, c3, c4, c5, c6, kont⟩ := h
    have p32_width := Ow.pow2_le32 (w := width) (by omega)
    have p0_width := Ow.p2 width.toNat
    have hb := Ow.twos_lt (w := width) (t := early) (by omega) (by omega) (by omega) (by assumption)
    refine ⟨_, (pss_cons (ps_if (pt_cmpR op_eq (pe_call (Ow.ok_l_draw T) (hr.mono (by decide : 1 ≤ 2)) (by rfl) T.d_l_draw.m T.d_l_draw.F.kp T.d_l_draw.b .nil pass0 (pa_cons (pv 0) (pa_cons pe_int pa_nil))) pe_int (nomark _)) (pss_one (ps_ret (pe_tup (pa_cons (Ow.pe_nmi (pe_callB (call_min2 rfl) (by rfl) T.z_min (by decide +kernel) (pa_cons pe_int (pa_cons (pe_op op_add (pe_op op_add (pv 1) pe_int) (pe_call (Ow.ok_l_draw T) (hr.mono (by decide : 1 ≤ 2)) (by rfl) T.d_l_draw.m T.d_l_draw.F.kp T.d_l_draw.b .nil pass0 (pa_cons (pv 0) (pa_cons pe_int pa_nil)))) pa_nil)))) (pa_cons (pv 2) pa_nil))))) pss_nil)
        (pss_cons (ps_set (i := 1) sc_l_other.nd rfl (Or.inl rfl) (Ow.pe_nmi (pe_callB (call_max2 rfl) (by rfl) T.z_max (by decide +kernel) (pa_cons (pe_op op_add pe_int (pe_call (Ow.ok_l_draw T) (hr.mono (by decide : 1 ≤ 2)) (by rfl) T.d_l_draw.m T.d_l_draw.F.kp T.d_l_draw.b .nil pass0 (pa_cons (pv 0) (pa_cons pe_int pa_nil)))) (pa_cons (pe_op op_add (pv 3) pe_int) pa_nil)))))
        (pss_cons (ps_set (i := 2) sc_l_other.nd rfl (Or.inl rfl) (pe_call (Ow.ok_l_divisor T) (hr.mono (by decide : 2 ≤ 2)) (by rfl) T.d_l_divisor.m T.d_l_divisor.F.kp T.d_l_divisor.b .nil pass0 (pa_cons (pv 0) (pa_cons (pv 1) pa_nil))))
        (pss_one (ps_ret (pe_tup (pa_cons (pv 1) (pa_cons (pe_op Ow.op_shlN (Ow.pe_nmi (pe_callB (call_max2 rfl) (by rfl) T.z_max (by decide +kernel) (pa_cons (pe_op Ow.op_shrN (pv 2) (pv 3)) (pa_cons pe_int pa_nil)))) (pv 3)) pa_nil)))))))), ?_⟩
    refine ⟨_, rfl, ?_⟩
    refine ⟨_, _, _, _, rfl, c0, (by first | (walk_at "o2")), (by first | (walk_at "o2")), fun t a2 c2 h1 h2 => ?_⟩
    refine ⟨rfl, ?_⟩
    refine ⟨_, rfl, ?_⟩
    refine Ow.ifeqi (fun h3 => ?_) (fun h3 => ?_)
    · refine ⟨_, rfl, ?_⟩
      refine ⟨_, _, rfl, rfl, ?_⟩
      refine ⟨_, rfl, ?_⟩
      refine ⟨_, _, _, _, rfl, upd_same, (by first | (walk_at "o2")), (by first | (walk_at "o2")), fun t_2 a2_2 c2_2 h4 h5 => ?_⟩
      refine ⟨_, _, rfl, rfl, ?_⟩
      refine ⟨_, _, rfl, ?_⟩
      refine ⟨_, rfl, fun m h_m => ?_⟩
      have hm_m := Ow.min_ite h_m
      refine ⟨_, rfl, ?_⟩
      refine ⟨by show 2 ≤ sizeLine; decide, fun p h_p => ?_⟩
      try have e4 := Ow.pow2_mono (a := width.toNat) (b := m.toNat) (by omega)
      try have e5 := Ow.oth h_q hm_m_3 h_s (by assumption) (by assumption) (by omega) (by omega)
      exact kont m d a2_2 c2_2 (by first | (walk_at "o2") | exact e5.1 | exact e5.2.1 | exact e5.2.2) (by first | (walk_at "o2") | exact e5.1 | exact e5.2.1 | exact e5.2.2) (by first | (walk_at "o2") | exact e5.1 | exact e5.2.1 | exact e5.2.2) (by first | (walk_at "o2") | exact e5.1 | exact e5.2.1 | exact e5.2.2) (by first | (walk_at "o2") | exact e5.1 | exact e5.2.1 | exact e5.2.2) _ _ (((Ow.Fm.refl.mut).mut).same (Ow.same_new h_p)) (Ow.at_new h_p upd_same) (Ow.Fm.free ((Ow.Fm.refl.mut).mut) upd_same h_p) upd_same
    · refine ⟨_, rfl, ?_⟩
      refine ⟨_, _, _, _, rfl, upd_same, (by first | (walk_at "o2")), (by first | (walk_at "o2")), fun t_3 a2_3 c2_3 h6 h7 => ?_⟩
      refine ⟨_, _, rfl, rfl, ?_⟩
      refine ⟨_, rfl, ?_⟩
      refine ⟨_, _, rfl, rfl, ?_⟩
      refine ⟨_, _, rfl, ?_⟩
      refine ⟨_, rfl, fun m_2 h_m_2 => ?_⟩
      have hm_m_2 := Ow.max_ite h_m_2
      refine ⟨_, rfl, ?_⟩
      refine ⟨_, rfl, ?_⟩
      refine ⟨_, _, _, _, rfl, upd_same, (by first | (walk_at "o2")), (by first | (walk_at "o2")), fun l_d a2_4 c2_4 h8 h9 => ?_⟩
      have hq := Ow.quo_le (d := l_d) (e := early) (by omega)
      have p33 := Ow.pow2_le32 (w := m_2) (by omega)
      refine ⟨_, rfl, ?_⟩
      refine ⟨_, rfl, ?_⟩
      refine ⟨_, rfl, ?_⟩
      refine ⟨_, _, rfl, rfl, (by first | (walk_at "o2")), fun q h_q => ?_⟩
      refine ⟨_, _, rfl, ?_⟩
      refine ⟨_, rfl, fun m_3 h_m_3 => ?_⟩
      have hm_m_3 := Ow.max_ite h_m_3
      refine ⟨_, rfl, ?_⟩
      refine ⟨_, _, rfl, rfl, (by first | (walk_at "o2")), fun s h_s => ?_⟩
      refine ⟨by show 2 ≤ sizeLine; decide, fun p_2 h_p_2 => ?_⟩
      try have e4 := Ow.pow2_mono (a := width.toNat) (b := m.toNat) (by omega)
      try have e5 := Ow.oth h_q hm_m_3 h_s (by assumption) (by assumption) (by omega) (by omega)
      exact kont m_2 s a2_4 c2_4 (by first | (walk_at "o2") | exact e5.1 | exact e5.2.1 | exact e5.2.2) (by first | (walk_at "o2") | exact e5.1 | exact e5.2.1 | exact e5.2.2) (by first | (walk_at "o2") | exact e5.1 | exact e5.2.1 | exact e5.2.2) (by first | (walk_at "o2") | exact e5.1 | exact e5.2.1 | exact e5.2.2) (by first | (walk_at "o2") | exact e5.1 | exact e5.2.1 | exact e5.2.2) _ _ ((((Ow.Fm.refl.mut).mut).mut).same (Ow.same_new h_p_2)) (Ow.at_new h_p_2 upd_same) (Ow.Fm.free (((Ow.Fm.refl.mut).mut).mut) upd_same h_p_2) upd_same
theorem ok_need_width (T : Tx K mg) : FnOk P w K mg base CX0 3 T.d_need_width.f T.d_need_width.fd ["width"] (sp_need_width T) := by
  refine T.d_need_width.F.ok sc_need_width (fun vs H Q E h => ?_) (fun cdv A outer s H vs Q E hr h => ?_)
  · obtain ⟨width, rfl, _⟩ := h
    rfl
  · obtain ⟨width, rfl, c0, c1, kont⟩ := h
    have p32_width := Ow.pow2_le32 (w := width) (by omega)
    have p0_width := Ow.p2 width.toNat
    refine ⟨_, (pss_one (ps_if (PW.pt (pw_or (pt_not (pt_val (pe_call (Ow.ok_is_whole T) (hr.mono (by decide : 1 ≤ 2)) (by rfl) T.d_is_whole.m T.d_is_whole.F.kp T.d_is_whole.b .nil pass0 (pa_cons (pv 0) pa_nil)))) (pw_or1 (pt_not (pt_chain op_le op_le (pe_glob (v := .int (4)) rfl T.g_LEAST_WIDTH.choose_spec ⟨_, rfl⟩) (pv 0) (pe_glob (v := .int (32)) rfl T.g_GREATEST_WIDTH.choose_spec ⟨_, rfl⟩)))))) (pss_one ps_never) pss_nil)), ?_⟩
    refine ⟨_, rfl, ?_⟩
    refine Or.inl ?_
    refine ⟨_, rfl, ?_⟩
    refine ⟨_, rfl, ?_⟩
    refine iteF ?_
    refine ⟨_, rfl, ?_⟩
    refine ⟨_, _, rfl, rfl, ?_⟩
    refine ⟨_, rfl, ?_⟩
    refine Ow.ifd (fun h1 => ?_) (fun h1 => ?_)
    · refine ⟨_, _, rfl, rfl, ?_⟩
      refine ⟨_, rfl, ?_⟩
      refine Ow.ifnd (fun h2 => ?_) (fun h2 => ?_)
      · exact ((by first | (walk_at "o2")) : False).elim
      · exact kont
    · refine ⟨_, rfl, ?_⟩
      refine iteT ?_
      exact ((by first | (walk_at "o2")) : False).elim
theorem ok_need_divisor (T : Tx K mg) : FnOk P w K mg base CX0 4 T.d_need_divisor.f T.d_need_divisor.fd ["width", "d"] (sp_need_divisor T) := by
  refine T.d_need_divisor.F.ok sc_need_divisor (fun vs H Q E h => ?_) (fun cdv A outer s H vs Q E hr h => ?_)
  · obtain ⟨width, d, rfl, _⟩ := h
    rfl
  · obtain ⟨width, d, rfl, c0, c1, c2, c3, kont⟩ := h
    have p32_width := Ow.pow2_le32 (w := width) (by omega)
    have p0_width := Ow.p2 width.toNat
    refine ⟨_, (pss_cons (ps_expr (pe_call (Ow.ok_need_width T) (hr.mono (by decide : 3 ≤ 3)) (by rfl) T.d_need_width.m T.d_need_width.F.kp T.d_need_width.b .nil pass0 (pa_cons (pv 0) pa_nil)))
        (pss_one (ps_if (pt_not (pt_val (pe_call (Ow.ok_is_between T) (hr.mono (by decide : 2 ≤ 3)) (by rfl) T.d_is_between.m T.d_is_between.F.kp T.d_is_between.b .nil pass0 (pa_cons (pv 1) (pa_cons pe_int (pa_cons (pe_op op_sub (pe_op Ow.op_shl1 pe_int (pv 0)) pe_int) pa_nil)))))) (pss_one ps_never) pss_nil))), ?_⟩
    refine ⟨_, rfl, ?_⟩
    refine ⟨_, rfl, (by first | (walk_at "o2")), (by first | (walk_at "o2")), ?_⟩
    refine ⟨_, rfl, ?_⟩
    refine ⟨_, rfl, ?_⟩
    refine ⟨_, rfl, rfl, (by first | (walk_at "o2")), fun B h_B h0_B => ?_⟩
    refine ⟨_, _, rfl, rfl, ?_⟩
    refine Or.inl ?_
    refine ⟨_, _, _, rfl, (by first | (walk_at "o2")), (by first | (walk_at "o2")), ?_⟩
    refine ⟨_, rfl, ?_⟩
    refine iteF ?_
    exact kont
theorem ok_Shifted_numbers_in (T : Tx K mg) : FnOk P w K mg base CX0 4 T.d_Shifted_numbers_in.f T.d_Shifted_numbers_in.fd ["self", "width"] (sp_Shifted_numbers_in T) := by
  refine T.d_Shifted_numbers_in.F.ok sc_Shifted_numbers_in (fun vs H Q E h => ?_) (fun cdv A outer s H vs Q E hr h => ?_)
  · obtain ⟨self, width, early, factor, shift, dx_self, rfl, _⟩ := h
    rfl
  · obtain ⟨self, width, early, factor, shift, dx_self, rfl, c0, c1, c2, c3, c4, c5, c6, c7, c8, kont⟩ := h
    have p32_width := Ow.pow2_le32 (w := width) (by omega)
    have p0_width := Ow.p2 width.toNat
    refine ⟨_, (pss_cons (ps_expr (pe_call (Ow.ok_need_width T) (hr.mono (by decide : 3 ≤ 3)) (by rfl) T.d_need_width.m T.d_need_width.F.kp T.d_need_width.b .nil pass0 (pa_cons (pv 1) pa_nil)))
        (pss_one (ps_ret (pe_tup (pa_cons pe_int (pa_cons pe_int (pa_cons pe_int (pa_cons (pe_fld (pv 0) rfl) pa_nil)))))))), ?_⟩
    refine ⟨_, rfl, ?_⟩
    refine ⟨_, rfl, (by first | (walk_at "o2")), (by first | (walk_at "o2")), ?_⟩
    refine ⟨_, rfl, ?_⟩
    refine ⟨_, _, _, _, V.int (shift), rfl, c2, T.k_Shifted.cl, T.na_Shifted_shift, rfl, ?_⟩
    refine ⟨by show 4 ≤ sizeLine; decide, fun p h_p => ?_⟩
    exact kont _ _ (Ow.same_new h_p) h_p upd_same
theorem ok_Form_numbers_in (T : Tx K mg) : FnOk P w K mg base CX0 4 T.d_Form_numbers_in.f T.d_Form_numbers_in.fd ["self", "width"] (sp_Form_numbers_in T) := by
  refine T.d_Form_numbers_in.F.ok sc_Form_numbers_in (fun vs H Q E h => ?_) (fun cdv A outer s H vs Q E hr h => ?_)
  · obtain ⟨self, width, early, factor, shift, wy, dx_self, rfl, _⟩ := h
    rfl
  · obtain ⟨self, width, early, factor, shift, wy, dx_self, rfl, c0, c1, c2, c3, c4, c5, c6, c7, c8, kont⟩ := h
    have p32_width := Ow.pow2_le32 (w := width) (by omega)
    have p0_width := Ow.p2 width.toNat
    refine ⟨_, (pss_cons (ps_expr (pe_call (Ow.ok_need_width T) (hr.mono (by decide : 3 ≤ 3)) (by rfl) T.d_need_width.m T.d_need_width.F.kp T.d_need_width.b .nil pass0 (pa_cons (pv 1) pa_nil)))
        (pss_one (ps_ret (pe_tup (pa_cons (pe_fld (pv 0) rfl) (pa_cons (pe_fld (pv 0) rfl) (pa_cons pe_int (pa_cons (pe_op op_add (pv 1) (pe_fld (pv 0) rfl)) pa_nil)))))))), ?_⟩
    refine ⟨_, rfl, ?_⟩
    refine ⟨_, rfl, (by first | (walk_at "o2")), (by first | (walk_at "o2")), ?_⟩
    refine ⟨_, rfl, ?_⟩
    refine ⟨_, _, _, _, V.int (early), rfl, c2, (Ow.kcl_Form T wy), (Ow.kna_Form_early T wy), rfl, ?_⟩
    refine ⟨_, rfl, ?_⟩
    refine ⟨_, _, _, _, V.int (factor), rfl, c2, (Ow.kcl_Form T wy), (Ow.kna_Form_factor T wy), rfl, ?_⟩
    refine ⟨_, rfl, ?_⟩
    refine ⟨_, rfl, ?_⟩
    refine ⟨_, _, _, _, V.int (shift), rfl, c2, (Ow.kcl_Form T wy), (Ow.kna_Form_shift T wy), rfl, ?_⟩
    refine ⟨_, _, rfl, rfl, ?_⟩
    refine ⟨by show 4 ≤ sizeLine; decide, fun p h_p => ?_⟩
    exact kont _ _ (Ow.same_new h_p) h_p upd_same
theorem ok_More_numbers_in (T : Tx K mg) : FnOk P w K mg base CX0 4 T.d_More_numbers_in.f T.d_More_numbers_in.fd ["self", "width"] (sp_More_numbers_in T) := by
  refine T.d_More_numbers_in.F.ok sc_More_numbers_in (fun vs H Q E h => ?_) (fun cdv A outer s H vs Q E hr h => ?_)
  · obtain ⟨self, width, early, factor, shift, dx_self, rfl, _⟩ := h
    rfl
  · obtain ⟨self, width, early, factor, shift, dx_self, rfl, c0, c1, c2, c3, c4, c5, c6, c7, c8, kont⟩ := h
    have p32_width := Ow.pow2_le32 (w := width) (by omega)
    have p0_width := Ow.p2 width.toNat
    refine ⟨_, (pss_cons (ps_expr (pe_call (Ow.ok_need_width T) (hr.mono (by decide : 3 ≤ 3)) (by rfl) T.d_need_width.m T.d_need_width.F.kp T.d_need_width.b .nil pass0 (pa_cons (pv 1) pa_nil)))
        (pss_one (ps_ret (pe_tup (pa_cons pe_int (pa_cons (pe_fld (pv 0) rfl) (pa_cons (pe_fld (pv 0) rfl) (pa_cons (pe_op op_add (pv 1) (pe_fld (pv 0) rfl)) pa_nil)))))))), ?_⟩
    refine ⟨_, rfl, ?_⟩
    refine ⟨_, rfl, (by first | (walk_at "o2")), (by first | (walk_at "o2")), ?_⟩
    refine ⟨_, rfl, ?_⟩
    refine ⟨_, _, _, _, V.int (factor), rfl, c2, T.k_More.cl, T.na_More_factor, rfl, ?_⟩
    refine ⟨_, rfl, ?_⟩
    refine ⟨_, _, _, _, V.int (factor), rfl, c2, T.k_More.cl, T.na_More_factor, rfl, ?_⟩
    refine ⟨_, rfl, ?_⟩
    refine ⟨_, rfl, ?_⟩
    refine ⟨_, _, _, _, V.int (shift), rfl, c2, T.k_More.cl, T.na_More_shift, rfl, ?_⟩
    refine ⟨_, _, rfl, rfl, ?_⟩
    refine ⟨by show 4 ≤ sizeLine; decide, fun p h_p => ?_⟩
    exact kont _ _ (Ow.same_new h_p) h_p upd_same
theorem ok_Wide_numbers_in (T : Tx K mg) : FnOk P w K mg base CX0 4 T.d_Wide_numbers_in.f T.d_Wide_numbers_in.fd ["self", "width"] (sp_Wide_numbers_in T) := by
  refine T.d_Wide_numbers_in.F.ok sc_Wide_numbers_in (fun vs H Q E h => ?_) (fun cdv A outer s H vs Q E hr h => ?_)
  · obtain ⟨self, width, early, factor, shift, dx_self, rfl, _⟩ := h
    rfl
  · obtain ⟨self, width, early, factor, shift, dx_self, rfl, c0, c1, c2, c3, c4, c5, c6, c7, c8, kont⟩ := h
    have p32_width := Ow.pow2_le32 (w := width) (by omega)
    have p0_width := Ow.p2 width.toNat
    refine ⟨_, (pss_cons (ps_expr (pe_call (Ow.ok_need_width T) (hr.mono (by decide : 3 ≤ 3)) (by rfl) T.d_need_width.m T.d_need_width.F.kp T.d_need_width.b .nil pass0 (pa_cons (pv 1) pa_nil)))
        (pss_one (ps_ret (pe_tup (pa_cons pe_int (pa_cons (pe_op op_add (pe_op Ow.op_shl1 pe_int (pv 1)) (pe_fld (pv 0) rfl)) (pa_cons pe_int (pa_cons (pe_op op_add (pv 1) (pe_fld (pv 0) rfl)) pa_nil)))))))), ?_⟩
    refine ⟨_, rfl, ?_⟩
    refine ⟨_, rfl, (by first | (walk_at "o2")), (by first | (walk_at "o2")), ?_⟩
    refine ⟨_, rfl, ?_⟩
    refine ⟨_, rfl, rfl, (by first | (walk_at "o2")), fun B h_B h0_B => ?_⟩
    refine ⟨_, rfl, ?_⟩
    refine ⟨_, _, _, _, V.int (factor), rfl, c2, T.k_Wide.cl, T.na_Wide_factor, rfl, ?_⟩
    refine ⟨_, _, rfl, rfl, ?_⟩
    refine ⟨_, rfl, ?_⟩
    refine ⟨_, rfl, ?_⟩
    refine ⟨_, _, _, _, V.int (shift), rfl, c2, T.k_Wide.cl, T.na_Wide_shift, rfl, ?_⟩
    refine ⟨_, _, rfl, rfl, ?_⟩
    refine ⟨by show 4 ≤ sizeLine; decide, fun p h_p => ?_⟩
    subst_vars
    exact kont _ _ (Ow.same_new h_p) h_p upd_same
theorem ok_twos_in (T : Tx K mg) : FnOk P w K mg base CX0 1 T.d_twos_in.f T.d_twos_in.fd ["d"] (sp_twos_in T) := by
  refine T.d_twos_in.F.ok sc_twos_in (fun vs H Q E h => ?_) (fun cdv A outer s H vs Q E hr h => ?_)
  · obtain ⟨d, rfl, _⟩ := h
    rfl
  · obtain ⟨d, rfl, c0, c1, kont⟩ := h
    refine ⟨_, (pss_cons (ps_set (i := 1) sc_twos_in.nd rfl (Or.inl rfl) pe_int)
        (pss_cons (ps_while PassesOwn.never (pt_cmpR op_eq (pe_op Ow.op_mask (pe_op Ow.op_shrN (pv 0) (pv 1)) pe_int) pe_int (nomark _)) (pss_one (ps_aug (i := 1) sc_twos_in.nd rfl (Or.inl rfl) pe_int ip_add)))
        (pss_one (ps_ret (pv 1))))), ?_⟩
    obtain ⟨Wi, h1⟩ : ∃ W : Hp → Nat → L2.St → Hp → Prop, W = fun H0 m σ2 H2 => ∃ (t : Int), m = (d / 2 ^ t.toNat).toNat ∧ σ2 = [some (.int (d)), some (.int (t))] ∧ H2 = H0 ∧ (0 ≤ t) ∧ (1 ≤ d / 2 ^ t.toNat) ∧ (d % 2 ^ t.toNat = 0) ∧ True := ⟨_, rfl⟩
    refine ⟨Wi _, ⟨_, by rw [h1]; exact ⟨_, rfl, rfl, rfl, (by first | omega | (show 1 ≤ d / 1; omega) | (show d % 1 = 0; omega)), (by first | omega | (show 1 ≤ d / 1; omega) | (show d % 1 = 0; omega)), (by first | omega | (show 1 ≤ d / 1; omega) | (show d % 1 = 0; omega)), trivial⟩⟩, ?_⟩
    intro m σ2 Hn h3
    rw [h1] at h3
    obtain ⟨t, rfl, rfl, rfl, h4, h5, h6, _⟩ := h3
    refine ⟨_, rfl, ?_⟩
    refine ⟨_, rfl, ?_⟩
    refine ⟨_, _, rfl, rfl, (by first | (walk_at "o2")), fun q h_q => ?_⟩
    refine ⟨_, _, 1, rfl, rfl, by decide, fun r (h_r : r = q % 2) h0_r (h1_r : r < 2) => ?_⟩
    refine ⟨rfl, ?_⟩
    refine ⟨_, rfl, ?_⟩
    refine Ow.ifeqi (fun h7 => ?_) (fun h7 => ?_)
    · refine ⟨fun σ3 H3 => ∃ m2, m2 < (d / 2 ^ t.toNat).toNat ∧ Wi _ m2 σ3 H3, fun _ _ z => z, ?_⟩
      refine ⟨_, rfl, ?_⟩
      refine ⟨_, _, rfl, rfl, ?_⟩
      refine ⟨_, ?_, by rw [h1]; exact ⟨((t + 1)), rfl, rfl, rfl, (by first | omega | (rw [Ow.half_step (by omega)]; omega) | exact Ow.twos_step (by omega) (by assumption) (by omega)), (by first | omega | (rw [Ow.half_step (by omega)]; omega) | exact Ow.twos_step (by omega) (by assumption) (by omega)), (by first | omega | (rw [Ow.half_step (by omega)]; omega) | exact Ow.twos_step (by omega) (by assumption) (by omega)), trivial⟩⟩
      rw [Ow.half_step (by omega)]; omega
    · refine ⟨_, rfl, ?_⟩
      exact kont t (by first | omega | exact fun k k0 hk => Ow.tw_le (by omega) (by omega) (by assumption) hk k0) (by first | omega | exact fun k k0 hk => Ow.tw_le (by omega) (by omega) (by assumption) hk k0)
theorem ok_numbers_for (T : Tx K mg) : FnOk P w K mg base CX0 5 T.d_numbers_for.f T.d_numbers_for.fd ["width", "d", "form"] (sp_numbers_for T) := by
  refine T.d_numbers_for.F.ok sc_numbers_for (fun vs H Q E h => ?_) (fun cdv A outer s H vs Q E hr h => ?_)
  · obtain ⟨width, d, form, fm, dx_form, rfl, _⟩ := h
    rfl
  · obtain ⟨width, d, form, fm, dx_form, rfl, c0, c1, c2, c3, c4, c5, c6, kont⟩ := h
    have p32_width := Ow.pow2_le32 (w := width) (by omega)
    have p0_width := Ow.p2 width.toNat
    refine ⟨_, (pss_cons (ps_expr (pe_call (Ow.ok_need_divisor T) (hr.mono (by decide : 4 ≤ 4)) (by rfl) T.d_need_divisor.m T.d_need_divisor.F.kp T.d_need_divisor.b .nil pass0 (pa_cons (pv 0) (pa_cons (pv 1) pa_nil))))
        (pss_cons (ps_set (i := 3) sc_numbers_for.nd rfl (Or.inl rfl) (Ow.pe_methA (R := fun C sp => (C = T.k_Shifted.C ∧ sp = sp_Shifted_numbers_in T) ∨ (C = T.k_Scaled.C ∧ sp = sp_Form_numbers_in T) ∨ (C = T.k_Early.C ∧ sp = sp_Form_numbers_in T) ∨ (C = T.k_More.C ∧ sp = sp_More_numbers_in T) ∨ (C = T.k_Wide.C ∧ sp = sp_Wide_numbers_in T)) (pv 2) (Ow.mal_or (Ow.mal_one ⟨_, _, _, _, T.k_Shifted.cl, T.mt_Shifted_numbers_in, Ow.ok_Shifted_numbers_in T, hr.mono (by decide : 4 ≤ 4), T.d_Shifted_numbers_in.b⟩) (Ow.mal_or (Ow.mal_one ⟨_, _, _, _, T.k_Scaled.cl, T.mt_Scaled_numbers_in, Ow.ok_Form_numbers_in T, hr.mono (by decide : 4 ≤ 4), T.d_Form_numbers_in.b⟩) (Ow.mal_or (Ow.mal_one ⟨_, _, _, _, T.k_Early.cl, T.mt_Early_numbers_in, Ow.ok_Form_numbers_in T, hr.mono (by decide : 4 ≤ 4), T.d_Form_numbers_in.b⟩) (Ow.mal_or (Ow.mal_one ⟨_, _, _, _, T.k_More.cl, T.mt_More_numbers_in, Ow.ok_More_numbers_in T, hr.mono (by decide : 4 ≤ 4), T.d_More_numbers_in.b⟩) (Ow.mal_one ⟨_, _, _, _, T.k_Wide.cl, T.mt_Wide_numbers_in, Ow.ok_Wide_numbers_in T, hr.mono (by decide : 4 ≤ 4), T.d_Wide_numbers_in.b⟩))))) pass0 (pa_cons (pv 0) pa_nil)))
        (pss_cons (ps_if (pt_cmpR op_gt (pe_ix ix_tup (pv 3) pe_int (fun _ _ => rfl)) (pe_call (Ow.ok_twos_in T) (hr.mono (by decide : 1 ≤ 4)) (by rfl) T.d_twos_in.m T.d_twos_in.F.kp T.d_twos_in.b .nil pass0 (pa_cons (pv 1) pa_nil)) (nomark _)) (pss_one ps_never) pss_nil)
        (pss_one (ps_ret (pv 3)))))), ?_⟩
    rcases fm with ⟨fm_s⟩ | ⟨fm_f, fm_s_2⟩ | ⟨fm_e, fm_f_2, fm_s_3⟩ | ⟨fm_f_3, fm_s_4⟩ | ⟨fm_f_4, fm_s_5⟩
    · replace c4 : H form = some (.ins T.k_Shifted.C dx_form [(("early" : Str), V.int (0)), (("factor" : Str), V.int (1)), (("shift" : Str), V.int (fm_s))]) := c4
      simp only [Ow.FOk] at c5
      simp only [Ow.nE] at c6
      refine ⟨_, rfl, ?_⟩
      refine ⟨_, rfl, ?_⟩
      refine ⟨_, _, rfl, (by first | (walk_at "o2")), (by first | (walk_at "o2")), (by first | (walk_at "o2")), (by first | (walk_at "o2")), ?_⟩
      refine ⟨_, rfl, ?_⟩
      refine ⟨_, _, _, _, _, rfl, .inl ⟨rfl, rfl⟩, c4, rfl, ?_⟩
      refine ⟨_, rfl, ?_⟩
      refine ⟨_, _, _, _, _, _, rfl, (by first | (walk_at "o2")), (by first | (walk_at "o2")), c4, (by first | (walk_at "o2")), (by first | (walk_at "o2")), (by first | (walk_at "o2")), (by first | (walk_at "o2")), (by first | (walk_at "o2")), (by first | (walk_at "o2")), fun p Hn h1 h2 h3 => ?_⟩
      refine ⟨_, rfl, ?_⟩
      refine ⟨_, _, _, _, rfl, rfl, (SqT.of h3), (by first | rfl | decide), ?_⟩
      refine ⟨_, rfl, ?_⟩
      refine ⟨_, rfl, (by first | (walk_at "o2")), (by first | (walk_at "o2")), fun t h4 h5 => ?_⟩
      refine ⟨_, _, rfl, rfl, ?_⟩
      refine ⟨_, rfl, ?_⟩
      refine Ow.ifd (fun h6 => ?_) (fun h6 => ?_)
      · exact ((by have hz := (by assumption : ∀ k : Int, 0 ≤ k → d % 2 ^ k.toNat = 0 → k ≤ _) _ (by omega) c6; omega) : False).elim
      · refine ⟨_, rfl, ?_⟩
        exact kont _ _ h1 h2 h3
    · replace c4 : H form = some (.ins T.k_Scaled.C dx_form [(("early" : Str), V.int (0)), (("factor" : Str), V.int (fm_f)), (("shift" : Str), V.int (fm_s_2))]) := c4
      simp only [Ow.FOk] at c5
      simp only [Ow.nE] at c6
      refine ⟨_, rfl, ?_⟩
      refine ⟨_, rfl, ?_⟩
      refine ⟨_, _, rfl, (by first | (walk_at "o2")), (by first | (walk_at "o2")), (by first | (walk_at "o2")), (by first | (walk_at "o2")), ?_⟩
      refine ⟨_, rfl, ?_⟩
      refine ⟨_, _, _, _, _, rfl, .inr (.inl ⟨rfl, rfl⟩), c4, rfl, ?_⟩
      refine ⟨_, rfl, ?_⟩
      refine ⟨_, _, _, _, _, Ow.F_Form.Scaled, _, rfl, (by first | (walk_at "o2")), (by first | (walk_at "o2")), c4, (by first | (walk_at "o2")), (by first | (walk_at "o2")), (by first | (walk_at "o2")), (by first | (walk_at "o2")), (by first | (walk_at "o2")), (by first | (walk_at "o2")), fun p_2 Hn_2 h7 h8 h9 => ?_⟩
      refine ⟨_, rfl, ?_⟩
      refine ⟨_, _, _, _, rfl, rfl, (SqT.of h9), (by first | rfl | decide), ?_⟩
      refine ⟨_, rfl, ?_⟩
      refine ⟨_, rfl, (by first | (walk_at "o2")), (by first | (walk_at "o2")), fun t_2 h10 h11 => ?_⟩
      refine ⟨_, _, rfl, rfl, ?_⟩
      refine ⟨_, rfl, ?_⟩
      refine Ow.ifd (fun h12 => ?_) (fun h12 => ?_)
      · exact ((by have hz := (by assumption : ∀ k : Int, 0 ≤ k → d % 2 ^ k.toNat = 0 → k ≤ _) _ (by omega) c6; omega) : False).elim
      · refine ⟨_, rfl, ?_⟩
        exact kont _ _ h7 h8 h9
    · replace c4 : H form = some (.ins T.k_Early.C dx_form [(("early" : Str), V.int (fm_e)), (("factor" : Str), V.int (fm_f_2)), (("shift" : Str), V.int (fm_s_3))]) := c4
      simp only [Ow.FOk] at c5
      simp only [Ow.nE] at c6
      refine ⟨_, rfl, ?_⟩
      refine ⟨_, rfl, ?_⟩
      refine ⟨_, _, rfl, (by first | (walk_at "o2")), (by first | (walk_at "o2")), (by first | (walk_at "o2")), (by first | (walk_at "o2")), ?_⟩
      refine ⟨_, rfl, ?_⟩
      refine ⟨_, _, _, _, _, rfl, .inr (.inr (.inl ⟨rfl, rfl⟩)), c4, rfl, ?_⟩
      refine ⟨_, rfl, ?_⟩
      refine ⟨_, _, _, _, _, Ow.F_Form.Early, _, rfl, (by first | (walk_at "o2")), (by first | (walk_at "o2")), c4, (by first | (walk_at "o2")), (by first | (walk_at "o2")), (by first | (walk_at "o2")), (by first | (walk_at "o2")), (by first | (walk_at "o2")), (by first | (walk_at "o2")), fun p_3 Hn_3 h13 h14 h15 => ?_⟩
      refine ⟨_, rfl, ?_⟩
      refine ⟨_, _, _, _, rfl, rfl, (SqT.of h15), (by first | rfl | decide), ?_⟩
      refine ⟨_, rfl, ?_⟩
      refine ⟨_, rfl, (by first | (walk_at "o2")), (by first | (walk_at "o2")), fun t_3 h16 h17 => ?_⟩
      refine ⟨_, _, rfl, rfl, ?_⟩
      refine ⟨_, rfl, ?_⟩
      refine Ow.ifd (fun h18 => ?_) (fun h18 => ?_)
      · exact ((by have hz := (by assumption : ∀ k : Int, 0 ≤ k → d % 2 ^ k.toNat = 0 → k ≤ _) _ (by omega) c6; omega) : False).elim
      · refine ⟨_, rfl, ?_⟩
        exact kont _ _ h13 h14 h15
    · replace c4 : H form = some (.ins T.k_More.C dx_form [(("early" : Str), V.int (0)), (("factor" : Str), V.int (fm_f_3)), (("shift" : Str), V.int (fm_s_4))]) := c4
      simp only [Ow.FOk] at c5
      simp only [Ow.nE] at c6
      refine ⟨_, rfl, ?_⟩
      refine ⟨_, rfl, ?_⟩
      refine ⟨_, _, rfl, (by first | (walk_at "o2")), (by first | (walk_at "o2")), (by first | (walk_at "o2")), (by first | (walk_at "o2")), ?_⟩
      refine ⟨_, rfl, ?_⟩
      refine ⟨_, _, _, _, _, rfl, .inr (.inr (.inr (.inl ⟨rfl, rfl⟩))), c4, rfl, ?_⟩
      refine ⟨_, rfl, ?_⟩
      refine ⟨_, _, _, _, _, _, rfl, (by first | (walk_at "o2")), (by first | (walk_at "o2")), c4, (by first | (walk_at "o2")), (by first | (walk_at "o2")), (by first | (walk_at "o2")), (by first | (walk_at "o2")), (by first | (walk_at "o2")), (by first | (walk_at "o2")), fun p_4 Hn_4 h19 h20 h21 => ?_⟩
      refine ⟨_, rfl, ?_⟩
      refine ⟨_, _, _, _, rfl, rfl, (SqT.of h21), (by first | rfl | decide), ?_⟩
      refine ⟨_, rfl, ?_⟩
      refine ⟨_, rfl, (by first | (walk_at "o2")), (by first | (walk_at "o2")), fun t_4 h22 h23 => ?_⟩
      refine ⟨_, _, rfl, rfl, ?_⟩
      refine ⟨_, rfl, ?_⟩
      refine Ow.ifd (fun h24 => ?_) (fun h24 => ?_)
      · exact ((by have hz := (by assumption : ∀ k : Int, 0 ≤ k → d % 2 ^ k.toNat = 0 → k ≤ _) _ (by omega) c6; omega) : False).elim
      · refine ⟨_, rfl, ?_⟩
        exact kont _ _ h19 h20 h21
    · replace c4 : H form = some (.ins T.k_Wide.C dx_form [(("early" : Str), V.int (0)), (("factor" : Str), V.int (fm_f_4)), (("shift" : Str), V.int (fm_s_5))]) := c4
      simp only [Ow.FOk] at c5
      simp only [Ow.nE] at c6
      refine ⟨_, rfl, ?_⟩
      refine ⟨_, rfl, ?_⟩
      refine ⟨_, _, rfl, (by first | (walk_at "o2")), (by first | (walk_at "o2")), (by first | (walk_at "o2")), (by first | (walk_at "o2")), ?_⟩
      refine ⟨_, rfl, ?_⟩
      refine ⟨_, _, _, _, _, rfl, .inr (.inr (.inr (.inr (⟨rfl, rfl⟩)))), c4, rfl, ?_⟩
      refine ⟨_, rfl, ?_⟩
      refine ⟨_, _, _, _, _, _, rfl, (by first | (walk_at "o2")), (by first | (walk_at "o2")), c4, (by first | (walk_at "o2")), (by first | (walk_at "o2")), (by first | (walk_at "o2")), (by first | (walk_at "o2")), (by first | (walk_at "o2")), (by first | (walk_at "o2")), fun p_5 Hn_5 h25 h26 h27 => ?_⟩
      refine ⟨_, rfl, ?_⟩
      refine ⟨_, _, _, _, rfl, rfl, (SqT.of h27), (by first | rfl | decide), ?_⟩
      refine ⟨_, rfl, ?_⟩
      refine ⟨_, rfl, (by first | (walk_at "o2")), (by first | (walk_at "o2")), fun t_5 h28 h29 => ?_⟩
      refine ⟨_, _, rfl, rfl, ?_⟩
      refine ⟨_, rfl, ?_⟩
      refine Ow.ifd (fun h30 => ?_) (fun h30 => ?_)
      · exact ((by have hz := (by assumption : ∀ k : Int, 0 ≤ k → d % 2 ^ k.toNat = 0 → k ≤ _) _ (by omega) c6; omega) : False).elim
      · refine ⟨_, rfl, ?_⟩
        exact kont _ _ h25 h26 h27
theorem ok_first_too_great (T : Tx K mg) : FnOk P w K mg base CX0 1 T.d_first_too_great.f T.d_first_too_great.fd ["d", "factor", "addend", "total"] (sp_first_too_great T) := by
  refine T.d_first_too_great.F.ok sc_first_too_great (fun vs H Q E h => ?_) (fun cdv A outer s H vs Q E hr h => ?_)
  · obtain ⟨d, f, ad, t, rfl, _⟩ := h
    rfl
  · obtain ⟨d, f, ad, t, rfl, c0, c1, c2, c3, c4, c5, c6, c7, kont0, kont1⟩ := h
    have pT := Ow.p2 t.toNat
    have pT2 := Ow.pow2_mono (a := t.toNat) (b := 130) (by omega)
    have mb := Ow.mul_rng (a := f) (b := d) (by omega) (by omega) (by omega) (by omega)
    refine ⟨_, (pss_cons (ps_set (i := 4) sc_first_too_great.nd rfl (Or.inl rfl) (Ow.pe_nmi (pe_op op_sub (pe_op Ow.op_mulN (pv 1) (pv 0)) (pe_op Ow.op_shl1 pe_int (pv 3)))))
        (pss_cons (ps_set (i := 5) sc_first_too_great.nd rfl (Or.inl rfl) pe_int)
        (pss_cons (ps_if (pt_cmpR op_gt (pv 4) pe_int (nomark _)) (pss_one (ps_set (i := 5) sc_first_too_great.nd rfl (Or.inl rfl) (Ow.pe_nmi (pe_callB (call_max2 rfl) (by rfl) T.z_max (by decide +kernel) (pa_cons pe_int (pa_cons (pe_op op_sub pe_int (pe_op Ow.op_divN (pe_op op_sub (pv 2) (pv 1)) (pv 4))) pa_nil)))))) pss_nil)
        (pss_cons (ps_if (pt_cmpR op_lt (pe_op Ow.op_mulN (pv 5) (pv 4)) (pe_op op_sub (pv 1) (pv 2)) (nomark _)) (pss_one (ps_ret pe_non)) pss_nil)
        (pss_cons (ps_if (pt_cmpR op_eq (pv 1) pe_int (nomark _)) (pss_one (ps_ret pe_int)) pss_nil)
        (pss_one (ps_ret (Ow.pe_nmi (pe_callB (call_max2 rfl) (by rfl) T.z_max (by decide +kernel) (pa_cons pe_int (pa_cons (pe_op op_sub pe_int (pe_op Ow.op_divN (pe_op op_sub (pv 2) (pe_op Ow.op_shlN (pv 5) (pv 3))) (pv 1))) pa_nil))))))))))), ?_⟩
    refine ⟨_, rfl, ?_⟩
    refine ⟨_, rfl, ?_⟩
    refine ⟨_, _, rfl, rfl, (by first | (walk_at "o2")), fun m h_m => ?_⟩
    refine ⟨_, rfl, ?_⟩
    refine ⟨_, rfl, rfl, (by first | (walk_at "o2")), fun B h_B h0_B => ?_⟩
    refine ⟨_, _, rfl, rfl, ?_⟩
    refine ⟨_, rfl, fun gap h_gap => ?_⟩
    refine Ow.gnm ?_
    refine Ow.setc (V.int (1)) ?_
    refine Ow.join (fun σ2 H2 => ∃ (qq : Int), σ2 = [some (.int (d)), some (.int (f)), some (.int (ad)), some (.int (t)), some (.int (gap)), some (.int (qq))] ∧ Same H H2 ∧ (1 ≤ qq) ∧ (gap ≤ 0 → qq = 1) ∧ (0 < gap → qq = 1 ∨ (qq - 1) * gap < f - ad) ∧ (0 < gap → f - ad ≤ qq * gap) ∧ (qq ≤ 2 ^ 70) ∧ True) (fun N h1 => ?_) (fun σ2 H2 h2 => ?_)
    · refine ⟨_, rfl, ?_⟩
      refine ⟨_, _, rfl, rfl, ?_⟩
      refine ⟨_, rfl, ?_⟩
      refine Ow.ifd (fun h3 => ?_) (fun h3 => ?_)
      · refine ⟨_, rfl, ?_⟩
        refine ⟨_, rfl, ?_⟩
        refine ⟨_, _, rfl, rfl, ?_⟩
        refine ⟨_, rfl, ?_⟩
        refine ⟨_, _, rfl, rfl, (by first | (walk_at "o2")), fun q h_q => ?_⟩
        refine ⟨_, _, rfl, rfl, ?_⟩
        refine ⟨_, _, rfl, ?_⟩
        refine ⟨_, rfl, fun m_2 h_m_2 => ?_⟩
        have hm_m_2 := Ow.max_ite h_m_2
        exact h1 _ _ ⟨m_2, rfl, (Same.refl _), (by first | omega | exact fun _ => (Ow.tg_qmax (by assumption) c2 c3 c4 (by assumption) (by assumption)).1 | exact fun _ => (Ow.tg_qmax (by assumption) c2 c3 c4 (by assumption) (by assumption)).2.1 | exact (Ow.tg_qmax (by assumption) c2 c3 c4 (by assumption) (by assumption)).2.2), (by first | omega | exact fun _ => (Ow.tg_qmax (by assumption) c2 c3 c4 (by assumption) (by assumption)).1 | exact fun _ => (Ow.tg_qmax (by assumption) c2 c3 c4 (by assumption) (by assumption)).2.1 | exact (Ow.tg_qmax (by assumption) c2 c3 c4 (by assumption) (by assumption)).2.2), (by first | omega | exact fun _ => (Ow.tg_qmax (by assumption) c2 c3 c4 (by assumption) (by assumption)).1 | exact fun _ => (Ow.tg_qmax (by assumption) c2 c3 c4 (by assumption) (by assumption)).2.1 | exact (Ow.tg_qmax (by assumption) c2 c3 c4 (by assumption) (by assumption)).2.2), (by first | omega | exact fun _ => (Ow.tg_qmax (by assumption) c2 c3 c4 (by assumption) (by assumption)).1 | exact fun _ => (Ow.tg_qmax (by assumption) c2 c3 c4 (by assumption) (by assumption)).2.1 | exact (Ow.tg_qmax (by assumption) c2 c3 c4 (by assumption) (by assumption)).2.2), (by first | omega | exact fun _ => (Ow.tg_qmax (by assumption) c2 c3 c4 (by assumption) (by assumption)).1 | exact fun _ => (Ow.tg_qmax (by assumption) c2 c3 c4 (by assumption) (by assumption)).2.1 | exact (Ow.tg_qmax (by assumption) c2 c3 c4 (by assumption) (by assumption)).2.2), trivial⟩
      · exact h1 _ _ ⟨1, rfl, (Same.refl _), (by first | omega | exact fun _ => (Ow.tg_qmax (by assumption) c2 c3 c4 (by assumption) (by assumption)).1 | exact fun _ => (Ow.tg_qmax (by assumption) c2 c3 c4 (by assumption) (by assumption)).2.1 | exact (Ow.tg_qmax (by assumption) c2 c3 c4 (by assumption) (by assumption)).2.2), (by first | omega | exact fun _ => (Ow.tg_qmax (by assumption) c2 c3 c4 (by assumption) (by assumption)).1 | exact fun _ => (Ow.tg_qmax (by assumption) c2 c3 c4 (by assumption) (by assumption)).2.1 | exact (Ow.tg_qmax (by assumption) c2 c3 c4 (by assumption) (by assumption)).2.2), (by first | omega | exact fun _ => (Ow.tg_qmax (by assumption) c2 c3 c4 (by assumption) (by assumption)).1 | exact fun _ => (Ow.tg_qmax (by assumption) c2 c3 c4 (by assumption) (by assumption)).2.1 | exact (Ow.tg_qmax (by assumption) c2 c3 c4 (by assumption) (by assumption)).2.2), (by first | omega | exact fun _ => (Ow.tg_qmax (by assumption) c2 c3 c4 (by assumption) (by assumption)).1 | exact fun _ => (Ow.tg_qmax (by assumption) c2 c3 c4 (by assumption) (by assumption)).2.1 | exact (Ow.tg_qmax (by assumption) c2 c3 c4 (by assumption) (by assumption)).2.2), (by first | omega | exact fun _ => (Ow.tg_qmax (by assumption) c2 c3 c4 (by assumption) (by assumption)).1 | exact fun _ => (Ow.tg_qmax (by assumption) c2 c3 c4 (by assumption) (by assumption)).2.1 | exact (Ow.tg_qmax (by assumption) c2 c3 c4 (by assumption) (by assumption)).2.2), trivial⟩
    · obtain ⟨qq, rfl, h4, h5, h6, h7, h8, h9, _⟩ := h2
      refine ⟨_, rfl, ?_⟩
      refine ⟨_, rfl, ?_⟩
      refine ⟨_, _, rfl, rfl, (by first | (walk_at "o2")), fun m_3 h_m_3 => ?_⟩
      refine ⟨_, rfl, ?_⟩
      refine ⟨_, rfl, ?_⟩
      refine ⟨_, _, rfl, rfl, ?_⟩
      refine ⟨_, _, rfl, rfl, ?_⟩
      refine ⟨_, rfl, ?_⟩
      refine Ow.ifd (fun h10 => ?_) (fun h10 => ?_)
      · exact kont0 (by first | exact z.1 | exact z.2.1 | exact z.2.2.1 | exact z.2.2.2 | omega | exact Ow.tg_none' (by omega) c2 (by assumption) (by assumption) (by assumption) (by assumption) (by assumption) (by assumption) (by assumption) | exact Ow.tg_zero' (by omega) (by assumption) (by assumption) (by assumption) (by assumption) (by assumption) (by assumption) (by assumption)) _ h4
      · refine ⟨_, rfl, ?_⟩
        refine ⟨rfl, ?_⟩
        refine ⟨_, rfl, ?_⟩
        refine Ow.ifeqi (fun h11 => ?_) (fun h11 => ?_)
        · exact kont1 0 (by first | exact z.1 | exact z.2.1 | exact z.2.2.1 | exact z.2.2.2 | omega | exact Ow.tg_none' (by omega) c2 (by assumption) (by assumption) (by assumption) (by assumption) (by assumption) (by assumption) (by assumption) | exact Ow.tg_zero' (by omega) (by assumption) (by assumption) (by assumption) (by assumption) (by assumption) (by assumption) (by assumption)) (by first | exact z.1 | exact z.2.1 | exact z.2.2.1 | exact z.2.2.2 | omega | exact Ow.tg_none' (by omega) c2 (by assumption) (by assumption) (by assumption) (by assumption) (by assumption) (by assumption) (by assumption) | exact Ow.tg_zero' (by omega) (by assumption) (by assumption) (by assumption) (by assumption) (by assumption) (by assumption) (by assumption)) (by first | exact z.1 | exact z.2.1 | exact z.2.2.1 | exact z.2.2.2 | omega | exact Ow.tg_none' (by omega) c2 (by assumption) (by assumption) (by assumption) (by assumption) (by assumption) (by assumption) (by assumption) | exact Ow.tg_zero' (by omega) (by assumption) (by assumption) (by assumption) (by assumption) (by assumption) (by assumption) (by assumption)) (by first | exact z.1 | exact z.2.1 | exact z.2.2.1 | exact z.2.2.2 | omega | exact Ow.tg_none' (by omega) c2 (by assumption) (by assumption) (by assumption) (by assumption) (by assumption) (by assumption) (by assumption) | exact Ow.tg_zero' (by omega) (by assumption) (by assumption) (by assumption) (by assumption) (by assumption) (by assumption) (by assumption)) _ h4
        · refine ⟨_, rfl, ?_⟩
          refine ⟨_, rfl, ?_⟩
          refine ⟨_, rfl, ?_⟩
          refine ⟨_, _, rfl, rfl, (by first | (walk_at "o2")), fun s h_s => ?_⟩
          refine ⟨_, _, rfl, rfl, ?_⟩
          refine ⟨_, rfl, ?_⟩
          refine ⟨_, _, rfl, rfl, (by first | (walk_at "o2")), fun q_2 h_q_2 => ?_⟩
          refine ⟨_, _, rfl, rfl, ?_⟩
          refine ⟨_, _, rfl, ?_⟩
          refine ⟨_, rfl, fun m_4 h_m_4 => ?_⟩
          have hm_m_4 := Ow.max_ite h_m_4
          try have z := Ow.tg_fin (r := m_4) (by omega) c1 c2 (by assumption) (by assumption) (by assumption) (by assumption) (by assumption) (by assumption) (by assumption) (by assumption) (by assumption) (by assumption) (by assumption) (by assumption) (by assumption)
          exact kont1 m_4 (by first | exact z.1 | exact z.2.1 | exact z.2.2.1 | exact z.2.2.2 | omega | exact Ow.tg_none' (by omega) c2 (by assumption) (by assumption) (by assumption) (by assumption) (by assumption) (by assumption) (by assumption) | exact Ow.tg_zero' (by omega) (by assumption) (by assumption) (by assumption) (by assumption) (by assumption) (by assumption) (by assumption)) (by first | exact z.1 | exact z.2.1 | exact z.2.2.1 | exact z.2.2.2 | omega | exact Ow.tg_none' (by omega) c2 (by assumption) (by assumption) (by assumption) (by assumption) (by assumption) (by assumption) (by assumption) | exact Ow.tg_zero' (by omega) (by assumption) (by assumption) (by assumption) (by assumption) (by assumption) (by assumption) (by assumption)) (by first | exact z.1 | exact z.2.1 | exact z.2.2.1 | exact z.2.2.2 | omega | exact Ow.tg_none' (by omega) c2 (by assumption) (by assumption) (by assumption) (by assumption) (by assumption) (by assumption) (by assumption) | exact Ow.tg_zero' (by omega) (by assumption) (by assumption) (by assumption) (by assumption) (by assumption) (by assumption) (by assumption)) (by first | exact z.1 | exact z.2.1 | exact z.2.2.1 | exact z.2.2.2 | omega | exact Ow.tg_none' (by omega) c2 (by assumption) (by assumption) (by assumption) (by assumption) (by assumption) (by assumption) (by assumption) | exact Ow.tg_zero' (by omega) (by assumption) (by assumption) (by assumption) (by assumption) (by assumption) (by assumption) (by assumption)) _ h4
theorem ok_first_too_small (T : Tx K mg) : FnOk P w K mg base CX0 1 T.d_first_too_small.f T.d_first_too_small.fd ["d", "factor", "addend", "total"] (sp_first_too_small T) := by
  refine T.d_first_too_small.F.ok sc_first_too_small (fun vs H Q E h => ?_) (fun cdv A outer s H vs Q E hr h => ?_)
  · obtain ⟨d, f, ad, t, rfl, _⟩ := h
    rfl
  · obtain ⟨d, f, ad, t, rfl, c0, c1, c2, c3, c4, c5, c6, c7, kont0, kont1⟩ := h
    have pT := Ow.p2 t.toNat
    have pT2 := Ow.pow2_mono (a := t.toNat) (b := 130) (by omega)
    have mb := Ow.mul_rng (a := f) (b := d) (by omega) (by omega) (by omega) (by omega)
    refine ⟨_, (pss_cons (ps_set (i := 4) sc_first_too_small.nd rfl (Or.inl rfl) (Ow.pe_nmi (pe_op op_sub (pe_op Ow.op_shl1 pe_int (pv 3)) (pe_op Ow.op_mulN (pv 1) (pv 0)))))
        (pss_cons (ps_if (pt_cmpR op_le (pv 4) pe_int (nomark _)) (pss_one (ps_ret pe_non)) pss_nil)
        (pss_one (ps_ret (pe_op Ow.op_mulN (pe_op op_add (pe_op Ow.op_divN (pv 2) (pv 4)) pe_int) (pv 0)))))), ?_⟩
    refine ⟨_, rfl, ?_⟩
    refine ⟨_, rfl, rfl, (by first | (walk_at "o2")), fun B h_B h0_B => ?_⟩
    refine ⟨_, rfl, ?_⟩
    refine ⟨_, rfl, ?_⟩
    refine ⟨_, _, rfl, rfl, (by first | (walk_at "o2")), fun m h_m => ?_⟩
    refine ⟨_, _, rfl, rfl, ?_⟩
    refine ⟨_, rfl, fun gap h_gap => ?_⟩
    refine ⟨_, rfl, ?_⟩
    refine ⟨_, _, rfl, rfl, ?_⟩
    refine ⟨_, rfl, ?_⟩
    refine Ow.ifd (fun h1 => ?_) (fun h1 => ?_)
    · try have y : (ad + 1) * d ≤ 2 ^ 71 * 2 ^ 70 := Int.mul_le_mul (by omega) (by omega) (by omega) (by decide)
      exact kont0 (by first | exact z.1 | exact z.2.2.1 | exact z.2.2.2 | omega | exact Ow.ts_none (d := d) (T := 2 ^ t.toNat) (g := gap) (by omega) c2 c4 (by rw [h_gap, h_m, h_B]) (by omega)) _ (Same.refl _)
    · have qb := Ow.quo_b (q := ad / gap) rfl c4 (by omega)
      refine ⟨_, rfl, ?_⟩
      refine ⟨_, rfl, ?_⟩
      refine ⟨_, _, rfl, rfl, (by first | (walk_at "o2")), fun q h_q => ?_⟩
      refine ⟨_, _, rfl, rfl, ?_⟩
      refine ⟨_, rfl, ?_⟩
      refine ⟨_, _, rfl, rfl, (by first | (walk_at "o2")), fun m_2 h_m_2 => ?_⟩
      try have z := Ow.ts_some (T := 2 ^ t.toNat) (d := d) (a := ad) (g := gap) (q := ad / gap) (r := m_2) (f := f) (j := ad / gap + 1) (by omega) c2 c4 (by rw [h_gap, h_m, h_B]) (by assumption) rfl rfl (by rw [h_m_2, h_q])
      try have y : (ad + 1) * d ≤ 2 ^ 71 * 2 ^ 70 := Int.mul_le_mul (by omega) (by omega) (by omega) (by decide)
      exact kont1 m_2 (by first | exact z.1 | exact z.2.2.1 | exact z.2.2.2 | omega | exact Ow.ts_none (d := d) (T := 2 ^ t.toNat) (g := gap) (by omega) c2 c4 (by rw [h_gap, h_m, h_B]) (by omega)) (by first | exact z.1 | exact z.2.2.1 | exact z.2.2.2 | omega | exact Ow.ts_none (d := d) (T := 2 ^ t.toNat) (g := gap) (by omega) c2 c4 (by rw [h_gap, h_m, h_B]) (by omega)) (by first | exact z.1 | exact z.2.2.1 | exact z.2.2.2 | omega | exact Ow.ts_none (d := d) (T := 2 ^ t.toNat) (g := gap) (by omega) c2 c4 (by rw [h_gap, h_m, h_B]) (by omega)) (by first | exact z.1 | exact z.2.2.1 | exact z.2.2.2 | omega | exact Ow.ts_none (d := d) (T := 2 ^ t.toNat) (g := gap) (by omega) c2 c4 (by rw [h_gap, h_m, h_B]) (by omega)) _ (Same.refl _)
theorem ok_least_wrong (T : Tx K mg) : FnOk P w K mg base CX0 2 T.d_least_wrong.f T.d_least_wrong.fd ["last", "d", "reckoning"] (sp_least_wrong T) := by
  refine T.d_least_wrong.F.ok sc_least_wrong (fun vs H Q E h => ?_) (fun cdv A outer s H vs Q E hr h => ?_)
  · obtain ⟨last, d, reckoning, e, f, ad, t, rfl, _⟩ := h
    rfl
  · obtain ⟨last, d, reckoning, e, f, ad, t, rfl, c0, c1, c2, c3, c4, c5, c6, c7, c8, c9, c10, c11, c12, c13, kont0, kont1⟩ := h
    have pT := Ow.p2 t.toNat
    have pT2 := Ow.pow2_mono (a := t.toNat) (b := 130) (by omega)
    have hD := Ow.half_pos (A := 2 ^ e.toNat) (d := d) (Ow.p2 _) (by assumption) (by omega)
    refine ⟨_, (pss_cons (ps_asg (pv 2) (pg_tup rfl (pgs_cons (pg_name (i := 3) sc_least_wrong.nd rfl (Or.inr rfl)) (pgs_cons (pg_name (i := 4) sc_least_wrong.nd rfl (Or.inl rfl)) (pgs_cons (pg_name (i := 5) sc_least_wrong.nd rfl (Or.inl rfl)) (pgs_cons (pg_name (i := 6) sc_least_wrong.nd rfl (Or.inl rfl)) pgs_nil))))))
        (pss_cons (ps_set (i := 7) sc_least_wrong.nd rfl (Or.inl rfl) (pe_lst (pa_cons (pe_call (Ow.ok_first_too_great T) (hr.mono (by decide : 1 ≤ 1)) (by rfl) T.d_first_too_great.m T.d_first_too_great.F.kp T.d_first_too_great.b .nil pass0 (pa_cons (pe_op Ow.op_shrN (pv 1) (pv 3)) (pa_cons (pv 4) (pa_cons (pv 5) (pa_cons (pv 6) pa_nil))))) (pa_cons (pe_call (Ow.ok_first_too_small T) (hr.mono (by decide : 1 ≤ 1)) (by rfl) T.d_first_too_small.m T.d_first_too_small.F.kp T.d_first_too_small.b .nil pass0 (pa_cons (pe_op Ow.op_shrN (pv 1) (pv 3)) (pa_cons (pv 4) (pa_cons (pv 5) (pa_cons (pv 6) pa_nil))))) pa_nil))))
        (pss_cons (ps_set (i := 8) sc_least_wrong.nd rfl (Or.inl rfl) (pe_callBK (Ow.crk_minD rfl hr.units) (by rfl) T.z_min (by decide +kernel) (pa_cons (pe_lc (g := gName 9) rfl sc_least_wrong.nd (pi_list (pv 7)) (own := [("x", 9)]) (blkOk_by (N := ["last", "d", "reckoning", "early", "factor", "addend", "total", "some", "found", "x"]) (sc := defScope s_least_wrong) (by decide +kernel)) (fun _ _ _ _ _ => (pg_name (i := 9) sc_least_wrong.nd rfl (Or.inl rfl))) (fun _ _ _ _ _ => (pts_one (pt_cmpR op_notN (pv 9) pe_non (nomark _)))) (fun _ _ _ _ _ => (pe_op Ow.op_shlN (pv 9) (pv 3)))) pa_nil) (pk_cons (pe_op op_add (pv 0) pe_int) pk_nil)))
        (pss_cons (ps_if (pt_cmpR op_gt (pv 8) (pv 0) (nomark _)) (pss_one (ps_ret pe_non)) pss_nil)
        (pss_one (ps_ret (pv 8))))))), ?_⟩
    refine ⟨_, rfl, ?_⟩
    refine ⟨_, _, rfl, (SqT.of c4), rfl, ?_⟩
    refine ⟨_, _, rfl, ?_⟩
    refine ⟨_, _, rfl, ?_⟩
    refine ⟨_, _, rfl, ?_⟩
    refine ⟨_, _, rfl, ?_⟩
    refine ⟨rfl, ?_⟩
    refine ⟨_, rfl, ?_⟩
    refine ⟨_, rfl, ?_⟩
    refine ⟨_, _, rfl, rfl, (by first | (walk_at "o2")), fun q h_q => ?_⟩
    refine ⟨_, rfl, ?_⟩
    refine ⟨_, rfl, ?_⟩
    refine ⟨_, rfl, ?_⟩
    refine ⟨_, _, _, _, rfl, (by first | (walk_at "o2")), (by first | (walk_at "o2")), (by first | (walk_at "o2")), (by first | (walk_at "o2")), (by first | (walk_at "o2")), (by first | (walk_at "o2")), (by first | (walk_at "o2")), (by first | (walk_at "o2")), ?_, ?_⟩
    · refine fun h1 Hn h2 => ?_
      refine ⟨_, rfl, ?_⟩
      refine ⟨_, rfl, ?_⟩
      refine ⟨_, _, rfl, rfl, (by first | (walk_at "o2")), fun q_2 h_q_2 => ?_⟩
      refine ⟨_, rfl, ?_⟩
      refine ⟨_, rfl, ?_⟩
      refine ⟨_, rfl, ?_⟩
      refine ⟨_, _, _, _, rfl, (by first | (walk_at "o2")), (by first | (walk_at "o2")), (by first | (walk_at "o2")), (by first | (walk_at "o2")), (by first | (walk_at "o2")), (by first | (walk_at "o2")), (by first | (walk_at "o2")), (by first | (walk_at "o2")), ?_, ?_⟩
      · refine fun h3 Hn_2 h4 => ?_
        refine ⟨by show 2 ≤ sizeLine; decide, fun p h_p => ?_⟩
        refine ⟨_, rfl, ?_⟩
        refine ⟨_, rfl, ⟨_, (SqL.of upd_same)⟩, ?_⟩
        intro D h_D
        refine Ow.unlc_start (K := K) (a := p) (xs := [.non, .non]) ?_
        refine ⟨(SqL.of (Ow.at_new h_D upd_same)), ?_⟩
        refine ⟨rfl, ?_⟩
        refine ⟨_, rfl, ?_⟩
        refine ⟨rfl, ?_⟩
        refine ⟨_, rfl, ?_⟩
        refine iteF ?_
        refine ⟨(SqL.of (Ow.at_new h_D upd_same)), ?_⟩
        refine ⟨rfl, ?_⟩
        refine ⟨_, rfl, ?_⟩
        refine ⟨rfl, ?_⟩
        refine ⟨_, rfl, ?_⟩
        refine iteF ?_
        refine ⟨(SqL.of (Ow.at_new h_D upd_same)), ?_⟩
        refine ⟨_, rfl, ?_⟩
        refine ⟨_, _, rfl, rfl, ?_⟩
        refine ⟨_, [], _, rfl, rfl, (SqL.of upd_same), fun m h_m => ?_⟩
        refine ⟨_, rfl, ?_⟩
        refine ⟨_, rfl, ?_⟩
        refine ⟨_, _, rfl, rfl, ?_⟩
        refine ⟨_, rfl, ?_⟩
        refine Ow.ifd (fun h5 => ?_) (fun h5 => ?_)
        · try subst h_q
          try subst h_q_2
          try subst h_q_3
          have hm := Ow.mn0 h_m
          have hg : ∀ x, 0 ≤ x → x * 2 ^ e.toNat < m → ¬ Ow.TGa (d / 2 ^ e.toNat) f ad (2 ^ t.toNat) x := fun x a _ => (by assumption : ∀ x, 0 ≤ x → ¬ Ow.TGa _ f ad (2 ^ t.toNat) x) x a
          have hs : ∀ x, 0 ≤ x → x * 2 ^ e.toNat < m → ¬ Ow.TSa (d / 2 ^ e.toNat) f ad (2 ^ t.toNat) x := fun x a _ => (by assumption : ∀ x, 0 ≤ x → ¬ Ow.TSa _ f ad (2 ^ t.toNat) x) x a
          exact kont0 (by first | exact Ow.lwr_al (by assumption) rfl hg hs (by omega) | exact Ow.lwr_at' (by assumption) rfl hg hs hw (by omega) | (exfalso; omega)) _ (((h2.trans h4).trans (Ow.same_new h_p)).trans (Ow.same_new h_D))
        · refine ⟨_, rfl, ?_⟩
          try subst h_q
          try subst h_q_2
          try subst h_q_3
          have hm := Ow.mn0 h_m
          have hg : ∀ x, 0 ≤ x → x * 2 ^ e.toNat < m → ¬ Ow.TGa (d / 2 ^ e.toNat) f ad (2 ^ t.toNat) x := fun x a _ => (by assumption : ∀ x, 0 ≤ x → ¬ Ow.TGa _ f ad (2 ^ t.toNat) x) x a
          have hs : ∀ x, 0 ≤ x → x * 2 ^ e.toNat < m → ¬ Ow.TSa (d / 2 ^ e.toNat) f ad (2 ^ t.toNat) x := fun x a _ => (by assumption : ∀ x, 0 ≤ x → ¬ Ow.TSa _ f ad (2 ^ t.toNat) x) x a
          exact kont1 m (by first | exact Ow.lwr_al (by assumption) rfl hg hs (by omega) | exact Ow.lwr_at' (by assumption) rfl hg hs hw (by omega) | (exfalso; omega)) _ (((h2.trans h4).trans (Ow.same_new h_p)).trans (Ow.same_new h_D))
      · refine fun t_2 h6 h7 h8 h9 Hn_3 h10 => ?_
        refine ⟨by show 2 ≤ sizeLine; decide, fun p_2 h_p_2 => ?_⟩
        refine ⟨_, rfl, ?_⟩
        refine ⟨_, rfl, ⟨_, (SqL.of upd_same)⟩, ?_⟩
        intro D_2 h_D_2
        refine Ow.unlc_start (K := K) (a := p_2) (xs := [.non, .int (t_2)]) ?_
        refine ⟨(SqL.of (Ow.at_new h_D_2 upd_same)), ?_⟩
        refine ⟨rfl, ?_⟩
        refine ⟨_, rfl, ?_⟩
        refine ⟨rfl, ?_⟩
        refine ⟨_, rfl, ?_⟩
        refine iteF ?_
        refine ⟨(SqL.of (Ow.at_new h_D_2 upd_same)), ?_⟩
        refine ⟨rfl, ?_⟩
        refine ⟨_, rfl, ?_⟩
        refine ⟨rfl, ?_⟩
        refine ⟨_, rfl, ?_⟩
        refine iteT ?_
        refine ⟨_, rfl, ?_⟩
        refine ⟨_, rfl, ?_⟩
        refine ⟨_, _, rfl, rfl, (by first | (walk_at "o2")), fun s h_s => ?_⟩
        refine ⟨_, upd_same, (by show 0 < sizeLine; decide), ?_⟩
        refine ⟨(SqL.of (Ow.at_mut (ne_of_none upd_same h_D_2) (Ow.at_new h_D_2 upd_same))), ?_⟩
        refine ⟨_, rfl, ?_⟩
        refine ⟨_, _, rfl, rfl, ?_⟩
        refine ⟨_, [s], _, rfl, rfl, (SqL.of upd_same), fun m_2 h_m_2 => ?_⟩
        refine ⟨_, rfl, ?_⟩
        refine ⟨_, rfl, ?_⟩
        refine ⟨_, _, rfl, rfl, ?_⟩
        refine ⟨_, rfl, ?_⟩
        refine Ow.ifd (fun h11 => ?_) (fun h11 => ?_)
        · try subst h_q
          try subst h_q_2
          try subst h_q_3
          have hm := Ow.mn1 h_m_2
          have hg : ∀ x, 0 ≤ x → x * 2 ^ e.toNat < m_2 → ¬ Ow.TGa (d / 2 ^ e.toNat) f ad (2 ^ t.toNat) x := fun x a _ => (by assumption : ∀ x, 0 ≤ x → ¬ Ow.TGa _ f ad (2 ^ t.toNat) x) x a
          have hs : ∀ x, 0 ≤ x → x * 2 ^ e.toNat < m_2 → ¬ Ow.TSa (d / 2 ^ e.toNat) f ad (2 ^ t.toNat) x := fun x a b => (by assumption : ∀ x, 0 ≤ x → x < t_2 → ¬ Ow.TSa _ f ad (2 ^ t.toNat) x) x a (Ow.lt_y b (by omega))
          have hw : ∃ y0, m_2 = y0 * 2 ^ e.toNat ∧ 0 ≤ y0 ∧ (Ow.TGa (d / 2 ^ e.toNat) f ad (2 ^ t.toNat) y0 ∨ Ow.TSa (d / 2 ^ e.toNat) f ad (2 ^ t.toNat) y0) := ⟨t_2, by omega, by omega, .inr (by assumption)⟩
          exact kont0 (by first | exact Ow.lwr_al (by assumption) rfl hg hs (by omega) | exact Ow.lwr_at' (by assumption) rfl hg hs hw (by omega) | (exfalso; omega)) _ (Ow.same_mut (((h2.trans h10).trans (Ow.same_new h_p_2)).trans (Ow.same_new h_D_2)) (Same.free ((h2.trans h10).trans (Ow.same_new h_p_2)) h_D_2))
        · refine ⟨_, rfl, ?_⟩
          try subst h_q
          try subst h_q_2
          try subst h_q_3
          have hm := Ow.mn1 h_m_2
          have hg : ∀ x, 0 ≤ x → x * 2 ^ e.toNat < m_2 → ¬ Ow.TGa (d / 2 ^ e.toNat) f ad (2 ^ t.toNat) x := fun x a _ => (by assumption : ∀ x, 0 ≤ x → ¬ Ow.TGa _ f ad (2 ^ t.toNat) x) x a
          have hs : ∀ x, 0 ≤ x → x * 2 ^ e.toNat < m_2 → ¬ Ow.TSa (d / 2 ^ e.toNat) f ad (2 ^ t.toNat) x := fun x a b => (by assumption : ∀ x, 0 ≤ x → x < t_2 → ¬ Ow.TSa _ f ad (2 ^ t.toNat) x) x a (Ow.lt_y b (by omega))
          have hw : ∃ y0, m_2 = y0 * 2 ^ e.toNat ∧ 0 ≤ y0 ∧ (Ow.TGa (d / 2 ^ e.toNat) f ad (2 ^ t.toNat) y0 ∨ Ow.TSa (d / 2 ^ e.toNat) f ad (2 ^ t.toNat) y0) := ⟨t_2, by omega, by omega, .inr (by assumption)⟩
          exact kont1 m_2 (by first | exact Ow.lwr_al (by assumption) rfl hg hs (by omega) | exact Ow.lwr_at' (by assumption) rfl hg hs hw (by omega) | (exfalso; omega)) _ (Ow.same_mut (((h2.trans h10).trans (Ow.same_new h_p_2)).trans (Ow.same_new h_D_2)) (Same.free ((h2.trans h10).trans (Ow.same_new h_p_2)) h_D_2))
    · refine fun t_3 h12 h13 h14 h15 Hn_4 h16 => ?_
      refine ⟨_, rfl, ?_⟩
      refine ⟨_, rfl, ?_⟩
      refine ⟨_, _, rfl, rfl, (by first | (walk_at "o2")), fun q_3 h_q_3 => ?_⟩
      refine ⟨_, rfl, ?_⟩
      refine ⟨_, rfl, ?_⟩
      refine ⟨_, rfl, ?_⟩
      refine ⟨_, _, _, _, rfl, (by first | (walk_at "o2")), (by first | (walk_at "o2")), (by first | (walk_at "o2")), (by first | (walk_at "o2")), (by first | (walk_at "o2")), (by first | (walk_at "o2")), (by first | (walk_at "o2")), (by first | (walk_at "o2")), ?_, ?_⟩
      · refine fun h17 Hn_5 h18 => ?_
        refine ⟨by show 2 ≤ sizeLine; decide, fun p_3 h_p_3 => ?_⟩
        refine ⟨_, rfl, ?_⟩
        refine ⟨_, rfl, ⟨_, (SqL.of upd_same)⟩, ?_⟩
        intro D_3 h_D_3
        refine Ow.unlc_start (K := K) (a := p_3) (xs := [.int (t_3), .non]) ?_
        refine ⟨(SqL.of (Ow.at_new h_D_3 upd_same)), ?_⟩
        refine ⟨rfl, ?_⟩
        refine ⟨_, rfl, ?_⟩
        refine ⟨rfl, ?_⟩
        refine ⟨_, rfl, ?_⟩
        refine iteT ?_
        refine ⟨_, rfl, ?_⟩
        refine ⟨_, rfl, ?_⟩
        refine ⟨_, _, rfl, rfl, (by first | (walk_at "o2")), fun s_2 h_s_2 => ?_⟩
        refine ⟨_, upd_same, (by show 0 < sizeLine; decide), ?_⟩
        refine ⟨(SqL.of (Ow.at_mut (ne_of_none upd_same h_D_3) (Ow.at_new h_D_3 upd_same))), ?_⟩
        refine ⟨rfl, ?_⟩
        refine ⟨_, rfl, ?_⟩
        refine ⟨rfl, ?_⟩
        refine ⟨_, rfl, ?_⟩
        refine iteF ?_
        refine ⟨(SqL.of (Ow.at_mut (ne_of_none upd_same h_D_3) (Ow.at_new h_D_3 upd_same))), ?_⟩
        refine ⟨_, rfl, ?_⟩
        refine ⟨_, _, rfl, rfl, ?_⟩
        refine ⟨_, [s_2], _, rfl, rfl, (SqL.of upd_same), fun m_3 h_m_3 => ?_⟩
        refine ⟨_, rfl, ?_⟩
        refine ⟨_, rfl, ?_⟩
        refine ⟨_, _, rfl, rfl, ?_⟩
        refine ⟨_, rfl, ?_⟩
        refine Ow.ifd (fun h19 => ?_) (fun h19 => ?_)
        · try subst h_q
          try subst h_q_2
          try subst h_q_3
          have hm := Ow.mn1 h_m_3
          have hg : ∀ x, 0 ≤ x → x * 2 ^ e.toNat < m_3 → ¬ Ow.TGa (d / 2 ^ e.toNat) f ad (2 ^ t.toNat) x := fun x a b => (by assumption : ∀ x, 0 ≤ x → x < t_3 → ¬ Ow.TGa _ f ad (2 ^ t.toNat) x) x a (Ow.lt_y b (by omega))
          have hs : ∀ x, 0 ≤ x → x * 2 ^ e.toNat < m_3 → ¬ Ow.TSa (d / 2 ^ e.toNat) f ad (2 ^ t.toNat) x := fun x a _ => (by assumption : ∀ x, 0 ≤ x → ¬ Ow.TSa _ f ad (2 ^ t.toNat) x) x a
          have hw : ∃ y0, m_3 = y0 * 2 ^ e.toNat ∧ 0 ≤ y0 ∧ (Ow.TGa (d / 2 ^ e.toNat) f ad (2 ^ t.toNat) y0 ∨ Ow.TSa (d / 2 ^ e.toNat) f ad (2 ^ t.toNat) y0) := ⟨t_3, by omega, by omega, .inl (by assumption)⟩
          exact kont0 (by first | exact Ow.lwr_al (by assumption) rfl hg hs (by omega) | exact Ow.lwr_at' (by assumption) rfl hg hs hw (by omega) | (exfalso; omega)) _ (Ow.same_mut (((h16.trans h18).trans (Ow.same_new h_p_3)).trans (Ow.same_new h_D_3)) (Same.free ((h16.trans h18).trans (Ow.same_new h_p_3)) h_D_3))
        · refine ⟨_, rfl, ?_⟩
          try subst h_q
          try subst h_q_2
          try subst h_q_3
          have hm := Ow.mn1 h_m_3
          have hg : ∀ x, 0 ≤ x → x * 2 ^ e.toNat < m_3 → ¬ Ow.TGa (d / 2 ^ e.toNat) f ad (2 ^ t.toNat) x := fun x a b => (by assumption : ∀ x, 0 ≤ x → x < t_3 → ¬ Ow.TGa _ f ad (2 ^ t.toNat) x) x a (Ow.lt_y b (by omega))
          have hs : ∀ x, 0 ≤ x → x * 2 ^ e.toNat < m_3 → ¬ Ow.TSa (d / 2 ^ e.toNat) f ad (2 ^ t.toNat) x := fun x a _ => (by assumption : ∀ x, 0 ≤ x → ¬ Ow.TSa _ f ad (2 ^ t.toNat) x) x a
          have hw : ∃ y0, m_3 = y0 * 2 ^ e.toNat ∧ 0 ≤ y0 ∧ (Ow.TGa (d / 2 ^ e.toNat) f ad (2 ^ t.toNat) y0 ∨ Ow.TSa (d / 2 ^ e.toNat) f ad (2 ^ t.toNat) y0) := ⟨t_3, by omega, by omega, .inl (by assumption)⟩
          exact kont1 m_3 (by first | exact Ow.lwr_al (by assumption) rfl hg hs (by omega) | exact Ow.lwr_at' (by assumption) rfl hg hs hw (by omega) | (exfalso; omega)) _ (Ow.same_mut (((h16.trans h18).trans (Ow.same_new h_p_3)).trans (Ow.same_new h_D_3)) (Same.free ((h16.trans h18).trans (Ow.same_new h_p_3)) h_D_3))
      · refine fun t_4 h20 h21 h22 h23 Hn_6 h24 => ?_
        refine ⟨by show 2 ≤ sizeLine; decide, fun p_4 h_p_4 => ?_⟩
        refine ⟨_, rfl, ?_⟩
        refine ⟨_, rfl, ⟨_, (SqL.of upd_same)⟩, ?_⟩
        intro D_4 h_D_4
        refine Ow.unlc_start (K := K) (a := p_4) (xs := [.int (t_3), .int (t_4)]) ?_
        refine ⟨(SqL.of (Ow.at_new h_D_4 upd_same)), ?_⟩
        refine ⟨rfl, ?_⟩
        refine ⟨_, rfl, ?_⟩
        refine ⟨rfl, ?_⟩
        refine ⟨_, rfl, ?_⟩
        refine iteT ?_
        refine ⟨_, rfl, ?_⟩
        refine ⟨_, rfl, ?_⟩
        refine ⟨_, _, rfl, rfl, (by first | (walk_at "o2")), fun s_3 h_s_3 => ?_⟩
        refine ⟨_, upd_same, (by show 0 < sizeLine; decide), ?_⟩
        refine ⟨(SqL.of (Ow.at_mut (ne_of_none upd_same h_D_4) (Ow.at_new h_D_4 upd_same))), ?_⟩
        refine ⟨rfl, ?_⟩
        refine ⟨_, rfl, ?_⟩
        refine ⟨rfl, ?_⟩
        refine ⟨_, rfl, ?_⟩
        refine iteT ?_
        refine ⟨_, rfl, ?_⟩
        refine ⟨_, rfl, ?_⟩
        refine ⟨_, _, rfl, rfl, (by first | (walk_at "o2")), fun s_4 h_s_4 => ?_⟩
        refine ⟨_, upd_same, (by show 1 < sizeLine; decide), ?_⟩
        refine ⟨(SqL.of (Ow.at_mut (ne_of_none upd_same h_D_4) (Ow.at_mut (ne_of_none upd_same h_D_4) (Ow.at_new h_D_4 upd_same)))), ?_⟩
        refine ⟨_, rfl, ?_⟩
        refine ⟨_, _, rfl, rfl, ?_⟩
        refine ⟨_, [s_3, s_4], _, rfl, rfl, (SqL.of upd_same), fun m_4 h_m_4 => ?_⟩
        refine ⟨_, rfl, ?_⟩
        refine ⟨_, rfl, ?_⟩
        refine ⟨_, _, rfl, rfl, ?_⟩
        refine ⟨_, rfl, ?_⟩
        refine Ow.ifd (fun h25 => ?_) (fun h25 => ?_)
        · try subst h_q
          try subst h_q_2
          try subst h_q_3
          have hm := Ow.mn2 h_m_4
          have hg : ∀ x, 0 ≤ x → x * 2 ^ e.toNat < m_4 → ¬ Ow.TGa (d / 2 ^ e.toNat) f ad (2 ^ t.toNat) x := fun x a b => (by assumption : ∀ x, 0 ≤ x → x < t_3 → ¬ Ow.TGa _ f ad (2 ^ t.toNat) x) x a (Ow.lt_y b (by omega))
          have hs : ∀ x, 0 ≤ x → x * 2 ^ e.toNat < m_4 → ¬ Ow.TSa (d / 2 ^ e.toNat) f ad (2 ^ t.toNat) x := fun x a b => (by assumption : ∀ x, 0 ≤ x → x < t_4 → ¬ Ow.TSa _ f ad (2 ^ t.toNat) x) x a (Ow.lt_y b (by omega))
          have hw : ∃ y0, m_4 = y0 * 2 ^ e.toNat ∧ 0 ≤ y0 ∧ (Ow.TGa (d / 2 ^ e.toNat) f ad (2 ^ t.toNat) y0 ∨ Ow.TSa (d / 2 ^ e.toNat) f ad (2 ^ t.toNat) y0) := hm.1.elim (fun z => ⟨t_3, by omega, by omega, .inl (by assumption)⟩) (fun z => ⟨t_4, by omega, by omega, .inr (by assumption)⟩)
          exact kont0 (by first | exact Ow.lwr_al (by assumption) rfl hg hs (by omega) | exact Ow.lwr_at' (by assumption) rfl hg hs hw (by omega) | (exfalso; omega)) _ (Ow.same_mut (Ow.same_mut (((h16.trans h24).trans (Ow.same_new h_p_4)).trans (Ow.same_new h_D_4)) (Same.free ((h16.trans h24).trans (Ow.same_new h_p_4)) h_D_4)) (Same.free ((h16.trans h24).trans (Ow.same_new h_p_4)) h_D_4))
        · refine ⟨_, rfl, ?_⟩
          try subst h_q
          try subst h_q_2
          try subst h_q_3
          have hm := Ow.mn2 h_m_4
          have hg : ∀ x, 0 ≤ x → x * 2 ^ e.toNat < m_4 → ¬ Ow.TGa (d / 2 ^ e.toNat) f ad (2 ^ t.toNat) x := fun x a b => (by assumption : ∀ x, 0 ≤ x → x < t_3 → ¬ Ow.TGa _ f ad (2 ^ t.toNat) x) x a (Ow.lt_y b (by omega))
          have hs : ∀ x, 0 ≤ x → x * 2 ^ e.toNat < m_4 → ¬ Ow.TSa (d / 2 ^ e.toNat) f ad (2 ^ t.toNat) x := fun x a b => (by assumption : ∀ x, 0 ≤ x → x < t_4 → ¬ Ow.TSa _ f ad (2 ^ t.toNat) x) x a (Ow.lt_y b (by omega))
          have hw : ∃ y0, m_4 = y0 * 2 ^ e.toNat ∧ 0 ≤ y0 ∧ (Ow.TGa (d / 2 ^ e.toNat) f ad (2 ^ t.toNat) y0 ∨ Ow.TSa (d / 2 ^ e.toNat) f ad (2 ^ t.toNat) y0) := hm.1.elim (fun z => ⟨t_3, by omega, by omega, .inl (by assumption)⟩) (fun z => ⟨t_4, by omega, by omega, .inr (by assumption)⟩)
          exact kont1 m_4 (by first | exact Ow.lwr_al (by assumption) rfl hg hs (by omega) | exact Ow.lwr_at' (by assumption) rfl hg hs hw (by omega) | (exfalso; omega)) _ (Ow.same_mut (Ow.same_mut (((h16.trans h24).trans (Ow.same_new h_p_4)).trans (Ow.same_new h_D_4)) (Same.free ((h16.trans h24).trans (Ow.same_new h_p_4)) h_D_4)) (Same.free ((h16.trans h24).trans (Ow.same_new h_p_4)) h_D_4))
theorem ok_wrong_word (T : Tx K mg) : FnOk P w K mg base CX0 6 T.d_wrong_word.f T.d_wrong_word.fd ["width", "d", "form"] (sp_wrong_word T) := by
  refine T.d_wrong_word.F.ok sc_wrong_word (fun vs H Q E h => ?_) (fun cdv A outer s H vs Q E hr h => ?_)
  · obtain ⟨width, d, form, fm, dx_form, rfl, _⟩ := h
    rfl
  · obtain ⟨width, d, form, fm, dx_form, rfl, c0, c1, c2, c3, c4, c5, c6, kont0, kont1⟩ := h
    have p32_width := Ow.pow2_le32 (w := width) (by omega)
    have p0_width := Ow.p2 width.toNat
    refine ⟨_, (pss_cons (ps_set (i := 3) sc_wrong_word.nd rfl (Or.inl rfl) (pe_call (Ow.ok_numbers_for T) (hr.mono (by decide : 5 ≤ 5)) (by rfl) T.d_numbers_for.m T.d_numbers_for.F.kp T.d_numbers_for.b .nil pass0 (pa_cons (pv 0) (pa_cons (pv 1) (pa_cons (pv 2) pa_nil)))))
        (pss_one (ps_ret (pe_call (Ow.ok_least_wrong T) (hr.mono (by decide : 2 ≤ 5)) (by rfl) T.d_least_wrong.m T.d_least_wrong.F.kp T.d_least_wrong.b .nil pass0 (pa_cons (pe_op op_sub (pe_op Ow.op_shl1 pe_int (pv 0)) pe_int) (pa_cons (pv 1) (pa_cons (pv 3) pa_nil))))))), ?_⟩
    refine ⟨_, rfl, ?_⟩
    refine ⟨_, rfl, ?_⟩
    refine ⟨_, rfl, ?_⟩
    refine ⟨_, _, _, fm, _, rfl, (by first | (walk_at "o2")), (by first | (walk_at "o2")), (by first | (walk_at "o2")), (by first | (walk_at "o2")), c4, (by first | (walk_at "o2")), (by first | (walk_at "o2")), fun p Hn h1 h2 h3 => ?_⟩
    have hn := Ow.nrng (w := width) c5 (by omega) (by omega)
    refine ⟨_, rfl, ?_⟩
    refine ⟨_, rfl, rfl, (by first | (walk_at "o2")), fun B h_B h0_B => ?_⟩
    refine ⟨_, _, rfl, rfl, ?_⟩
    refine ⟨_, rfl, ?_⟩
    refine ⟨_, rfl, ?_⟩
    refine ⟨_, _, _, _, _, _, _, rfl, (by first | (walk_at "o2")), (by first | (walk_at "o2")), (by first | (walk_at "o2")), (by first | (walk_at "o2")), h3, (by first | (walk_at "o2")), (by first | (walk_at "o2")), (by first | (walk_at "o2")), (by first | (walk_at "o2")), (by first | (walk_at "o2")), (by first | (walk_at "o2")), (by first | (walk_at "o2")), (by first | (walk_at "o2")), (by first | (walk_at "o2")), ?_, ?_⟩
    · refine fun h4 Hn_2 h5 => ?_
      exact kont0 (by subst_vars; assumption) _ (h1.trans h5)
    · refine fun t h6 Hn_3 h7 => ?_
      exact kont1 t (by subst_vars; assumption) _ (h1.trans h7)
theorem ok_l_whole (T : Tx K mg) : FnOk P w K mg base CX0 1 T.d_l_whole.f T.d_l_whole.fd ["_law_found"] (sp_l_whole T) := by
  refine T.d_l_whole.F.ok sc_l_whole (fun vs H Q E h => ?_) (fun cdv A outer s H vs Q E hr h => ?_)
  · rcases h with h | h | h | h | h | h | h
    · obtain ⟨thing, rfl, _⟩ := h; rfl
    · obtain ⟨rfl, _⟩ := h; rfl
    · obtain ⟨thing, rfl, _⟩ := h; rfl
    · obtain ⟨thing, rfl, _⟩ := h; rfl
    · obtain ⟨thing, vl, rfl, _⟩ := h; rfl
    · obtain ⟨thing, vl, rfl, _⟩ := h; rfl
    · obtain ⟨thing, rfl, _⟩ := h; rfl
  · refine ⟨_, (pss_one (ps_ret (pe_and (pe_callB call_isi (by rfl) T.z_isinstance (by decide +kernel) (pa_cons (pv 0) (pa_cons (pe_bltn (v := .ty "int") (by rfl) T.z_int (by decide +kernel) rfl) pa_nil))) (pe_one (pe_not (pe_callB call_isi (by rfl) T.z_isinstance (by decide +kernel) (pa_cons (pv 0) (pa_cons (pe_bltn (v := .ty "bool") (by rfl) T.z_bool (by decide +kernel) rfl) pa_nil)))))))), ?_⟩
    rcases h with h | h | h | h | h | h | h
    · obtain ⟨thing, rfl, kont⟩ := h
      refine ⟨_, rfl, ?_⟩
      refine ⟨_, _, _, _, true, rfl, .ty _, .base (.int _), kit_ty (by decide +kernel), ?_⟩
      refine ⟨_, rfl, ?_⟩
      refine iteT ?_
      refine ⟨_, rfl, ?_⟩
      refine ⟨_, _, _, _, false, rfl, .ty _, .base (.int _), kit_ty (by decide +kernel), ?_⟩
      refine ⟨_, rfl, ?_⟩
      exact kont
    · obtain ⟨rfl, kont⟩ := h
      refine ⟨_, rfl, ?_⟩
      refine ⟨_, _, _, _, false, rfl, .ty _, .base (.non), kit_ty (by decide +kernel), ?_⟩
      refine ⟨_, rfl, ?_⟩
      refine iteF ?_
      exact kont
    · obtain ⟨thing, rfl, kont⟩ := h
      refine ⟨_, rfl, ?_⟩
      refine ⟨_, _, _, _, true, rfl, .ty _, .base (.bl _), kit_ty (by decide +kernel), ?_⟩
      refine ⟨_, rfl, ?_⟩
      refine iteT ?_
      refine ⟨_, rfl, ?_⟩
      refine ⟨_, _, _, _, true, rfl, .ty _, .base (.bl _), kit_ty (by decide +kernel), ?_⟩
      refine ⟨_, rfl, ?_⟩
      exact kont
    · obtain ⟨thing, rfl, kont⟩ := h
      refine ⟨_, rfl, ?_⟩
      refine ⟨_, _, _, _, false, rfl, .ty _, .base (.str _), kit_ty (by decide +kernel), ?_⟩
      refine ⟨_, rfl, ?_⟩
      refine iteF ?_
      exact kont
    · obtain ⟨thing, vl, rfl, c0, kont⟩ := h
      refine ⟨_, rfl, ?_⟩
      refine ⟨_, _, _, _, false, rfl, .ty _, .base (.lst c0), kit_ty (by decide +kernel), ?_⟩
      refine ⟨_, rfl, ?_⟩
      refine iteF ?_
      exact kont
    · obtain ⟨thing, vl, rfl, c0, kont⟩ := h
      refine ⟨_, rfl, ?_⟩
      refine ⟨_, _, _, _, false, rfl, .ty _, .base (.tup c0), kit_ty (by decide +kernel), ?_⟩
      refine ⟨_, rfl, ?_⟩
      refine iteF ?_
      exact kont
    · obtain ⟨thing, rfl, c0, kont⟩ := h
      refine ⟨_, rfl, ?_⟩
      refine ⟨_, _, _, _, false, rfl, .ty _, .base (.dK c0), kit_ty (by decide +kernel), ?_⟩
      refine ⟨_, rfl, ?_⟩
      refine iteF ?_
      exact kont
theorem ok_l_things (T : Tx K mg) : FnOk P w K mg base CX0 2 T.d_l_things.f T.d_l_things.fd ["_law_state", "_law_width", "_law_d", "_law_word"] (sp_l_things T) := by
  refine T.d_l_things.F.ok sc_l_things (fun vs H Q E h => ?_) (fun cdv A outer s H vs Q E hr h => ?_)
  · rcases h with h | h
    · obtain ⟨box, width, d, a, c, rfl, _⟩ := h; rfl
    · obtain ⟨box, width, d, word, a, c, rfl, _⟩ := h; rfl
  · refine ⟨_, (pss_cons (ps_set (i := 4) sc_l_things.nd rfl (Or.inl rfl) (pe_lst (pa_cons pe_non (pa_cons pe_bl (pa_cons pe_bl (pa_cons (Ow.pe_lit (-1) (pe_op op_sub pe_int pe_int)) (pa_cons (pe_op Ow.op_shl1 pe_int (pv 1)) (pa_cons (pe_op op_sub (pe_op Ow.op_shl1 pe_int (pv 1)) pe_int) (pa_cons pe_int (pa_cons pe_int (pa_cons (pv 2) (pa_cons pe_str (pa_cons (pe_lst (pa_cons pe_int pa_nil)) (pa_cons (pe_tup (pa_cons pe_int pa_nil)) (pa_cons pe_dnewK pa_nil)))))))))))))))
        (pss_cons (ps_expr (pe_bm PySem.F.plainAttrs_list PySem.F.slot_list_append PySem.F.type_list_append mt_append (pv 4) (pa_cons (pe_call (Ow.ok_l_draw T) (hr.mono (by decide : 1 ≤ 1)) (by rfl) T.d_l_draw.m T.d_l_draw.F.kp T.d_l_draw.b .nil pass0 (pa_cons (pv 0) (pa_cons (pe_op Ow.op_shl1 pe_int (pv 1)) pa_nil))) pa_nil)))
        (pss_cons (ps_expr (pe_bm PySem.F.plainAttrs_list PySem.F.slot_list_append PySem.F.type_list_append mt_append (pv 4) (pa_cons (Ow.pe_nmi (pe_op op_add (pe_op Ow.op_shl1 pe_int (pv 1)) (pe_call (Ow.ok_l_draw T) (hr.mono (by decide : 1 ≤ 1)) (by rfl) T.d_l_draw.m T.d_l_draw.F.kp T.d_l_draw.b .nil pass0 (pa_cons (pv 0) (pa_cons (Ow.pe_lit (1099511627776) (pe_op op_shl pe_int pe_int)) pa_nil))))) pa_nil)))
        (pss_cons (ps_if (pt_val (pe_call (Ow.ok_l_whole T) (hr.mono (by decide : 1 ≤ 1)) (by rfl) T.d_l_whole.m T.d_l_whole.F.kp T.d_l_whole.b .nil pass0 (pa_cons (pv 3) pa_nil))) (pss_cons (ps_expr (pe_bm PySem.F.plainAttrs_list PySem.F.slot_list_append PySem.F.type_list_append mt_append (pv 4) (pa_cons (pv 3) pa_nil)))
        (pss_cons (ps_expr (pe_bm PySem.F.plainAttrs_list PySem.F.slot_list_append PySem.F.type_list_append mt_append (pv 4) (pa_cons (pe_op op_sub (pv 3) pe_int) pa_nil)))
        (pss_cons (ps_expr (pe_bm PySem.F.plainAttrs_list PySem.F.slot_list_append PySem.F.type_list_append mt_append (pv 4) (pa_cons (pe_op op_add (pv 3) pe_int) pa_nil)))
        (pss_cons (ps_expr (pe_bm PySem.F.plainAttrs_list PySem.F.slot_list_append PySem.F.type_list_append mt_append (pv 4) (pa_cons (pe_op op_add (pe_op op_add (pv 3) pe_int) (pe_call (Ow.ok_l_draw T) (hr.mono (by decide : 1 ≤ 1)) (by rfl) T.d_l_draw.m T.d_l_draw.F.kp T.d_l_draw.b .nil pass0 (pa_cons (pv 0) (pa_cons pe_int pa_nil)))) pa_nil)))
        (pss_cons (ps_expr (pe_bm PySem.F.plainAttrs_list PySem.F.slot_list_append PySem.F.type_list_append mt_append (pv 4) (pa_cons (pe_op op_add (pv 3) (pv 2)) pa_nil)))
        (pss_cons (ps_expr (pe_bm PySem.F.plainAttrs_list PySem.F.slot_list_append PySem.F.type_list_append mt_append (pv 4) (pa_cons (pe_callTy call_str_int (by rfl) T.z_str (by decide +kernel) (pa_cons (pv 3) pa_nil)) pa_nil)))
        (pss_one (ps_expr (pe_bm PySem.F.plainAttrs_list PySem.F.slot_list_append PySem.F.type_list_append mt_append (pv 4) (pa_cons (pe_lst (pa_cons (pv 3) pa_nil)) pa_nil)))))))))) pss_nil)
        (pss_one (ps_ret (pv 4))))))), ?_⟩
    rcases h with h | h
    · obtain ⟨box, width, d, a, c, rfl, c0, c1, c2, c3, c4, kont⟩ := h
      have p32_width := Ow.pow2_le32 (w := width) (by omega)
      have p0_width := Ow.p2 width.toNat
      have p32 := Ow.pow2_le32 (w := width) (by omega)
      have pw := Ow.p2 width.toNat
      refine ⟨_, _, rfl, rfl, ?_⟩
      refine ⟨by decide, ?_⟩
      refine ⟨_, rfl, ?_⟩
      refine ⟨_, rfl, rfl, (by first | (walk_at "o2")), fun B h_B h0_B => ?_⟩
      refine ⟨_, rfl, ?_⟩
      refine ⟨_, rfl, rfl, (by first | (walk_at "o2")), fun B_2 h_B_2 h0_B_2 => ?_⟩
      refine ⟨_, _, rfl, rfl, ?_⟩
      refine ⟨_, rfl, ?_⟩
      refine ⟨by show 1 ≤ sizeLine; decide, fun p h_p => ?_⟩
      refine ⟨by show 1 ≤ sizeLine; decide, fun p_2 h_p_2 => ?_⟩
      intro p_3 h_p_3
      refine ⟨by show 13 ≤ sizeLine; decide, fun p_4 h_p_4 => ?_⟩
      refine ⟨_, rfl, ?_⟩
      refine ⟨.inl ⟨rfl, _, (SqL.of upd_same)⟩, ?_⟩
      refine ⟨_, rfl, ?_⟩
      refine ⟨_, rfl, ?_⟩
      refine ⟨_, rfl, rfl, (by first | (walk_at "o2")), fun B_3 h_B_3 h0_B_3 => ?_⟩
      refine ⟨_, _, _, _, rfl, (Ow.at_new h_p_4 (Ow.at_new h_p_3 (Ow.at_new h_p_2 (Ow.at_new h_p c0)))), (by first | (walk_at "o2")), (by first | (walk_at "o2")), fun ap a2 c2 h1 h2 => ?_⟩
      refine ⟨_, _, _, rfl, rfl, (Ow.at_mut (Ow.ne_sym (ne_of_none (Ow.at_new h_p_3 (Ow.at_new h_p_2 (Ow.at_new h_p c0))) h_p_4)) upd_same), (by show 13 < sizeLine; decide), ?_⟩
      refine ⟨_, rfl, ?_⟩
      refine ⟨.inl ⟨rfl, _, (SqL.of upd_same)⟩, ?_⟩
      refine ⟨_, rfl, ?_⟩
      refine ⟨_, rfl, rfl, (by first | (walk_at "o2")), fun B_4 h_B_4 h0_B_4 => ?_⟩
      refine ⟨_, rfl, ?_⟩
      refine ⟨_, _, rfl, rfl, ⟨by decide, by decide, by decide⟩, ?_⟩
      refine ⟨by decide, ?_⟩
      refine ⟨_, _, _, _, rfl, (Ow.at_mut (ne_of_none (Ow.at_new h_p_3 (Ow.at_new h_p_2 (Ow.at_new h_p c0))) h_p_4) upd_same), (by first | (walk_at "o2")), (by first | (walk_at "o2")), fun t a2_2 c2_2 h3 h4 => ?_⟩
      refine ⟨_, _, rfl, rfl, ?_⟩
      refine ⟨_, rfl, fun ap_2 h_ap_2 => ?_⟩
      refine ⟨_, _, _, rfl, rfl, (Ow.at_mut (Ow.ne_sym (ne_of_none (Ow.at_new h_p_3 (Ow.at_new h_p_2 (Ow.at_new h_p c0))) h_p_4)) upd_same), (by show 14 < sizeLine; decide), ?_⟩
      refine ⟨_, rfl, ?_⟩
      refine Or.inr (Or.inl ?_)
      refine ⟨rfl, ?_⟩
      refine ⟨_, rfl, ?_⟩
      refine iteF ?_
      refine ⟨_, rfl, ?_⟩
      try subst h_B
      try subst h_B_2
      try subst h_B_3
      try subst h_B_4
      try subst h_B_5
      try subst h_B_6
      try subst h_B_7
      try subst h_B_8
      exact kont ap ap_2 a2_2 c2_2 (by first | (walk_at "o2")) (by first | (walk_at "o2")) (by first | (walk_at "o2")) (by first | (walk_at "o2")) _ _ _ _ _ ((((((((Ow.Fm.refl.same (Ow.same_new h_p)).same (Ow.same_new h_p_2)).same (Ow.same_new h_p_3)).same (Ow.same_new h_p_4)).mut).mutF (Same.free (((Ow.same_new h_p).trans (Ow.same_new h_p_2)).trans (Ow.same_new h_p_3)) h_p_4)).mut).mutF (Same.free (((Ow.same_new h_p).trans (Ow.same_new h_p_2)).trans (Ow.same_new h_p_3)) h_p_4)) (Ow.at_mut (ne_of_none (Ow.at_new h_p_3 (Ow.at_new h_p_2 (Ow.at_new h_p c0))) h_p_4) upd_same) (Same.free (((Ow.same_new h_p).trans (Ow.same_new h_p_2)).trans (Ow.same_new h_p_3)) h_p_4) h_p (Same.free (Ow.same_new h_p) h_p_2) (Same.free ((Ow.same_new h_p).trans (Ow.same_new h_p_2)) h_p_3) upd_same (Ow.at_mut (ne_of_none (Ow.at_new h_p_3 (Ow.at_new h_p_2 upd_same)) h_p_4) (Ow.at_mut (Ow.ne_sym (ne_of_none c0 h_p)) (Ow.at_mut (ne_of_none (Ow.at_new h_p_3 (Ow.at_new h_p_2 upd_same)) h_p_4) (Ow.at_mut (Ow.ne_sym (ne_of_none c0 h_p)) (Ow.at_new h_p_4 (Ow.at_new h_p_3 (Ow.at_new h_p_2 upd_same))))))) (Ow.at_mutT (Ow.at_mut (Ow.ne_sym (ne_of_none (Ow.at_new h_p_3 (Ow.at_new h_p_2 (Ow.at_new h_p c0))) h_p_4)) upd_same) (Ow.at_mutT (Ow.at_mut (ne_of_none (Ow.at_new h_p_3 (Ow.at_new h_p_2 (Ow.at_new h_p c0))) h_p_4) upd_same) (Ow.at_mutT (Ow.at_mut (Ow.ne_sym (ne_of_none (Ow.at_new h_p_3 (Ow.at_new h_p_2 (Ow.at_new h_p c0))) h_p_4)) upd_same) (Ow.at_mutT (Ow.at_new h_p_4 (Ow.at_new h_p_3 (Ow.at_new h_p_2 (Ow.at_new h_p c0)))) (Ow.at_new h_p_4 (Ow.at_new h_p_3 upd_same)))))) (Ow.at_mut (ne_of_none upd_same h_p_4) (Ow.at_mut (Ow.ne_sym (ne_of_none (Ow.at_new h_p_2 (Ow.at_new h_p c0)) h_p_3)) (Ow.at_mut (ne_of_none upd_same h_p_4) (Ow.at_mut (Ow.ne_sym (ne_of_none (Ow.at_new h_p_2 (Ow.at_new h_p c0)) h_p_3)) (Ow.at_new h_p_4 upd_same))))) (Ow.ne_sym (ne_of_none (Ow.at_new h_p_3 (Ow.at_new h_p_2 upd_same)) h_p_4))
    · obtain ⟨box, width, d, word, a, c, rfl, c0, c1, c2, c3, c4, c5, c6, kont⟩ := h
      have p32_width := Ow.pow2_le32 (w := width) (by omega)
      have p0_width := Ow.p2 width.toNat
      have p32 := Ow.pow2_le32 (w := width) (by omega)
      have pw := Ow.p2 width.toNat
      refine ⟨_, _, rfl, rfl, ?_⟩
      refine ⟨by decide, ?_⟩
      refine ⟨_, rfl, ?_⟩
      refine ⟨_, rfl, rfl, (by first | (walk_at "o2")), fun B_5 h_B_5 h0_B_5 => ?_⟩
      refine ⟨_, rfl, ?_⟩
      refine ⟨_, rfl, rfl, (by first | (walk_at "o2")), fun B_6 h_B_6 h0_B_6 => ?_⟩
      refine ⟨_, _, rfl, rfl, ?_⟩
      refine ⟨_, rfl, ?_⟩
      refine ⟨by show 1 ≤ sizeLine; decide, fun p_5 h_p_5 => ?_⟩
      refine ⟨by show 1 ≤ sizeLine; decide, fun p_6 h_p_6 => ?_⟩
      intro p_7 h_p_7
      refine ⟨by show 13 ≤ sizeLine; decide, fun p_8 h_p_8 => ?_⟩
      refine ⟨_, rfl, ?_⟩
      refine ⟨.inl ⟨rfl, _, (SqL.of upd_same)⟩, ?_⟩
      refine ⟨_, rfl, ?_⟩
      refine ⟨_, rfl, ?_⟩
      refine ⟨_, rfl, rfl, (by first | (walk_at "o2")), fun B_7 h_B_7 h0_B_7 => ?_⟩
      refine ⟨_, _, _, _, rfl, (Ow.at_new h_p_8 (Ow.at_new h_p_7 (Ow.at_new h_p_6 (Ow.at_new h_p_5 c0)))), (by first | (walk_at "o2")), (by first | (walk_at "o2")), fun ap_3 a2_3 c2_3 h5 h6 => ?_⟩
      refine ⟨_, _, _, rfl, rfl, (Ow.at_mut (Ow.ne_sym (ne_of_none (Ow.at_new h_p_7 (Ow.at_new h_p_6 (Ow.at_new h_p_5 c0))) h_p_8)) upd_same), (by show 13 < sizeLine; decide), ?_⟩
      refine ⟨_, rfl, ?_⟩
      refine ⟨.inl ⟨rfl, _, (SqL.of upd_same)⟩, ?_⟩
      refine ⟨_, rfl, ?_⟩
      refine ⟨_, rfl, rfl, (by first | (walk_at "o2")), fun B_8 h_B_8 h0_B_8 => ?_⟩
      refine ⟨_, rfl, ?_⟩
      refine ⟨_, _, rfl, rfl, ⟨by decide, by decide, by decide⟩, ?_⟩
      refine ⟨by decide, ?_⟩
      refine ⟨_, _, _, _, rfl, (Ow.at_mut (ne_of_none (Ow.at_new h_p_7 (Ow.at_new h_p_6 (Ow.at_new h_p_5 c0))) h_p_8) upd_same), (by first | (walk_at "o2")), (by first | (walk_at "o2")), fun t_2 a2_4 c2_4 h7 h8 => ?_⟩
      refine ⟨_, _, rfl, rfl, ?_⟩
      refine ⟨_, rfl, fun ap_4 h_ap_4 => ?_⟩
      refine ⟨_, _, _, rfl, rfl, (Ow.at_mut (Ow.ne_sym (ne_of_none (Ow.at_new h_p_7 (Ow.at_new h_p_6 (Ow.at_new h_p_5 c0))) h_p_8)) upd_same), (by show 14 < sizeLine; decide), ?_⟩
      refine ⟨_, rfl, ?_⟩
      refine Or.inl ?_
      refine ⟨_, rfl, ?_⟩
      refine ⟨_, rfl, ?_⟩
      refine iteT ?_
      refine ⟨_, rfl, ?_⟩
      refine ⟨.inl ⟨rfl, _, (SqL.of upd_same)⟩, ?_⟩
      refine ⟨_, rfl, ?_⟩
      refine ⟨_, _, _, rfl, rfl, upd_same, (by show 15 < sizeLine; decide), ?_⟩
      refine ⟨_, rfl, ?_⟩
      refine ⟨.inl ⟨rfl, _, (SqL.of upd_same)⟩, ?_⟩
      refine ⟨_, rfl, ?_⟩
      refine ⟨_, _, rfl, rfl, ?_⟩
      refine ⟨_, _, _, rfl, rfl, upd_same, (by show 16 < sizeLine; decide), ?_⟩
      refine ⟨_, rfl, ?_⟩
      refine ⟨.inl ⟨rfl, _, (SqL.of upd_same)⟩, ?_⟩
      refine ⟨_, rfl, ?_⟩
      refine ⟨_, _, rfl, rfl, ?_⟩
      refine ⟨_, _, _, rfl, rfl, upd_same, (by show 17 < sizeLine; decide), ?_⟩
      refine ⟨_, rfl, ?_⟩
      refine ⟨.inl ⟨rfl, _, (SqL.of upd_same)⟩, ?_⟩
      refine ⟨_, rfl, ?_⟩
      refine ⟨_, _, rfl, rfl, ?_⟩
      refine ⟨_, rfl, ?_⟩
      refine ⟨_, _, _, _, rfl, (Ow.at_mut (ne_of_none (Ow.at_new h_p_7 (Ow.at_new h_p_6 (Ow.at_new h_p_5 c0))) h_p_8) (Ow.at_mut (ne_of_none (Ow.at_new h_p_7 (Ow.at_new h_p_6 (Ow.at_new h_p_5 c0))) h_p_8) (Ow.at_mut (ne_of_none (Ow.at_new h_p_7 (Ow.at_new h_p_6 (Ow.at_new h_p_5 c0))) h_p_8) (Ow.at_mut (ne_of_none (Ow.at_new h_p_7 (Ow.at_new h_p_6 (Ow.at_new h_p_5 c0))) h_p_8) upd_same)))), (by first | (walk_at "o2")), (by first | (walk_at "o2")), fun t_3 a2_5 c2_5 h9 h10 => ?_⟩
      refine ⟨_, _, rfl, rfl, ?_⟩
      refine ⟨_, _, _, rfl, rfl, (Ow.at_mut (Ow.ne_sym (ne_of_none (Ow.at_new h_p_7 (Ow.at_new h_p_6 (Ow.at_new h_p_5 c0))) h_p_8)) upd_same), (by show 18 < sizeLine; decide), ?_⟩
      refine ⟨_, rfl, ?_⟩
      refine ⟨.inl ⟨rfl, _, (SqL.of upd_same)⟩, ?_⟩
      refine ⟨_, rfl, ?_⟩
      refine ⟨_, rfl, ?_⟩
      refine ⟨_, _, rfl, rfl, ?_⟩
      refine ⟨_, _, _, rfl, rfl, upd_same, (by show 19 < sizeLine; decide), ?_⟩
      refine ⟨_, rfl, ?_⟩
      refine ⟨.inl ⟨rfl, _, (SqL.of upd_same)⟩, ?_⟩
      refine ⟨_, rfl, ?_⟩
      refine ⟨_, rfl, (by exact Ow.log2_small (by omega) (by omega)), ?_⟩
      refine ⟨_, _, _, rfl, rfl, upd_same, (by show 20 < sizeLine; decide), ?_⟩
      refine ⟨_, rfl, ?_⟩
      refine ⟨.inl ⟨rfl, _, (SqL.of upd_same)⟩, ?_⟩
      refine ⟨_, rfl, ?_⟩
      refine ⟨by show 1 ≤ sizeLine; decide, fun p_9 h_p_9 => ?_⟩
      refine ⟨_, _, _, rfl, rfl, (Ow.at_new h_p_9 upd_same), (by show 21 < sizeLine; decide), ?_⟩
      refine ⟨_, rfl, ?_⟩
      try subst h_B
      try subst h_B_2
      try subst h_B_3
      try subst h_B_4
      try subst h_B_5
      try subst h_B_6
      try subst h_B_7
      try subst h_B_8
      exact kont ap_3 ap_4 ((word + 1) + t_3) ((toString word)) a2_5 c2_5 (by first | (walk_at "o2")) (by first | (walk_at "o2")) (by first | (walk_at "o2")) (by first | (walk_at "o2")) (by first | (walk_at "o2")) (by first | (walk_at "o2")) _ _ _ _ _ _ (((((((((((((((((Ow.Fm.refl.same (Ow.same_new h_p_5)).same (Ow.same_new h_p_6)).same (Ow.same_new h_p_7)).same (Ow.same_new h_p_8)).mut).mutF (Same.free (((Ow.same_new h_p_5).trans (Ow.same_new h_p_6)).trans (Ow.same_new h_p_7)) h_p_8)).mut).mutF (Same.free (((Ow.same_new h_p_5).trans (Ow.same_new h_p_6)).trans (Ow.same_new h_p_7)) h_p_8)).mutF (Same.free (((Ow.same_new h_p_5).trans (Ow.same_new h_p_6)).trans (Ow.same_new h_p_7)) h_p_8)).mutF (Same.free (((Ow.same_new h_p_5).trans (Ow.same_new h_p_6)).trans (Ow.same_new h_p_7)) h_p_8)).mutF (Same.free (((Ow.same_new h_p_5).trans (Ow.same_new h_p_6)).trans (Ow.same_new h_p_7)) h_p_8)).mut).mutF (Same.free (((Ow.same_new h_p_5).trans (Ow.same_new h_p_6)).trans (Ow.same_new h_p_7)) h_p_8)).mutF (Same.free (((Ow.same_new h_p_5).trans (Ow.same_new h_p_6)).trans (Ow.same_new h_p_7)) h_p_8)).mutF (Same.free (((Ow.same_new h_p_5).trans (Ow.same_new h_p_6)).trans (Ow.same_new h_p_7)) h_p_8)).same (Ow.same_new h_p_9)).mutF (Same.free (((Ow.same_new h_p_5).trans (Ow.same_new h_p_6)).trans (Ow.same_new h_p_7)) h_p_8)) (Ow.at_mut (ne_of_none (Ow.at_new h_p_7 (Ow.at_new h_p_6 (Ow.at_new h_p_5 c0))) h_p_8) (Ow.at_new h_p_9 (Ow.at_mut (ne_of_none (Ow.at_new h_p_7 (Ow.at_new h_p_6 (Ow.at_new h_p_5 c0))) h_p_8) (Ow.at_mut (ne_of_none (Ow.at_new h_p_7 (Ow.at_new h_p_6 (Ow.at_new h_p_5 c0))) h_p_8) (Ow.at_mut (ne_of_none (Ow.at_new h_p_7 (Ow.at_new h_p_6 (Ow.at_new h_p_5 c0))) h_p_8) upd_same))))) (Same.free (((Ow.same_new h_p_5).trans (Ow.same_new h_p_6)).trans (Ow.same_new h_p_7)) h_p_8) h_p_5 (Same.free (Ow.same_new h_p_5) h_p_6) (Same.free ((Ow.same_new h_p_5).trans (Ow.same_new h_p_6)) h_p_7) (Ow.Fm.free (((((((((((((((Ow.Fm.refl.same (Ow.same_new h_p_5)).same (Ow.same_new h_p_6)).same (Ow.same_new h_p_7)).same (Ow.same_new h_p_8)).mut).mutF (Same.free (((Ow.same_new h_p_5).trans (Ow.same_new h_p_6)).trans (Ow.same_new h_p_7)) h_p_8)).mut).mutF (Same.free (((Ow.same_new h_p_5).trans (Ow.same_new h_p_6)).trans (Ow.same_new h_p_7)) h_p_8)).mutF (Same.free (((Ow.same_new h_p_5).trans (Ow.same_new h_p_6)).trans (Ow.same_new h_p_7)) h_p_8)).mutF (Same.free (((Ow.same_new h_p_5).trans (Ow.same_new h_p_6)).trans (Ow.same_new h_p_7)) h_p_8)).mutF (Same.free (((Ow.same_new h_p_5).trans (Ow.same_new h_p_6)).trans (Ow.same_new h_p_7)) h_p_8)).mut).mutF (Same.free (((Ow.same_new h_p_5).trans (Ow.same_new h_p_6)).trans (Ow.same_new h_p_7)) h_p_8)).mutF (Same.free (((Ow.same_new h_p_5).trans (Ow.same_new h_p_6)).trans (Ow.same_new h_p_7)) h_p_8)).mutF (Same.free (((Ow.same_new h_p_5).trans (Ow.same_new h_p_6)).trans (Ow.same_new h_p_7)) h_p_8)) (Ow.at_mut (ne_of_none (Ow.at_new h_p_7 (Ow.at_new h_p_6 (Ow.at_new h_p_5 c0))) h_p_8) (Ow.at_mut (ne_of_none (Ow.at_new h_p_7 (Ow.at_new h_p_6 (Ow.at_new h_p_5 c0))) h_p_8) (Ow.at_mut (ne_of_none (Ow.at_new h_p_7 (Ow.at_new h_p_6 (Ow.at_new h_p_5 c0))) h_p_8) upd_same))) h_p_9) upd_same (Ow.at_mut (ne_of_none (Ow.at_new h_p_7 (Ow.at_new h_p_6 upd_same)) h_p_8) (Ow.at_new h_p_9 (Ow.at_mut (ne_of_none (Ow.at_new h_p_7 (Ow.at_new h_p_6 upd_same)) h_p_8) (Ow.at_mut (ne_of_none (Ow.at_new h_p_7 (Ow.at_new h_p_6 upd_same)) h_p_8) (Ow.at_mut (ne_of_none (Ow.at_new h_p_7 (Ow.at_new h_p_6 upd_same)) h_p_8) (Ow.at_mut (Ow.ne_sym (ne_of_none c0 h_p_5)) (Ow.at_mut (ne_of_none (Ow.at_new h_p_7 (Ow.at_new h_p_6 upd_same)) h_p_8) (Ow.at_mut (ne_of_none (Ow.at_new h_p_7 (Ow.at_new h_p_6 upd_same)) h_p_8) (Ow.at_mut (ne_of_none (Ow.at_new h_p_7 (Ow.at_new h_p_6 upd_same)) h_p_8) (Ow.at_mut (ne_of_none (Ow.at_new h_p_7 (Ow.at_new h_p_6 upd_same)) h_p_8) (Ow.at_mut (Ow.ne_sym (ne_of_none c0 h_p_5)) (Ow.at_mut (ne_of_none (Ow.at_new h_p_7 (Ow.at_new h_p_6 upd_same)) h_p_8) (Ow.at_mut (Ow.ne_sym (ne_of_none c0 h_p_5)) (Ow.at_new h_p_8 (Ow.at_new h_p_7 (Ow.at_new h_p_6 upd_same)))))))))))))))) (Ow.at_mutT (Ow.at_new h_p_9 upd_same) (Ow.at_new h_p_9 (Ow.at_mutT upd_same (Ow.at_mutT upd_same (Ow.at_mutT (Ow.at_mut (Ow.ne_sym (ne_of_none (Ow.at_new h_p_7 (Ow.at_new h_p_6 (Ow.at_new h_p_5 c0))) h_p_8)) upd_same) (Ow.at_mutT (Ow.at_mut (ne_of_none (Ow.at_new h_p_7 (Ow.at_new h_p_6 (Ow.at_new h_p_5 c0))) h_p_8) (Ow.at_mut (ne_of_none (Ow.at_new h_p_7 (Ow.at_new h_p_6 (Ow.at_new h_p_5 c0))) h_p_8) (Ow.at_mut (ne_of_none (Ow.at_new h_p_7 (Ow.at_new h_p_6 (Ow.at_new h_p_5 c0))) h_p_8) (Ow.at_mut (ne_of_none (Ow.at_new h_p_7 (Ow.at_new h_p_6 (Ow.at_new h_p_5 c0))) h_p_8) upd_same)))) (Ow.at_mutT upd_same (Ow.at_mutT upd_same (Ow.at_mutT upd_same (Ow.at_mutT (Ow.at_mut (Ow.ne_sym (ne_of_none (Ow.at_new h_p_7 (Ow.at_new h_p_6 (Ow.at_new h_p_5 c0))) h_p_8)) upd_same) (Ow.at_mutT (Ow.at_mut (ne_of_none (Ow.at_new h_p_7 (Ow.at_new h_p_6 (Ow.at_new h_p_5 c0))) h_p_8) upd_same) (Ow.at_mutT (Ow.at_mut (Ow.ne_sym (ne_of_none (Ow.at_new h_p_7 (Ow.at_new h_p_6 (Ow.at_new h_p_5 c0))) h_p_8)) upd_same) (Ow.at_mutT (Ow.at_new h_p_8 (Ow.at_new h_p_7 (Ow.at_new h_p_6 (Ow.at_new h_p_5 c0)))) (Ow.at_new h_p_8 (Ow.at_new h_p_7 upd_same))))))))))))))) (Ow.at_mut (ne_of_none upd_same h_p_8) (Ow.at_new h_p_9 (Ow.at_mut (ne_of_none upd_same h_p_8) (Ow.at_mut (ne_of_none upd_same h_p_8) (Ow.at_mut (ne_of_none upd_same h_p_8) (Ow.at_mut (Ow.ne_sym (ne_of_none (Ow.at_new h_p_6 (Ow.at_new h_p_5 c0)) h_p_7)) (Ow.at_mut (ne_of_none upd_same h_p_8) (Ow.at_mut (ne_of_none upd_same h_p_8) (Ow.at_mut (ne_of_none upd_same h_p_8) (Ow.at_mut (ne_of_none upd_same h_p_8) (Ow.at_mut (Ow.ne_sym (ne_of_none (Ow.at_new h_p_6 (Ow.at_new h_p_5 c0)) h_p_7)) (Ow.at_mut (ne_of_none upd_same h_p_8) (Ow.at_mut (Ow.ne_sym (ne_of_none (Ow.at_new h_p_6 (Ow.at_new h_p_5 c0)) h_p_7)) (Ow.at_new h_p_8 upd_same)))))))))))))) (Ow.at_mut (Ow.ne_sym (ne_of_none upd_same h_p_9)) upd_same) (Ow.ne_sym (ne_of_none (Ow.at_new h_p_7 (Ow.at_new h_p_6 upd_same)) h_p_8)) (ne_of_none upd_same h_p_9) (ne_of_none (Ow.at_mut (ne_of_none (Ow.at_new h_p_7 (Ow.at_new h_p_6 upd_same)) h_p_8) (Ow.at_mut (ne_of_none (Ow.at_new h_p_7 (Ow.at_new h_p_6 upd_same)) h_p_8) (Ow.at_mut (ne_of_none (Ow.at_new h_p_7 (Ow.at_new h_p_6 upd_same)) h_p_8) (Ow.at_mut (Ow.ne_sym (ne_of_none c0 h_p_5)) (Ow.at_mut (ne_of_none (Ow.at_new h_p_7 (Ow.at_new h_p_6 upd_same)) h_p_8) (Ow.at_mut (ne_of_none (Ow.at_new h_p_7 (Ow.at_new h_p_6 upd_same)) h_p_8) (Ow.at_mut (ne_of_none (Ow.at_new h_p_7 (Ow.at_new h_p_6 upd_same)) h_p_8) (Ow.at_mut (ne_of_none (Ow.at_new h_p_7 (Ow.at_new h_p_6 upd_same)) h_p_8) (Ow.at_mut (Ow.ne_sym (ne_of_none c0 h_p_5)) (Ow.at_mut (ne_of_none (Ow.at_new h_p_7 (Ow.at_new h_p_6 upd_same)) h_p_8) (Ow.at_mut (Ow.ne_sym (ne_of_none c0 h_p_5)) (Ow.at_new h_p_8 (Ow.at_new h_p_7 (Ow.at_new h_p_6 upd_same)))))))))))))) h_p_9)
theorem ok_l_corners (T : Tx K mg) : FnOk P w K mg base CX0 1 T.d_l_corners.f T.d_l_corners.fd ["_law_last", "_law_d"] (sp_l_corners T) := by
  refine T.d_l_corners.F.ok sc_l_corners (fun vs H Q E h => ?_) (fun cdv A outer s H vs Q E hr h => ?_)
  · obtain ⟨last, d, rfl, _⟩ := h
    rfl
  · obtain ⟨last, d, rfl, c0, c1, c2, c3, kont⟩ := h
    refine ⟨_, (pss_cons (ps_set (i := 2) sc_l_corners.nd rfl (Or.inl rfl) (pe_op Ow.op_divN (pv 0) (pv 1)))
        (pss_cons (ps_set (i := 3) sc_l_corners.nd rfl (Or.inl rfl) (pe_lst pa_nil))
        (pss_cons (ps_for PassesOwn.never rfl (pi_list (pe_lst (pa_cons pe_int (pa_cons (Ow.pe_nmi (pe_callB (call_min2 rfl) (by rfl) T.z_min (by decide +kernel) (pa_cons (pe_op op_sub (pv 1) pe_int) (pa_cons (pv 0) pa_nil)))) (pa_cons (pe_op op_sub (pe_op Ow.op_mulN (pv 2) (pv 1)) pe_int) (pa_cons (pe_op Ow.op_mulN (pv 2) (pv 1)) (pa_cons (pv 0) pa_nil))))))) (pg_name (i := 4) sc_l_corners.nd rfl (Or.inl rfl)) (pss_one (ps_if (PW.pt (pw_and (pt_cmpR op_ge (pv 4) pe_int (nomark _)) (pw_and1 (pt_cmpR Ow.op_notInI (pv 4) (pv 3) rfl)))) (pss_one (ps_expr (pe_bm PySem.F.plainAttrs_list PySem.F.slot_list_append PySem.F.type_list_append mt_append (pv 3) (pa_cons (pv 4) pa_nil)))) pss_nil)))
        (pss_one (ps_ret (pe_callB cr_sortedI (by rfl) T.z_sorted (by decide +kernel) (pa_cons (pv 3) pa_nil))))))), ?_⟩
    refine ⟨_, rfl, ?_⟩
    refine ⟨_, rfl, ?_⟩
    refine ⟨_, _, rfl, rfl, (by first | (walk_at "o2")), fun l_q h_l_q => ?_⟩
    have qd := Ow.qd_pos (last := last) (d := d) (by omega) (by omega) h_l_q rfl
    refine ⟨by show 0 ≤ sizeLine; decide, fun p h_p => ?_⟩
    refine ⟨_, rfl, ?_⟩
    refine ⟨_, _, rfl, rfl, ?_⟩
    refine ⟨_, rfl, ?_⟩
    refine ⟨_, _, rfl, ?_⟩
    refine ⟨_, rfl, fun m h_m => ?_⟩
    have hm_m := Ow.min_ite h_m
    refine ⟨_, rfl, ?_⟩
    refine ⟨_, rfl, ?_⟩
    refine ⟨_, _, rfl, rfl, (by first | (walk_at "o2")), fun m_2 h_m_2 => ?_⟩
    refine ⟨_, _, rfl, rfl, ?_⟩
    refine ⟨_, rfl, ?_⟩
    refine ⟨_, rfl, ?_⟩
    refine ⟨_, _, rfl, rfl, (by first | (walk_at "o2")), fun m_3 h_m_3 => ?_⟩
    refine ⟨_, rfl, ?_⟩
    refine ⟨by show 5 ≤ sizeLine; decide, fun p_2 h_p_2 => ?_⟩
    refine ⟨_, rfl, ⟨_, (SqL.of upd_same)⟩, ?_⟩
    refine for_list (K := K) (a := p_2) (xs := [.int (0), .int (m), .int (m_2 - 1), .int (m_3), .int (last)]) (fun ixv σ2 H2 => ∃ (p : Addr) (xs : List Int) (v_4 : Option V), σ2 = [some (.int (last)), some (.int (d)), some (.int (l_q)), some (.ref p), v_4] ∧ Same H H2 ∧ H2 p = some (.lst (xs.map V.int)) ∧ H p = none ∧ H2 p_2 = some (.lst [.int (0), .int (m), .int (m_2 - 1), .int (m_3), .int (last)]) ∧ p ≠ p_2 ∧ (xs.Nodup) ∧ (xs.length ≤ ixv) ∧ (∀ k, k ∈ xs ↔ 0 ≤ k ∧ k ∈ List.take ixv [0, m, m_2 - 1, m_3, last]) ∧ True) ⟨p, [], _, rfl, ((Ow.same_new h_p).trans (Ow.same_new h_p_2)), (Ow.at_new h_p_2 upd_same), h_p, upd_same, (ne_of_none upd_same h_p_2), (by first | exact List.nodup_nil | exact Nat.le_refl 0 | (intro k; simp)), (by first | exact List.nodup_nil | exact Nat.le_refl 0 | (intro k; simp)), (by first | exact List.nodup_nil | exact Nat.le_refl 0 | (intro k; simp)), trivial⟩ (fun i σ2 H2 _ hz => ?_) ?_ ?_
    · obtain ⟨p_3, xs, _, rfl, h1, h2, h3, h4, h5, h6, h7, h8, _⟩ := hz
      exact (SqL.of h4)
    · rintro i xit _ Hn h9 ⟨p_4, xs_2, _, rfl, h10, h11, h12, h13, h14, h15, h16, h17, _⟩
      obtain ⟨l_x, rfl, h_l_x⟩ := Ow.ints_get (xs := [0, m, m_2 - 1, m_3, last]) h9
      refine ⟨_, rfl, ?_⟩
      refine ⟨_, _, rfl, rfl, ?_⟩
      refine ⟨_, rfl, ?_⟩
      refine Ow.ifd (fun h18 => ?_) (fun h18 => ?_)
      · refine ⟨_, rfl, ?_⟩
        refine ⟨_, rfl, ?_⟩
        refine ⟨_, _, xs_2, rfl, rfl, (SqL.of h11), ?_⟩
        refine ⟨_, rfl, ?_⟩
        refine Ow.ifnd (fun h19 => ?_) (fun h19 => ?_)
        · refine ⟨_, rfl, ?_⟩
          refine ⟨.inl ⟨rfl, _, (SqL.of h11)⟩, ?_⟩
          refine ⟨_, rfl, ?_⟩
          refine ⟨_, _, _, rfl, rfl, h11, (Ow.szl (by rw [List.length_map]; have := (List.getElem?_eq_some_iff.mp h_l_x).1; simp at this; omega)), ?_⟩
          exact ⟨p_4, (xs_2 ++ [l_x]), _, rfl, (Ow.same_mut h10 h12), (Ow.ap_ints upd_same), h12, (Ow.at_mut (Ow.ne_sym h14) h13), h14, (by first | assumption | omega | exact Ow.nodup_snoc (by assumption) (by assumption) | (rw [List.length_append]; simp only [List.length_cons, List.length_nil]; omega) | exact Ow.take_add (by assumption) (by assumption) (by assumption) | exact Ow.take_skip (by assumption) (.inl (by assumption)) (by assumption) | exact Ow.take_skip (by assumption) (.inr (by assumption)) (by assumption)), (by first | assumption | omega | exact Ow.nodup_snoc (by assumption) (by assumption) | (rw [List.length_append]; simp only [List.length_cons, List.length_nil]; omega) | exact Ow.take_add (by assumption) (by assumption) (by assumption) | exact Ow.take_skip (by assumption) (.inl (by assumption)) (by assumption) | exact Ow.take_skip (by assumption) (.inr (by assumption)) (by assumption)), (by first | assumption | omega | exact Ow.nodup_snoc (by assumption) (by assumption) | (rw [List.length_append]; simp only [List.length_cons, List.length_nil]; omega) | exact Ow.take_add (by assumption) (by assumption) (by assumption) | exact Ow.take_skip (by assumption) (.inl (by assumption)) (by assumption) | exact Ow.take_skip (by assumption) (.inr (by assumption)) (by assumption)), trivial⟩
        · exact ⟨p_4, xs_2, _, rfl, h10, h11, h12, h13, h14, (by first | assumption | omega | exact Ow.nodup_snoc (by assumption) (by assumption) | (rw [List.length_append]; simp only [List.length_cons, List.length_nil]; omega) | exact Ow.take_add (by assumption) (by assumption) (by assumption) | exact Ow.take_skip (by assumption) (.inl (by assumption)) (by assumption) | exact Ow.take_skip (by assumption) (.inr (by assumption)) (by assumption)), (by first | assumption | omega | exact Ow.nodup_snoc (by assumption) (by assumption) | (rw [List.length_append]; simp only [List.length_cons, List.length_nil]; omega) | exact Ow.take_add (by assumption) (by assumption) (by assumption) | exact Ow.take_skip (by assumption) (.inl (by assumption)) (by assumption) | exact Ow.take_skip (by assumption) (.inr (by assumption)) (by assumption)), (by first | assumption | omega | exact Ow.nodup_snoc (by assumption) (by assumption) | (rw [List.length_append]; simp only [List.length_cons, List.length_nil]; omega) | exact Ow.take_add (by assumption) (by assumption) (by assumption) | exact Ow.take_skip (by assumption) (.inl (by assumption)) (by assumption) | exact Ow.take_skip (by assumption) (.inr (by assumption)) (by assumption)), trivial⟩
      · refine iteF ?_
        exact ⟨p_4, xs_2, _, rfl, h10, h11, h12, h13, h14, (by first | assumption | omega | exact Ow.nodup_snoc (by assumption) (by assumption) | (rw [List.length_append]; simp only [List.length_cons, List.length_nil]; omega) | exact Ow.take_add (by assumption) (by assumption) (by assumption) | exact Ow.take_skip (by assumption) (.inl (by assumption)) (by assumption) | exact Ow.take_skip (by assumption) (.inr (by assumption)) (by assumption)), (by first | assumption | omega | exact Ow.nodup_snoc (by assumption) (by assumption) | (rw [List.length_append]; simp only [List.length_cons, List.length_nil]; omega) | exact Ow.take_add (by assumption) (by assumption) (by assumption) | exact Ow.take_skip (by assumption) (.inl (by assumption)) (by assumption) | exact Ow.take_skip (by assumption) (.inr (by assumption)) (by assumption)), (by first | assumption | omega | exact Ow.nodup_snoc (by assumption) (by assumption) | (rw [List.length_append]; simp only [List.length_cons, List.length_nil]; omega) | exact Ow.take_add (by assumption) (by assumption) (by assumption) | exact Ow.take_skip (by assumption) (.inl (by assumption)) (by assumption) | exact Ow.take_skip (by assumption) (.inr (by assumption)) (by assumption)), trivial⟩
    · rintro _ Hn_2 ⟨p_5, xs_3, _, rfl, h20, h21, h22, h23, h24, h25, h26, h27, _⟩
      refine ⟨_, rfl, ?_⟩
      refine ⟨_, xs_3, rfl, (SqL.of h21), fun ys p_6 hp_ys hs_ys h_p_6 => ?_⟩
      exact kont ys (by first | (rw [hp_ys.length_eq]; have := (by assumption : List.length _ ≤ List.length _); simp at this; omega) | skip; refine ⟨Ow.srt_strict hs_ys (hp_ys.nodup_iff.mpr (by assumption)), fun k => (hp_ys.mem_iff).trans (Iff.trans ((by assumption : ∀ k, _ ↔ _) k) ?_)⟩; simp only [List.length_cons, List.length_nil, List.take_succ_cons, List.take_zero, List.mem_cons, List.not_mem_nil, or_false]; unfold Ow.Cor; subst_vars; constructor <;> intro h <;> omega) (by first | (rw [hp_ys.length_eq]; have := (by assumption : List.length _ ≤ List.length _); simp at this; omega) | skip; refine ⟨Ow.srt_strict hs_ys (hp_ys.nodup_iff.mpr (by assumption)), fun k => (hp_ys.mem_iff).trans (Iff.trans ((by assumption : ∀ k, _ ↔ _) k) ?_)⟩; simp only [List.length_cons, List.length_nil, List.take_succ_cons, List.take_zero, List.mem_cons, List.not_mem_nil, or_false]; unfold Ow.Cor; subst_vars; constructor <;> intro h <;> omega) _ _ (h20.trans (Ow.same_new h_p_6)) (Same.free h20 h_p_6) upd_same
theorem ok_l_brought (T : Tx K mg) : FnOk P w K mg base CX0 1 T.d_l_brought.f T.d_l_brought.fd ["_law_numbers_here", "_law_x"] (sp_l_brought T) := by
  refine T.d_l_brought.F.ok sc_l_brought (fun vs H Q E h => ?_) (fun cdv A outer s H vs Q E hr h => ?_)
  · obtain ⟨nums, x, e, f, ad, t, rfl, _⟩ := h
    rfl
  · obtain ⟨nums, x, e, f, ad, t, rfl, c0, c1, c2, c3, c4, c5, c6, c7, c8, c9, c10, kont⟩ := h
    have e1 : x / 2 ^ e.toNat ≤ x := Int.ediv_le_self _ (by omega)
    have e2 : 0 ≤ x / 2 ^ e.toNat := Int.ediv_nonneg (by omega) (by have := Ow.p2 e.toNat; omega)
    refine ⟨_, (pss_cons (ps_asg (pv 0) (pg_tup rfl (pgs_cons (pg_name (i := 2) sc_l_brought.nd rfl (Or.inl rfl)) (pgs_cons (pg_name (i := 3) sc_l_brought.nd rfl (Or.inl rfl)) (pgs_cons (pg_name (i := 4) sc_l_brought.nd rfl (Or.inl rfl)) (pgs_cons (pg_name (i := 5) sc_l_brought.nd rfl (Or.inl rfl)) pgs_nil))))))
        (pss_one (ps_ret (pe_op Ow.op_shrN (pe_op op_add (pe_op Ow.op_mulN (pv 3) (pe_op Ow.op_shrN (pv 1) (pv 2))) (pv 4)) (pv 5))))), ?_⟩
    refine ⟨_, rfl, ?_⟩
    refine ⟨_, _, rfl, (SqT.of c0), rfl, ?_⟩
    refine ⟨_, _, rfl, ?_⟩
    refine ⟨_, _, rfl, ?_⟩
    refine ⟨_, _, rfl, ?_⟩
    refine ⟨_, _, rfl, ?_⟩
    refine ⟨rfl, ?_⟩
    refine ⟨_, rfl, ?_⟩
    refine ⟨_, rfl, ?_⟩
    refine ⟨_, rfl, ?_⟩
    refine ⟨_, _, rfl, rfl, (by first | (walk_at "o2")), fun q h_q => ?_⟩
    refine ⟨_, _, rfl, rfl, (by first | (walk_at "o2")), fun m h_m => ?_⟩
    refine ⟨_, rfl, ?_⟩
    refine ⟨_, _, rfl, rfl, ?_⟩
    refine ⟨_, rfl, ?_⟩
    refine ⟨_, _, rfl, rfl, (by first | (walk_at "o2")), fun q_2 h_q_2 => ?_⟩
    refine Ow.eqi (b := Ow.brought e f ad t x) (by unfold Ow.brought; subst_vars; rfl) ?_
    exact kont
theorem ok_l_right_to (T : Tx K mg) : FnOk P w K mg base CX0 2 T.d_l_right_to.f T.d_l_right_to.fd ["_law_last", "_law_d", "_law_numbers_here"] (sp_l_right_to T) := by
  refine T.d_l_right_to.F.ok sc_l_right_to (fun vs H Q E h => ?_) (fun cdv A outer s H vs Q E hr h => ?_)
  · obtain ⟨last, d, nums, e, f, ad, t, rfl, _⟩ := h
    rfl
  · obtain ⟨last, d, nums, e, f, ad, t, rfl, c0, c1, c2, c3, c4, c5, c6, c7, c8, c9, c10, c11, c12, c13, kont⟩ := h
    refine ⟨_, (pss_cons (ps_for PassesOwn.never rfl (pi_list (pe_call (Ow.ok_l_corners T) (hr.mono (by decide : 1 ≤ 1)) (by rfl) T.d_l_corners.m T.d_l_corners.F.kp T.d_l_corners.b .nil pass0 (pa_cons (pv 0) (pa_cons (pv 1) pa_nil)))) (pg_name (i := 3) sc_l_right_to.nd rfl (Or.inl rfl)) (pss_one (ps_if (pt_cmpR op_ne (pe_call (Ow.ok_l_brought T) (hr.mono (by decide : 1 ≤ 1)) (by rfl) T.d_l_brought.m T.d_l_brought.F.kp T.d_l_brought.b .nil pass0 (pa_cons (pv 2) (pa_cons (pv 3) pa_nil))) (pe_op Ow.op_divN (pv 3) (pv 1)) (nomark _)) (pss_one (ps_ret pe_bl)) pss_nil)))
        (pss_one (ps_ret pe_bl))), ?_⟩
    refine ⟨_, rfl, ?_⟩
    refine ⟨_, rfl, ?_⟩
    refine ⟨_, _, rfl, (by first | (walk_at "o2")), (by first | (walk_at "o2")), (by first | (walk_at "o2")), (by first | (walk_at "o2")), fun ys h1 h2 p Hn h3 h4 h5 => ?_⟩
    refine ⟨_, rfl, ⟨_, (SqL.of h5)⟩, ?_⟩
    refine for_list (K := K) (a := p) (xs := (ys.map V.int)) (fun ixv σ2 H2 => ∃ (v_3 : Option V), σ2 = [some (.int (last)), some (.int (d)), some (.ref nums), v_3] ∧ Same H H2 ∧ H2 p = some (.lst (ys.map V.int)) ∧ (∀ k ∈ List.take ixv ys, Ow.brought e f ad t k = k / d) ∧ True) ⟨_, rfl, h3, h5, (by intro k hk; simp at hk), trivial⟩ (fun i σ2 H2 _ hz => ?_) ?_ ?_
    · obtain ⟨_, rfl, h6, h7, h8, _⟩ := hz
      exact (SqL.of h7)
    · rintro i xit _ Hn_2 h9 ⟨_, rfl, h10, h11, h12, _⟩
      obtain ⟨l_x, rfl, h_l_x⟩ := Ow.ints_get (xs := ys) h9
      have hx := Ow.cor_rng (by omega) (by omega) (((by assumption : Ow.Cors last d ys).2 _).mp (List.mem_of_getElem? h_l_x))
      refine ⟨_, rfl, ?_⟩
      refine ⟨_, rfl, ?_⟩
      refine ⟨_, _, _, _, _, _, rfl, (h10 _ _ c4), (by first | (walk_at "o2")), (by first | (walk_at "o2")), (by first | (walk_at "o2")), (by first | (walk_at "o2")), (by first | (walk_at "o2")), (by first | (walk_at "o2")), (by first | (walk_at "o2")), (by first | (walk_at "o2")), (by first | (walk_at "o2")), (by first | (walk_at "o2")), ?_⟩
      refine ⟨_, rfl, ?_⟩
      refine ⟨_, rfl, ?_⟩
      refine ⟨_, _, rfl, rfl, (by first | (walk_at "o2")), fun q h_q => ?_⟩
      refine ⟨rfl, ?_⟩
      refine ⟨_, rfl, ?_⟩
      refine Ow.ifnei (fun h13 => ?_) (fun h13 => ?_)
      · exact kont false (by first | exact iff_of_true rfl hall | exact iff_of_false Bool.false_ne_true (fun z => absurd (z _ hx.1 hx.2) (by first | assumption | (subst_vars; assumption)))) _ h10
      · exact ⟨_, rfl, h10, h11, (by first | exact fun k hk => Ow.take_all (Pr := fun k => Ow.brought e f ad t k = k / d) (by assumption) (by first | assumption | (subst_vars; assumption)) (by assumption) k hk), trivial⟩
    · rintro _ Hn_3 ⟨_, rfl, h14, h15, h16, _⟩
      have hall : Ow.AllR last d e f ad t := Ow.allr_of (by omega) (by first | assumption | (subst_vars; assumption)) (by omega) (by omega) (by omega) (by assumption) (by rw [List.length_map]; exact Nat.le_refl _) h16
      exact kont true (by first | exact iff_of_true rfl hall | exact iff_of_false Bool.false_ne_true (fun z => absurd (z _ hx.1 hx.2) (by first | assumption | (subst_vars; assumption)))) _ h14
theorem ok_l_least (T : Tx K mg) : FnOk P w K mg base CX0 3 T.d_l_least.f T.d_l_least.fd ["_law_last", "_law_d", "_law_numbers_here", "_law_word"] (sp_l_least T) := by
  refine T.d_l_least.F.ok sc_l_least (fun vs H Q E h => ?_) (fun cdv A outer s H vs Q E hr h => ?_)
  · rcases h with h | h | h | h | h | h | h
    · obtain ⟨last, d, nums, e, f, ad, t, rfl, _⟩ := h; rfl
    · obtain ⟨last, d, nums, thing, e, f, ad, t, rfl, _⟩ := h; rfl
    · obtain ⟨last, d, nums, thing, e, f, ad, t, rfl, _⟩ := h; rfl
    · obtain ⟨last, d, nums, thing, e, f, ad, t, rfl, _⟩ := h; rfl
    · obtain ⟨last, d, nums, thing, e, f, ad, t, vl, rfl, _⟩ := h; rfl
    · obtain ⟨last, d, nums, thing, e, f, ad, t, vl, rfl, _⟩ := h; rfl
    · obtain ⟨last, d, nums, thing, e, f, ad, t, rfl, _⟩ := h; rfl
  · refine ⟨_, (pss_cons (ps_if (pt_cmpR op_isN (pv 3) pe_non (nomark _)) (pss_one (ps_ret (pe_call (Ow.ok_l_right_to T) (hr.mono (by decide : 2 ≤ 2)) (by rfl) T.d_l_right_to.m T.d_l_right_to.F.kp T.d_l_right_to.b .nil pass0 (pa_cons (pv 0) (pa_cons (pv 1) (pa_cons (pv 2) pa_nil)))))) pss_nil)
        (pss_cons (ps_if (PW.pt (pw_or (pt_not (pt_val (pe_call (Ow.ok_l_whole T) (hr.mono (by decide : 1 ≤ 2)) (by rfl) T.d_l_whole.m T.d_l_whole.F.kp T.d_l_whole.b .nil pass0 (pa_cons (pv 3) pa_nil)))) (pw_or (pt_cmpR op_lt (pv 3) pe_int (nomark _)) (pw_or (pt_cmpR op_gt (pv 3) (pv 0) (nomark _)) (pw_or1 (pt_cmpR op_eq (pe_call (Ow.ok_l_brought T) (hr.mono (by decide : 1 ≤ 2)) (by rfl) T.d_l_brought.m T.d_l_brought.F.kp T.d_l_brought.b .nil pass0 (pa_cons (pv 2) (pa_cons (pv 3) pa_nil))) (pe_op Ow.op_divN (pv 3) (pv 1)) (nomark _))))))) (pss_one (ps_ret pe_bl)) pss_nil)
        (pss_one (ps_ret (pe_or (pe_cmpR op_eq (pv 3) pe_int (nomark _)) (pe_one (pe_call (Ow.ok_l_right_to T) (hr.mono (by decide : 2 ≤ 2)) (by rfl) T.d_l_right_to.m T.d_l_right_to.F.kp T.d_l_right_to.b .nil pass0 (pa_cons (pe_op op_sub (pv 3) pe_int) (pa_cons (pv 1) (pa_cons (pv 2) pa_nil)))))))))), ?_⟩
    rcases h with h | h | h | h | h | h | h
    · obtain ⟨last, d, nums, e, f, ad, t, rfl, c0, c1, c2, c3, c4, c5, c6, c7, c8, c9, c10, c11, c12, c13, kont⟩ := h
      refine ⟨_, rfl, ?_⟩
      refine ⟨rfl, ?_⟩
      refine ⟨_, rfl, ?_⟩
      refine iteT ?_
      refine ⟨_, rfl, ?_⟩
      refine ⟨_, rfl, ?_⟩
      refine ⟨_, rfl, ?_⟩
      refine ⟨_, _, _, _, _, _, _, rfl, (by first | (walk_at "o2")), (by first | (walk_at "o2")), (by first | (walk_at "o2")), (by first | (walk_at "o2")), c4, (by first | (walk_at "o2")), (by first | (walk_at "o2")), (by first | (walk_at "o2")), (by first | (walk_at "o2")), (by first | (walk_at "o2")), (by first | (walk_at "o2")), (by first | (walk_at "o2")), (by first | (walk_at "o2")), (by first | (walk_at "o2")), fun t_2 h1 Hn h2 => ?_⟩
      exact kont t_2 (by assumption) _ h2
    · obtain ⟨last, d, nums, thing, e, f, ad, t, rfl, c0, c1, c2, c3, c4, c5, c6, c7, c8, c9, c10, c11, c12, c13, kont⟩ := h
      refine ⟨_, rfl, ?_⟩
      refine ⟨rfl, ?_⟩
      refine ⟨_, rfl, ?_⟩
      refine iteF ?_
      refine ⟨_, rfl, ?_⟩
      refine Or.inl ?_
      refine ⟨_, rfl, ?_⟩
      refine ⟨_, rfl, ?_⟩
      refine iteF ?_
      refine ⟨_, rfl, ?_⟩
      refine ⟨_, _, rfl, rfl, ?_⟩
      refine ⟨_, rfl, ?_⟩
      refine Ow.ifd (fun h3 => ?_) (fun h3 => ?_)
      · refine iteT ?_
        exact kont false (by first | exact iff_of_false Bool.false_ne_true (fun z => absurd z.1 (by omega)) | exact iff_of_false Bool.false_ne_true (fun z => absurd z.2.1 (by omega)) | exact iff_of_false Bool.false_ne_true (fun z => z.2.2.1 (by first | assumption | (subst_vars; assumption))) | exact iff_of_true rfl ⟨by omega, by omega, by first | assumption | (subst_vars; assumption), fun x a b => by omega⟩ | (refine (by assumption : _ ↔ Ow.AllR _ _ _ _ _ _).trans ⟨fun h => ⟨by omega, by omega, by first | assumption | (subst_vars; assumption), fun x a b => h x a (by omega)⟩, fun h x a b => h.2.2.2 x a (by omega)⟩)) _ (Same.refl _)
      · refine ⟨_, rfl, ?_⟩
        refine ⟨_, rfl, ?_⟩
        refine ⟨_, _, rfl, rfl, ?_⟩
        refine ⟨_, rfl, ?_⟩
        refine Ow.ifd (fun h4 => ?_) (fun h4 => ?_)
        · refine iteT ?_
          exact kont false (by first | exact iff_of_false Bool.false_ne_true (fun z => absurd z.1 (by omega)) | exact iff_of_false Bool.false_ne_true (fun z => absurd z.2.1 (by omega)) | exact iff_of_false Bool.false_ne_true (fun z => z.2.2.1 (by first | assumption | (subst_vars; assumption))) | exact iff_of_true rfl ⟨by omega, by omega, by first | assumption | (subst_vars; assumption), fun x a b => by omega⟩ | (refine (by assumption : _ ↔ Ow.AllR _ _ _ _ _ _).trans ⟨fun h => ⟨by omega, by omega, by first | assumption | (subst_vars; assumption), fun x a b => h x a (by omega)⟩, fun h x a b => h.2.2.2 x a (by omega)⟩)) _ (Same.refl _)
        · refine ⟨_, rfl, ?_⟩
          refine ⟨_, rfl, ?_⟩
          refine ⟨_, _, _, _, _, _, rfl, c4, (by first | (walk_at "o2")), (by first | (walk_at "o2")), (by first | (walk_at "o2")), (by first | (walk_at "o2")), (by first | (walk_at "o2")), (by first | (walk_at "o2")), (by first | (walk_at "o2")), (by first | (walk_at "o2")), (by first | (walk_at "o2")), (by first | (walk_at "o2")), ?_⟩
          refine ⟨_, rfl, ?_⟩
          refine ⟨_, rfl, ?_⟩
          refine ⟨_, _, rfl, rfl, (by first | (walk_at "o2")), fun q h_q => ?_⟩
          refine ⟨rfl, ?_⟩
          refine ⟨_, rfl, ?_⟩
          refine Ow.ifeqi (fun h5 => ?_) (fun h5 => ?_)
          · exact kont false (by first | exact iff_of_false Bool.false_ne_true (fun z => absurd z.1 (by omega)) | exact iff_of_false Bool.false_ne_true (fun z => absurd z.2.1 (by omega)) | exact iff_of_false Bool.false_ne_true (fun z => z.2.2.1 (by first | assumption | (subst_vars; assumption))) | exact iff_of_true rfl ⟨by omega, by omega, by first | assumption | (subst_vars; assumption), fun x a b => by omega⟩ | (refine (by assumption : _ ↔ Ow.AllR _ _ _ _ _ _).trans ⟨fun h => ⟨by omega, by omega, by first | assumption | (subst_vars; assumption), fun x a b => h x a (by omega)⟩, fun h x a b => h.2.2.2 x a (by omega)⟩)) _ (Same.refl _)
          · refine ⟨_, rfl, ?_⟩
            refine ⟨rfl, ?_⟩
            refine ⟨_, rfl, ?_⟩
            refine Ow.ifeqi (fun h6 => ?_) (fun h6 => ?_)
            · exact kont true (by first | exact iff_of_false Bool.false_ne_true (fun z => absurd z.1 (by omega)) | exact iff_of_false Bool.false_ne_true (fun z => absurd z.2.1 (by omega)) | exact iff_of_false Bool.false_ne_true (fun z => z.2.2.1 (by first | assumption | (subst_vars; assumption))) | exact iff_of_true rfl ⟨by omega, by omega, by first | assumption | (subst_vars; assumption), fun x a b => by omega⟩ | (refine (by assumption : _ ↔ Ow.AllR _ _ _ _ _ _).trans ⟨fun h => ⟨by omega, by omega, by first | assumption | (subst_vars; assumption), fun x a b => h x a (by omega)⟩, fun h x a b => h.2.2.2 x a (by omega)⟩)) _ (Same.refl _)
            · refine ⟨_, rfl, ?_⟩
              refine ⟨_, _, rfl, rfl, ?_⟩
              refine ⟨_, rfl, ?_⟩
              refine ⟨_, rfl, ?_⟩
              refine ⟨_, _, _, _, _, _, _, rfl, (by first | (walk_at "o2")), (by first | (walk_at "o2")), (by first | (walk_at "o2")), (by first | (walk_at "o2")), c4, (by first | (walk_at "o2")), (by first | (walk_at "o2")), (by first | (walk_at "o2")), (by first | (walk_at "o2")), (by first | (walk_at "o2")), (by first | (walk_at "o2")), (by first | (walk_at "o2")), (by first | (walk_at "o2")), (by first | (walk_at "o2")), fun t_2 h7 Hn_2 h8 => ?_⟩
              exact kont t_2 (by first | exact iff_of_false Bool.false_ne_true (fun z => absurd z.1 (by omega)) | exact iff_of_false Bool.false_ne_true (fun z => absurd z.2.1 (by omega)) | exact iff_of_false Bool.false_ne_true (fun z => z.2.2.1 (by first | assumption | (subst_vars; assumption))) | exact iff_of_true rfl ⟨by omega, by omega, by first | assumption | (subst_vars; assumption), fun x a b => by omega⟩ | (refine (by assumption : _ ↔ Ow.AllR _ _ _ _ _ _).trans ⟨fun h => ⟨by omega, by omega, by first | assumption | (subst_vars; assumption), fun x a b => h x a (by omega)⟩, fun h x a b => h.2.2.2 x a (by omega)⟩)) _ h8
    · obtain ⟨last, d, nums, thing, e, f, ad, t, rfl, c0, c1, c2, c3, c4, c5, c6, c7, c8, c9, c10, c11, c12, c13, kont⟩ := h
      refine ⟨_, rfl, ?_⟩
      refine ⟨rfl, ?_⟩
      refine ⟨_, rfl, ?_⟩
      refine iteF ?_
      refine ⟨_, rfl, ?_⟩
      refine Or.inr (Or.inr (Or.inl ?_))
      refine ⟨_, rfl, ?_⟩
      refine ⟨_, rfl, ?_⟩
      refine iteT ?_
      refine iteT ?_
      exact kont _ (Same.refl _)
    · obtain ⟨last, d, nums, thing, e, f, ad, t, rfl, c0, c1, c2, c3, c4, c5, c6, c7, c8, c9, c10, c11, c12, c13, kont⟩ := h
      refine ⟨_, rfl, ?_⟩
      refine ⟨rfl, ?_⟩
      refine ⟨_, rfl, ?_⟩
      refine iteF ?_
      refine ⟨_, rfl, ?_⟩
      refine Or.inr (Or.inr (Or.inr (Or.inl ?_)))
      refine ⟨_, rfl, ?_⟩
      refine ⟨_, rfl, ?_⟩
      refine iteT ?_
      refine iteT ?_
      exact kont _ (Same.refl _)
    · obtain ⟨last, d, nums, thing, e, f, ad, t, vl, rfl, c0, c1, c2, c3, c4, c5, c6, c7, c8, c9, c10, c11, c12, c13, c14, kont⟩ := h
      refine ⟨_, rfl, ?_⟩
      refine ⟨rfl, ?_⟩
      refine ⟨_, rfl, ?_⟩
      refine iteF ?_
      refine ⟨_, rfl, ?_⟩
      refine Or.inr (Or.inr (Or.inr (Or.inr (Or.inl ?_))))
      refine ⟨_, _, rfl, c14, ?_⟩
      refine ⟨_, rfl, ?_⟩
      refine iteT ?_
      refine iteT ?_
      exact kont _ (Same.refl _)
    · obtain ⟨last, d, nums, thing, e, f, ad, t, vl, rfl, c0, c1, c2, c3, c4, c5, c6, c7, c8, c9, c10, c11, c12, c13, c14, kont⟩ := h
      refine ⟨_, rfl, ?_⟩
      refine ⟨rfl, ?_⟩
      refine ⟨_, rfl, ?_⟩
      refine iteF ?_
      refine ⟨_, rfl, ?_⟩
      refine Or.inr (Or.inr (Or.inr (Or.inr (Or.inr (Or.inl ?_)))))
      refine ⟨_, _, rfl, c14, ?_⟩
      refine ⟨_, rfl, ?_⟩
      refine iteT ?_
      refine iteT ?_
      exact kont _ (Same.refl _)
    · obtain ⟨last, d, nums, thing, e, f, ad, t, rfl, c0, c1, c2, c3, c4, c5, c6, c7, c8, c9, c10, c11, c12, c13, c14, kont⟩ := h
      refine ⟨_, rfl, ?_⟩
      refine ⟨rfl, ?_⟩
      refine ⟨_, rfl, ?_⟩
      refine iteF ?_
      refine ⟨_, rfl, ?_⟩
      refine Or.inr (Or.inr (Or.inr (Or.inr (Or.inr (Or.inr (?_))))))
      refine ⟨_, rfl, c14, ?_⟩
      refine ⟨_, rfl, ?_⟩
      refine iteT ?_
      refine iteT ?_
      exact kont _ (Same.refl _)
theorem ok_corners_to (T : Tx K mg) : FnOk P w K mg base CX0 1 T.d_corners_to.f T.d_corners_to.fd ["last", "d"] (sp_corners_to T) := by
  refine T.d_corners_to.F.ok sc_corners_to (fun vs H Q E h => ?_) (fun cdv A outer s H vs Q E hr h => ?_)
  · obtain ⟨last, d, rfl, _⟩ := h
    rfl
  · obtain ⟨last, d, rfl, c0, c1, c2, c3, kont⟩ := h
    refine ⟨_, (pss_cons (ps_set (i := 2) sc_corners_to.nd rfl (Or.inl rfl) (pe_op Ow.op_divN (pv 0) (pv 1)))
        (pss_cons (ps_set (i := 3) sc_corners_to.nd rfl (Or.inl rfl) (pe_lst (pa_cons pe_int (pa_cons (Ow.pe_nmi (pe_callB (call_min2 rfl) (by rfl) T.z_min (by decide +kernel) (pa_cons (pe_op op_sub (pv 1) pe_int) (pa_cons (pv 0) pa_nil)))) (pa_cons (pe_op Ow.op_mulN (pv 2) (pv 1)) (pa_cons (pv 0) pa_nil))))))
        (pss_cons (ps_if (pt_cmpR op_gt (pv 2) pe_int (nomark _)) (pss_one (ps_expr (pe_bm PySem.F.plainAttrs_list PySem.F.slot_list_append PySem.F.type_list_append mt_append (pv 3) (pa_cons (Ow.pe_nmi (pe_op op_sub (pe_op Ow.op_mulN (pv 2) (pv 1)) pe_int)) pa_nil)))) pss_nil)
        (pss_one (ps_ret (Ow.pe_sortedSet (by rfl) T.z_sorted (by rfl) T.z_set (pv 3))))))), ?_⟩
    refine ⟨_, rfl, ?_⟩
    refine ⟨_, rfl, ?_⟩
    refine ⟨_, _, rfl, rfl, (by first | (walk_at "o2")), fun q h_q => ?_⟩
    have qd := Ow.qd_pos (last := last) (d := d) (q := q) (m := q * d) (by omega) (by omega) h_q rfl
    refine ⟨_, rfl, ?_⟩
    refine ⟨_, _, rfl, rfl, ?_⟩
    refine ⟨_, rfl, ?_⟩
    refine ⟨_, _, rfl, ?_⟩
    refine ⟨_, rfl, fun m h_m => ?_⟩
    have hm_m := Ow.min_ite h_m
    refine ⟨_, rfl, ?_⟩
    refine ⟨_, rfl, ?_⟩
    refine ⟨_, _, rfl, rfl, (by first | (walk_at "o2")), fun m_2 h_m_2 => ?_⟩
    refine ⟨_, rfl, ?_⟩
    refine ⟨by show 4 ≤ sizeLine; decide, fun p h_p => ?_⟩
    refine ⟨_, rfl, ?_⟩
    refine ⟨_, _, rfl, rfl, ?_⟩
    refine ⟨_, rfl, ?_⟩
    refine Ow.ifd (fun h1 => ?_) (fun h1 => ?_)
    · refine ⟨_, rfl, ?_⟩
      refine ⟨.inl ⟨rfl, _, (SqL.of upd_same)⟩, ?_⟩
      refine ⟨_, rfl, ?_⟩
      refine ⟨_, rfl, ?_⟩
      refine ⟨_, _, rfl, rfl, (by first | (walk_at "o2")), fun m_3 h_m_3 => ?_⟩
      refine ⟨_, _, rfl, rfl, ?_⟩
      refine ⟨_, rfl, fun ap h_ap => ?_⟩
      refine ⟨_, _, _, rfl, rfl, upd_same, (by show 4 < sizeLine; decide), ?_⟩
      refine ⟨_, rfl, ?_⟩
      refine ⟨_, [0, m, m_2, last, ap], rfl, (SqL.of upd_same), (by simp), fun ys p_2 hs_ys hm_ys hl_ys h_p_2 => ?_⟩
      exact kont ys (by first | (have := hl_ys; simp at this; omega) | skip; refine ⟨hs_ys, fun k => (hm_ys k).trans ?_⟩; simp only [List.mem_cons, List.not_mem_nil, or_false, List.cons_append, List.nil_append]; unfold Ow.Cor; subst_vars; constructor <;> intro h <;> omega) (by first | (have := hl_ys; simp at this; omega) | skip; refine ⟨hs_ys, fun k => (hm_ys k).trans ?_⟩; simp only [List.mem_cons, List.not_mem_nil, or_false, List.cons_append, List.nil_append]; unfold Ow.Cor; subst_vars; constructor <;> intro h <;> omega) _ _ ((Ow.same_mut (Ow.same_new h_p) h_p).trans (Ow.same_new h_p_2)) (Same.free (Ow.same_mut (Ow.same_new h_p) h_p) h_p_2) upd_same
    · refine ⟨_, rfl, ?_⟩
      refine ⟨_, [0, m, m_2, last], rfl, (SqL.of upd_same), (by simp), fun ys_2 p_3 hs_ys_2 hm_ys_2 hl_ys_2 h_p_3 => ?_⟩
      exact kont ys_2 (by first | (have := hl_ys_2; simp at this; omega) | skip; refine ⟨hs_ys_2, fun k => (hm_ys_2 k).trans ?_⟩; simp only [List.mem_cons, List.not_mem_nil, or_false, List.cons_append, List.nil_append]; unfold Ow.Cor; subst_vars; constructor <;> intro h <;> omega) (by first | (have := hl_ys_2; simp at this; omega) | skip; refine ⟨hs_ys_2, fun k => (hm_ys_2 k).trans ?_⟩; simp only [List.mem_cons, List.not_mem_nil, or_false, List.cons_append, List.nil_append]; unfold Ow.Cor; subst_vars; constructor <;> intro h <;> omega) _ _ ((Ow.same_new h_p).trans (Ow.same_new h_p_3)) (Same.free (Ow.same_new h_p) h_p_3) upd_same
theorem ok_brought (T : Tx K mg) : FnOk P w K mg base CX0 1 T.d_brought.f T.d_brought.fd ["reckoning", "x"] (sp_brought T) := by
  refine T.d_brought.F.ok sc_brought (fun vs H Q E h => ?_) (fun cdv A outer s H vs Q E hr h => ?_)
  · obtain ⟨reckoning, x, e, f, ad, t, rfl, _⟩ := h
    rfl
  · obtain ⟨reckoning, x, e, f, ad, t, rfl, c0, c1, c2, c3, c4, c5, c6, c7, c8, c9, c10, kont⟩ := h
    have e1 : x / 2 ^ e.toNat ≤ x := Int.ediv_le_self _ (by omega)
    have e2 : 0 ≤ x / 2 ^ e.toNat := Int.ediv_nonneg (by omega) (by have := Ow.p2 e.toNat; omega)
    refine ⟨_, (pss_cons (ps_asg (pv 0) (pg_tup rfl (pgs_cons (pg_name (i := 2) sc_brought.nd rfl (Or.inl rfl)) (pgs_cons (pg_name (i := 3) sc_brought.nd rfl (Or.inl rfl)) (pgs_cons (pg_name (i := 4) sc_brought.nd rfl (Or.inl rfl)) (pgs_cons (pg_name (i := 5) sc_brought.nd rfl (Or.inl rfl)) pgs_nil))))))
        (pss_one (ps_ret (pe_op Ow.op_shrN (pe_op op_add (pe_op Ow.op_mulN (pv 3) (pe_op Ow.op_shrN (pv 1) (pv 2))) (pv 4)) (pv 5))))), ?_⟩
    refine ⟨_, rfl, ?_⟩
    refine ⟨_, _, rfl, (SqT.of c0), rfl, ?_⟩
    refine ⟨_, _, rfl, ?_⟩
    refine ⟨_, _, rfl, ?_⟩
    refine ⟨_, _, rfl, ?_⟩
    refine ⟨_, _, rfl, ?_⟩
    refine ⟨rfl, ?_⟩
    refine ⟨_, rfl, ?_⟩
    refine ⟨_, rfl, ?_⟩
    refine ⟨_, rfl, ?_⟩
    refine ⟨_, _, rfl, rfl, (by first | (walk_at "o2")), fun q h_q => ?_⟩
    refine ⟨_, _, rfl, rfl, (by first | (walk_at "o2")), fun m h_m => ?_⟩
    refine ⟨_, rfl, ?_⟩
    refine ⟨_, _, rfl, rfl, ?_⟩
    refine ⟨_, rfl, ?_⟩
    refine ⟨_, _, rfl, rfl, (by first | (walk_at "o2")), fun q_2 h_q_2 => ?_⟩
    refine Ow.eqi (b := Ow.brought e f ad t x) (by unfold Ow.brought; subst_vars; rfl) ?_
    exact kont
theorem ok_holds_to (T : Tx K mg) : FnOk P w K mg base CX0 2 T.d_holds_to.f T.d_holds_to.fd ["last", "d", "reckoning"] (sp_holds_to T) := by
  refine T.d_holds_to.F.ok sc_holds_to (fun vs H Q E h => ?_) (fun cdv A outer s H vs Q E hr h => ?_)
  · obtain ⟨last, d, reckoning, e, f, ad, t, rfl, _⟩ := h
    rfl
  · obtain ⟨last, d, reckoning, e, f, ad, t, rfl, c0, c1, c2, c3, c4, c5, c6, c7, c8, c9, c10, c11, c12, c13, kont⟩ := h
    refine ⟨_, (pss_cons (ps_for PassesOwn.never rfl (pi_list (pe_call (Ow.ok_corners_to T) (hr.mono (by decide : 1 ≤ 1)) (by rfl) T.d_corners_to.m T.d_corners_to.F.kp T.d_corners_to.b .nil pass0 (pa_cons (pv 0) (pa_cons (pv 1) pa_nil)))) (pg_name (i := 3) sc_holds_to.nd rfl (Or.inl rfl)) (pss_one (ps_if (pt_cmpR op_ne (pe_call (Ow.ok_brought T) (hr.mono (by decide : 1 ≤ 1)) (by rfl) T.d_brought.m T.d_brought.F.kp T.d_brought.b .nil pass0 (pa_cons (pv 2) (pa_cons (pv 3) pa_nil))) (pe_op Ow.op_divN (pv 3) (pv 1)) (nomark _)) (pss_one (ps_ret pe_bl)) pss_nil)))
        (pss_one (ps_ret pe_bl))), ?_⟩
    refine ⟨_, rfl, ?_⟩
    refine ⟨_, rfl, ?_⟩
    refine ⟨_, _, rfl, (by first | (walk_at "o2")), (by first | (walk_at "o2")), (by first | (walk_at "o2")), (by first | (walk_at "o2")), fun ys h1 h2 p Hn h3 h4 h5 => ?_⟩
    refine ⟨_, rfl, ⟨_, (SqL.of h5)⟩, ?_⟩
    refine for_list (K := K) (a := p) (xs := (ys.map V.int)) (fun ixv σ2 H2 => ∃ (v_3 : Option V), σ2 = [some (.int (last)), some (.int (d)), some (.ref reckoning), v_3] ∧ Same H H2 ∧ H2 p = some (.lst (ys.map V.int)) ∧ (∀ k ∈ List.take ixv ys, Ow.brought e f ad t k = k / d) ∧ True) ⟨_, rfl, h3, h5, (by intro k hk; simp at hk), trivial⟩ (fun i σ2 H2 _ hz => ?_) ?_ ?_
    · obtain ⟨_, rfl, h6, h7, h8, _⟩ := hz
      exact (SqL.of h7)
    · rintro i xit _ Hn_2 h9 ⟨_, rfl, h10, h11, h12, _⟩
      obtain ⟨x, rfl, h_x⟩ := Ow.ints_get (xs := ys) h9
      have hx := Ow.cor_rng (by omega) (by omega) (((by assumption : Ow.Cors last d ys).2 _).mp (List.mem_of_getElem? h_x))
      refine ⟨_, rfl, ?_⟩
      refine ⟨_, rfl, ?_⟩
      refine ⟨_, _, _, _, _, _, rfl, (h10 _ _ c4), (by first | (walk_at "o2")), (by first | (walk_at "o2")), (by first | (walk_at "o2")), (by first | (walk_at "o2")), (by first | (walk_at "o2")), (by first | (walk_at "o2")), (by first | (walk_at "o2")), (by first | (walk_at "o2")), (by first | (walk_at "o2")), (by first | (walk_at "o2")), ?_⟩
      refine ⟨_, rfl, ?_⟩
      refine ⟨_, rfl, ?_⟩
      refine ⟨_, _, rfl, rfl, (by first | (walk_at "o2")), fun q h_q => ?_⟩
      refine ⟨rfl, ?_⟩
      refine ⟨_, rfl, ?_⟩
      refine Ow.ifnei (fun h13 => ?_) (fun h13 => ?_)
      · exact kont false (by first | exact iff_of_true rfl hall | exact iff_of_false Bool.false_ne_true (fun z => absurd (z _ hx.1 hx.2) (by first | assumption | (subst_vars; assumption)))) _ h10
      · exact ⟨_, rfl, h10, h11, (by first | exact fun k hk => Ow.take_all (Pr := fun k => Ow.brought e f ad t k = k / d) (by assumption) (by first | assumption | (subst_vars; assumption)) (by assumption) k hk), trivial⟩
    · rintro _ Hn_3 ⟨_, rfl, h14, h15, h16, _⟩
      have hall : Ow.AllR last d e f ad t := Ow.allr_of (by omega) (by first | assumption | (subst_vars; assumption)) (by omega) (by omega) (by omega) (by assumption) (by rw [List.length_map]; exact Nat.le_refl _) h16
      exact kont true (by first | exact iff_of_true rfl hall | exact iff_of_false Bool.false_ne_true (fun z => absurd (z _ hx.1 hx.2) (by first | assumption | (subst_vars; assumption)))) _ h14
theorem ok_is_wrong_word (T : Tx K mg) : FnOk P w K mg base CX0 6 T.d_is_wrong_word.f T.d_is_wrong_word.fd ["width", "d", "form", "thing"] (sp_is_wrong_word T) := by
  refine T.d_is_wrong_word.F.ok sc_is_wrong_word (fun vs H Q E h => ?_) (fun cdv A outer s H vs Q E hr h => ?_)
  · rcases h with h | h | h | h | h | h | h
    · obtain ⟨width, d, form, fm, dx_form, rfl, _⟩ := h; rfl
    · obtain ⟨width, d, form, thing, fm, dx_form, rfl, _⟩ := h; rfl
    · obtain ⟨width, d, form, thing, fm, dx_form, rfl, _⟩ := h; rfl
    · obtain ⟨width, d, form, thing, fm, dx_form, rfl, _⟩ := h; rfl
    · obtain ⟨width, d, form, thing, fm, vl, dx_form, rfl, _⟩ := h; rfl
    · obtain ⟨width, d, form, thing, fm, vl, dx_form, rfl, _⟩ := h; rfl
    · obtain ⟨width, d, form, thing, fm, dx_form, rfl, _⟩ := h; rfl
  · refine ⟨_, (pss_cons (ps_set (i := 4) sc_is_wrong_word.nd rfl (Or.inl rfl) (pe_call (Ow.ok_numbers_for T) (hr.mono (by decide : 5 ≤ 5)) (by rfl) T.d_numbers_for.m T.d_numbers_for.F.kp T.d_numbers_for.b .nil pass0 (pa_cons (pv 0) (pa_cons (pv 1) (pa_cons (pv 2) pa_nil)))))
        (pss_cons (ps_set (i := 5) sc_is_wrong_word.nd rfl (Or.inl rfl) (Ow.pe_nmi (pe_op op_sub (pe_op Ow.op_shl1 pe_int (pv 0)) pe_int)))
        (pss_cons (ps_if (pt_cmpR op_isN (pv 3) pe_non (nomark _)) (pss_one (ps_ret (pe_call (Ow.ok_holds_to T) (hr.mono (by decide : 2 ≤ 5)) (by rfl) T.d_holds_to.m T.d_holds_to.F.kp T.d_holds_to.b .nil pass0 (pa_cons (pv 5) (pa_cons (pv 1) (pa_cons (pv 4) pa_nil)))))) pss_nil)
        (pss_cons (ps_if (PW.pt (pw_or (pt_not (pt_val (pe_call (Ow.ok_is_between T) (hr.mono (by decide : 2 ≤ 5)) (by rfl) T.d_is_between.m T.d_is_between.F.kp T.d_is_between.b .nil pass0 (pa_cons (pv 3) (pa_cons pe_int (pa_cons (pv 5) pa_nil)))))) (pw_or1 (pt_cmpR op_eq (pe_call (Ow.ok_brought T) (hr.mono (by decide : 1 ≤ 5)) (by rfl) T.d_brought.m T.d_brought.F.kp T.d_brought.b .nil pass0 (pa_cons (pv 4) (pa_cons (pv 3) pa_nil))) (pe_op Ow.op_divN (pv 3) (pv 1)) (nomark _))))) (pss_one (ps_ret pe_bl)) pss_nil)
        (pss_one (ps_ret (pe_or (pe_cmpR op_eq (pv 3) pe_int (nomark _)) (pe_one (pe_call (Ow.ok_holds_to T) (hr.mono (by decide : 2 ≤ 5)) (by rfl) T.d_holds_to.m T.d_holds_to.F.kp T.d_holds_to.b .nil pass0 (pa_cons (pe_op op_sub (pv 3) pe_int) (pa_cons (pv 1) (pa_cons (pv 4) pa_nil)))))))))))), ?_⟩
    rcases h with h | h | h | h | h | h | h
    · obtain ⟨width, d, form, fm, dx_form, rfl, c0, c1, c2, c3, c4, c5, c6, kont⟩ := h
      have p32_width := Ow.pow2_le32 (w := width) (by omega)
      have p0_width := Ow.p2 width.toNat
      have p32 := Ow.pow2_le32 (w := width) (by omega)
      have pw := Ow.p2 width.toNat
      refine ⟨_, rfl, ?_⟩
      refine ⟨_, rfl, ?_⟩
      refine ⟨_, rfl, ?_⟩
      refine ⟨_, _, _, fm, _, rfl, (by first | (walk_at "o2")), (by first | (walk_at "o2")), (by first | (walk_at "o2")), (by first | (walk_at "o2")), c4, (by first | (walk_at "o2")), (by first | (walk_at "o2")), fun p Hn h1 h2 h3 => ?_⟩
      refine ⟨_, rfl, ?_⟩
      refine ⟨_, rfl, rfl, (by first | (walk_at "o2")), fun B h_B h0_B => ?_⟩
      refine ⟨_, _, rfl, rfl, ?_⟩
      refine ⟨_, rfl, fun last h_last => ?_⟩
      have hn := Ow.nrng (w := width) (by assumption : Ow.FOk fm) (by omega) (by omega)
      refine ⟨_, rfl, ?_⟩
      refine ⟨rfl, ?_⟩
      refine ⟨_, rfl, ?_⟩
      refine iteT ?_
      refine ⟨_, rfl, ?_⟩
      refine ⟨_, rfl, ?_⟩
      refine ⟨_, rfl, ?_⟩
      refine ⟨_, _, _, _, _, _, _, rfl, (by ((try subst_vars); (try have q3 := (by assumption : true = true ↔ 0 ≤ thing ∧ thing ≤ 2 ^ width.toNat - 1).mp rfl); first | with_reducible assumption | exact Ow.divw64 (by omega) (by omega) | exact Ow.mul0 ⟨by omega, by omega⟩ | exact Ow.mul1 ⟨by omega, by omega⟩ | exact Ow.shl0 (by omega) (by omega) (by omega) | exact ⟨by omega, by omega⟩ | exact ⟨by omega, by omega, by omega⟩ | omega | (simp only [List.length_append, List.length_cons, List.length_nil]; omega) | (subst_vars; omega) | assumption)), (by ((try subst_vars); (try have q3 := (by assumption : true = true ↔ 0 ≤ thing ∧ thing ≤ 2 ^ width.toNat - 1).mp rfl); first | with_reducible assumption | exact Ow.divw64 (by omega) (by omega) | exact Ow.mul0 ⟨by omega, by omega⟩ | exact Ow.mul1 ⟨by omega, by omega⟩ | exact Ow.shl0 (by omega) (by omega) (by omega) | exact ⟨by omega, by omega⟩ | exact ⟨by omega, by omega, by omega⟩ | omega | (simp only [List.length_append, List.length_cons, List.length_nil]; omega) | (subst_vars; omega) | assumption)), (by ((try subst_vars); (try have q3 := (by assumption : true = true ↔ 0 ≤ thing ∧ thing ≤ 2 ^ width.toNat - 1).mp rfl); first | with_reducible assumption | exact Ow.divw64 (by omega) (by omega) | exact Ow.mul0 ⟨by omega, by omega⟩ | exact Ow.mul1 ⟨by omega, by omega⟩ | exact Ow.shl0 (by omega) (by omega) (by omega) | exact ⟨by omega, by omega⟩ | exact ⟨by omega, by omega, by omega⟩ | omega | (simp only [List.length_append, List.length_cons, List.length_nil]; omega) | (subst_vars; omega) | assumption)), (by ((try subst_vars); (try have q3 := (by assumption : true = true ↔ 0 ≤ thing ∧ thing ≤ 2 ^ width.toNat - 1).mp rfl); first | with_reducible assumption | exact Ow.divw64 (by omega) (by omega) | exact Ow.mul0 ⟨by omega, by omega⟩ | exact Ow.mul1 ⟨by omega, by omega⟩ | exact Ow.shl0 (by omega) (by omega) (by omega) | exact ⟨by omega, by omega⟩ | exact ⟨by omega, by omega, by omega⟩ | omega | (simp only [List.length_append, List.length_cons, List.length_nil]; omega) | (subst_vars; omega) | assumption)), h3, (by ((try subst_vars); (try have q3 := (by assumption : true = true ↔ 0 ≤ thing ∧ thing ≤ 2 ^ width.toNat - 1).mp rfl); first | with_reducible assumption | exact Ow.divw64 (by omega) (by omega) | exact Ow.mul0 ⟨by omega, by omega⟩ | exact Ow.mul1 ⟨by omega, by omega⟩ | exact Ow.shl0 (by omega) (by omega) (by omega) | exact ⟨by omega, by omega⟩ | exact ⟨by omega, by omega, by omega⟩ | omega | (simp only [List.length_append, List.length_cons, List.length_nil]; omega) | (subst_vars; omega) | assumption)), (by ((try subst_vars); (try have q3 := (by assumption : true = true ↔ 0 ≤ thing ∧ thing ≤ 2 ^ width.toNat - 1).mp rfl); first | with_reducible assumption | exact Ow.divw64 (by omega) (by omega) | exact Ow.mul0 ⟨by omega, by omega⟩ | exact Ow.mul1 ⟨by omega, by omega⟩ | exact Ow.shl0 (by omega) (by omega) (by omega) | exact ⟨by omega, by omega⟩ | exact ⟨by omega, by omega, by omega⟩ | omega | (simp only [List.length_append, List.length_cons, List.length_nil]; omega) | (subst_vars; omega) | assumption)), (by ((try subst_vars); (try have q3 := (by assumption : true = true ↔ 0 ≤ thing ∧ thing ≤ 2 ^ width.toNat - 1).mp rfl); first | with_reducible assumption | exact Ow.divw64 (by omega) (by omega) | exact Ow.mul0 ⟨by omega, by omega⟩ | exact Ow.mul1 ⟨by omega, by omega⟩ | exact Ow.shl0 (by omega) (by omega) (by omega) | exact ⟨by omega, by omega⟩ | exact ⟨by omega, by omega, by omega⟩ | omega | (simp only [List.length_append, List.length_cons, List.length_nil]; omega) | (subst_vars; omega) | assumption)), (by ((try subst_vars); (try have q3 := (by assumption : true = true ↔ 0 ≤ thing ∧ thing ≤ 2 ^ width.toNat - 1).mp rfl); first | with_reducible assumption | exact Ow.divw64 (by omega) (by omega) | exact Ow.mul0 ⟨by omega, by omega⟩ | exact Ow.mul1 ⟨by omega, by omega⟩ | exact Ow.shl0 (by omega) (by omega) (by omega) | exact ⟨by omega, by omega⟩ | exact ⟨by omega, by omega, by omega⟩ | omega | (simp only [List.length_append, List.length_cons, List.length_nil]; omega) | (subst_vars; omega) | assumption)), (by ((try subst_vars); (try have q3 := (by assumption : true = true ↔ 0 ≤ thing ∧ thing ≤ 2 ^ width.toNat - 1).mp rfl); first | with_reducible assumption | exact Ow.divw64 (by omega) (by omega) | exact Ow.mul0 ⟨by omega, by omega⟩ | exact Ow.mul1 ⟨by omega, by omega⟩ | exact Ow.shl0 (by omega) (by omega) (by omega) | exact ⟨by omega, by omega⟩ | exact ⟨by omega, by omega, by omega⟩ | omega | (simp only [List.length_append, List.length_cons, List.length_nil]; omega) | (subst_vars; omega) | assumption)), (by ((try subst_vars); (try have q3 := (by assumption : true = true ↔ 0 ≤ thing ∧ thing ≤ 2 ^ width.toNat - 1).mp rfl); first | with_reducible assumption | exact Ow.divw64 (by omega) (by omega) | exact Ow.mul0 ⟨by omega, by omega⟩ | exact Ow.mul1 ⟨by omega, by omega⟩ | exact Ow.shl0 (by omega) (by omega) (by omega) | exact ⟨by omega, by omega⟩ | exact ⟨by omega, by omega, by omega⟩ | omega | (simp only [List.length_append, List.length_cons, List.length_nil]; omega) | (subst_vars; omega) | assumption)), (by ((try subst_vars); (try have q3 := (by assumption : true = true ↔ 0 ≤ thing ∧ thing ≤ 2 ^ width.toNat - 1).mp rfl); first | with_reducible assumption | exact Ow.divw64 (by omega) (by omega) | exact Ow.mul0 ⟨by omega, by omega⟩ | exact Ow.mul1 ⟨by omega, by omega⟩ | exact Ow.shl0 (by omega) (by omega) (by omega) | exact ⟨by omega, by omega⟩ | exact ⟨by omega, by omega, by omega⟩ | omega | (simp only [List.length_append, List.length_cons, List.length_nil]; omega) | (subst_vars; omega) | assumption)), (by ((try subst_vars); (try have q3 := (by assumption : true = true ↔ 0 ≤ thing ∧ thing ≤ 2 ^ width.toNat - 1).mp rfl); first | with_reducible assumption | exact Ow.divw64 (by omega) (by omega) | exact Ow.mul0 ⟨by omega, by omega⟩ | exact Ow.mul1 ⟨by omega, by omega⟩ | exact Ow.shl0 (by omega) (by omega) (by omega) | exact ⟨by omega, by omega⟩ | exact ⟨by omega, by omega, by omega⟩ | omega | (simp only [List.length_append, List.length_cons, List.length_nil]; omega) | (subst_vars; omega) | assumption)), (by ((try subst_vars); (try have q3 := (by assumption : true = true ↔ 0 ≤ thing ∧ thing ≤ 2 ^ width.toNat - 1).mp rfl); first | with_reducible assumption | exact Ow.divw64 (by omega) (by omega) | exact Ow.mul0 ⟨by omega, by omega⟩ | exact Ow.mul1 ⟨by omega, by omega⟩ | exact Ow.shl0 (by omega) (by omega) (by omega) | exact ⟨by omega, by omega⟩ | exact ⟨by omega, by omega, by omega⟩ | omega | (simp only [List.length_append, List.length_cons, List.length_nil]; omega) | (subst_vars; omega) | assumption)), fun t h4 Hn_2 h5 => ?_⟩
      exact kont t (by subst_vars; assumption) _ (h1.trans h5)
    · obtain ⟨width, d, form, thing, fm, dx_form, rfl, c0, c1, c2, c3, c4, c5, c6, kont⟩ := h
      have p32_width := Ow.pow2_le32 (w := width) (by omega)
      have p0_width := Ow.p2 width.toNat
      have p32 := Ow.pow2_le32 (w := width) (by omega)
      have pw := Ow.p2 width.toNat
      refine ⟨_, rfl, ?_⟩
      refine ⟨_, rfl, ?_⟩
      refine ⟨_, rfl, ?_⟩
      refine ⟨_, _, _, fm, _, rfl, (by first | (walk_at "o2")), (by first | (walk_at "o2")), (by first | (walk_at "o2")), (by first | (walk_at "o2")), c4, (by first | (walk_at "o2")), (by first | (walk_at "o2")), fun p_2 Hn_3 h6 h7 h8 => ?_⟩
      refine ⟨_, rfl, ?_⟩
      refine ⟨_, rfl, rfl, (by first | (walk_at "o2")), fun B_2 h_B_2 h0_B_2 => ?_⟩
      refine ⟨_, _, rfl, rfl, ?_⟩
      refine ⟨_, rfl, fun last_2 h_last_2 => ?_⟩
      have hn := Ow.nrng (w := width) (by assumption : Ow.FOk fm) (by omega) (by omega)
      refine ⟨_, rfl, ?_⟩
      refine ⟨rfl, ?_⟩
      refine ⟨_, rfl, ?_⟩
      refine iteF ?_
      refine ⟨_, rfl, ?_⟩
      refine ⟨_, rfl, ?_⟩
      refine Or.inr (Or.inl ?_)
      refine ⟨_, _, _, rfl, fun t_2 h9 => ?_⟩
      refine ⟨_, rfl, ?_⟩
      refine Ow.ifnb (fun h10 => ?_) (fun h10 => ?_)
      · refine iteT ?_
        exact kont false (by (subst_vars; first | exact iff_of_false Bool.false_ne_true (Ow.wr_out (by assumption)) | exact iff_of_false Bool.false_ne_true (Ow.wr_right (by assumption)) | exact iff_of_true rfl (Ow.wr_zero rfl (by assumption) pw) | ((have q3 := (by assumption : true = true ↔ 0 ≤ thing ∧ thing ≤ 2 ^ width.toNat - 1).mp rfl); exact (by assumption : _ ↔ Ow.AllR _ _ _ _ _ _).trans (Ow.wr_iff (by assumption) q3.1 q3.2)))) _ h6
      · refine ⟨_, rfl, ?_⟩
        refine ⟨_, rfl, ?_⟩
        refine ⟨_, _, _, _, _, _, rfl, h8, (by ((try subst_vars); (try have q3 := (by assumption : true = true ↔ 0 ≤ thing ∧ thing ≤ 2 ^ width.toNat - 1).mp rfl); first | with_reducible assumption | exact Ow.divw64 (by omega) (by omega) | exact Ow.mul0 ⟨by omega, by omega⟩ | exact Ow.mul1 ⟨by omega, by omega⟩ | exact Ow.shl0 (by omega) (by omega) (by omega) | exact ⟨by omega, by omega⟩ | exact ⟨by omega, by omega, by omega⟩ | omega | (simp only [List.length_append, List.length_cons, List.length_nil]; omega) | (subst_vars; omega) | assumption)), (by ((try subst_vars); (try have q3 := (by assumption : true = true ↔ 0 ≤ thing ∧ thing ≤ 2 ^ width.toNat - 1).mp rfl); first | with_reducible assumption | exact Ow.divw64 (by omega) (by omega) | exact Ow.mul0 ⟨by omega, by omega⟩ | exact Ow.mul1 ⟨by omega, by omega⟩ | exact Ow.shl0 (by omega) (by omega) (by omega) | exact ⟨by omega, by omega⟩ | exact ⟨by omega, by omega, by omega⟩ | omega | (simp only [List.length_append, List.length_cons, List.length_nil]; omega) | (subst_vars; omega) | assumption)), (by ((try subst_vars); (try have q3 := (by assumption : true = true ↔ 0 ≤ thing ∧ thing ≤ 2 ^ width.toNat - 1).mp rfl); first | with_reducible assumption | exact Ow.divw64 (by omega) (by omega) | exact Ow.mul0 ⟨by omega, by omega⟩ | exact Ow.mul1 ⟨by omega, by omega⟩ | exact Ow.shl0 (by omega) (by omega) (by omega) | exact ⟨by omega, by omega⟩ | exact ⟨by omega, by omega, by omega⟩ | omega | (simp only [List.length_append, List.length_cons, List.length_nil]; omega) | (subst_vars; omega) | assumption)), (by ((try subst_vars); (try have q3 := (by assumption : true = true ↔ 0 ≤ thing ∧ thing ≤ 2 ^ width.toNat - 1).mp rfl); first | with_reducible assumption | exact Ow.divw64 (by omega) (by omega) | exact Ow.mul0 ⟨by omega, by omega⟩ | exact Ow.mul1 ⟨by omega, by omega⟩ | exact Ow.shl0 (by omega) (by omega) (by omega) | exact ⟨by omega, by omega⟩ | exact ⟨by omega, by omega, by omega⟩ | omega | (simp only [List.length_append, List.length_cons, List.length_nil]; omega) | (subst_vars; omega) | assumption)), (by ((try subst_vars); (try have q3 := (by assumption : true = true ↔ 0 ≤ thing ∧ thing ≤ 2 ^ width.toNat - 1).mp rfl); first | with_reducible assumption | exact Ow.divw64 (by omega) (by omega) | exact Ow.mul0 ⟨by omega, by omega⟩ | exact Ow.mul1 ⟨by omega, by omega⟩ | exact Ow.shl0 (by omega) (by omega) (by omega) | exact ⟨by omega, by omega⟩ | exact ⟨by omega, by omega, by omega⟩ | omega | (simp only [List.length_append, List.length_cons, List.length_nil]; omega) | (subst_vars; omega) | assumption)), (by ((try subst_vars); (try have q3 := (by assumption : true = true ↔ 0 ≤ thing ∧ thing ≤ 2 ^ width.toNat - 1).mp rfl); first | with_reducible assumption | exact Ow.divw64 (by omega) (by omega) | exact Ow.mul0 ⟨by omega, by omega⟩ | exact Ow.mul1 ⟨by omega, by omega⟩ | exact Ow.shl0 (by omega) (by omega) (by omega) | exact ⟨by omega, by omega⟩ | exact ⟨by omega, by omega, by omega⟩ | omega | (simp only [List.length_append, List.length_cons, List.length_nil]; omega) | (subst_vars; omega) | assumption)), (by ((try subst_vars); (try have q3 := (by assumption : true = true ↔ 0 ≤ thing ∧ thing ≤ 2 ^ width.toNat - 1).mp rfl); first | with_reducible assumption | exact Ow.divw64 (by omega) (by omega) | exact Ow.mul0 ⟨by omega, by omega⟩ | exact Ow.mul1 ⟨by omega, by omega⟩ | exact Ow.shl0 (by omega) (by omega) (by omega) | exact ⟨by omega, by omega⟩ | exact ⟨by omega, by omega, by omega⟩ | omega | (simp only [List.length_append, List.length_cons, List.length_nil]; omega) | (subst_vars; omega) | assumption)), (by ((try subst_vars); (try have q3 := (by assumption : true = true ↔ 0 ≤ thing ∧ thing ≤ 2 ^ width.toNat - 1).mp rfl); first | with_reducible assumption | exact Ow.divw64 (by omega) (by omega) | exact Ow.mul0 ⟨by omega, by omega⟩ | exact Ow.mul1 ⟨by omega, by omega⟩ | exact Ow.shl0 (by omega) (by omega) (by omega) | exact ⟨by omega, by omega⟩ | exact ⟨by omega, by omega, by omega⟩ | omega | (simp only [List.length_append, List.length_cons, List.length_nil]; omega) | (subst_vars; omega) | assumption)), (by ((try subst_vars); (try have q3 := (by assumption : true = true ↔ 0 ≤ thing ∧ thing ≤ 2 ^ width.toNat - 1).mp rfl); first | with_reducible assumption | exact Ow.divw64 (by omega) (by omega) | exact Ow.mul0 ⟨by omega, by omega⟩ | exact Ow.mul1 ⟨by omega, by omega⟩ | exact Ow.shl0 (by omega) (by omega) (by omega) | exact ⟨by omega, by omega⟩ | exact ⟨by omega, by omega, by omega⟩ | omega | (simp only [List.length_append, List.length_cons, List.length_nil]; omega) | (subst_vars; omega) | assumption)), (by ((try subst_vars); (try have q3 := (by assumption : true = true ↔ 0 ≤ thing ∧ thing ≤ 2 ^ width.toNat - 1).mp rfl); first | with_reducible assumption | exact Ow.divw64 (by omega) (by omega) | exact Ow.mul0 ⟨by omega, by omega⟩ | exact Ow.mul1 ⟨by omega, by omega⟩ | exact Ow.shl0 (by omega) (by omega) (by omega) | exact ⟨by omega, by omega⟩ | exact ⟨by omega, by omega, by omega⟩ | omega | (simp only [List.length_append, List.length_cons, List.length_nil]; omega) | (subst_vars; omega) | assumption)), ?_⟩
        refine ⟨_, rfl, ?_⟩
        refine ⟨_, rfl, ?_⟩
        refine ⟨_, _, rfl, rfl, (by first | (walk_at "o2")), fun q h_q => ?_⟩
        refine ⟨rfl, ?_⟩
        refine ⟨_, rfl, ?_⟩
        refine Ow.ifeqi (fun h11 => ?_) (fun h11 => ?_)
        · exact kont false (by (subst_vars; first | exact iff_of_false Bool.false_ne_true (Ow.wr_out (by assumption)) | exact iff_of_false Bool.false_ne_true (Ow.wr_right (by assumption)) | exact iff_of_true rfl (Ow.wr_zero rfl (by assumption) pw) | ((have q3 := (by assumption : true = true ↔ 0 ≤ thing ∧ thing ≤ 2 ^ width.toNat - 1).mp rfl); exact (by assumption : _ ↔ Ow.AllR _ _ _ _ _ _).trans (Ow.wr_iff (by assumption) q3.1 q3.2)))) _ h6
        · refine ⟨_, rfl, ?_⟩
          refine ⟨rfl, ?_⟩
          refine ⟨_, rfl, ?_⟩
          refine Ow.ifeqi (fun h12 => ?_) (fun h12 => ?_)
          · exact kont true (by (subst_vars; first | exact iff_of_false Bool.false_ne_true (Ow.wr_out (by assumption)) | exact iff_of_false Bool.false_ne_true (Ow.wr_right (by assumption)) | exact iff_of_true rfl (Ow.wr_zero rfl (by assumption) pw) | ((have q3 := (by assumption : true = true ↔ 0 ≤ thing ∧ thing ≤ 2 ^ width.toNat - 1).mp rfl); exact (by assumption : _ ↔ Ow.AllR _ _ _ _ _ _).trans (Ow.wr_iff (by assumption) q3.1 q3.2)))) _ h6
          · refine ⟨_, rfl, ?_⟩
            refine ⟨_, _, rfl, rfl, ?_⟩
            refine ⟨_, rfl, ?_⟩
            refine ⟨_, rfl, ?_⟩
            refine ⟨_, _, _, _, _, _, _, rfl, (by ((try subst_vars); (try have q3 := (by assumption : true = true ↔ 0 ≤ thing ∧ thing ≤ 2 ^ width.toNat - 1).mp rfl); first | with_reducible assumption | exact Ow.divw64 (by omega) (by omega) | exact Ow.mul0 ⟨by omega, by omega⟩ | exact Ow.mul1 ⟨by omega, by omega⟩ | exact Ow.shl0 (by omega) (by omega) (by omega) | exact ⟨by omega, by omega⟩ | exact ⟨by omega, by omega, by omega⟩ | omega | (simp only [List.length_append, List.length_cons, List.length_nil]; omega) | (subst_vars; omega) | assumption)), (by ((try subst_vars); (try have q3 := (by assumption : true = true ↔ 0 ≤ thing ∧ thing ≤ 2 ^ width.toNat - 1).mp rfl); first | with_reducible assumption | exact Ow.divw64 (by omega) (by omega) | exact Ow.mul0 ⟨by omega, by omega⟩ | exact Ow.mul1 ⟨by omega, by omega⟩ | exact Ow.shl0 (by omega) (by omega) (by omega) | exact ⟨by omega, by omega⟩ | exact ⟨by omega, by omega, by omega⟩ | omega | (simp only [List.length_append, List.length_cons, List.length_nil]; omega) | (subst_vars; omega) | assumption)), (by ((try subst_vars); (try have q3 := (by assumption : true = true ↔ 0 ≤ thing ∧ thing ≤ 2 ^ width.toNat - 1).mp rfl); first | with_reducible assumption | exact Ow.divw64 (by omega) (by omega) | exact Ow.mul0 ⟨by omega, by omega⟩ | exact Ow.mul1 ⟨by omega, by omega⟩ | exact Ow.shl0 (by omega) (by omega) (by omega) | exact ⟨by omega, by omega⟩ | exact ⟨by omega, by omega, by omega⟩ | omega | (simp only [List.length_append, List.length_cons, List.length_nil]; omega) | (subst_vars; omega) | assumption)), (by ((try subst_vars); (try have q3 := (by assumption : true = true ↔ 0 ≤ thing ∧ thing ≤ 2 ^ width.toNat - 1).mp rfl); first | with_reducible assumption | exact Ow.divw64 (by omega) (by omega) | exact Ow.mul0 ⟨by omega, by omega⟩ | exact Ow.mul1 ⟨by omega, by omega⟩ | exact Ow.shl0 (by omega) (by omega) (by omega) | exact ⟨by omega, by omega⟩ | exact ⟨by omega, by omega, by omega⟩ | omega | (simp only [List.length_append, List.length_cons, List.length_nil]; omega) | (subst_vars; omega) | assumption)), h8, (by ((try subst_vars); (try have q3 := (by assumption : true = true ↔ 0 ≤ thing ∧ thing ≤ 2 ^ width.toNat - 1).mp rfl); first | with_reducible assumption | exact Ow.divw64 (by omega) (by omega) | exact Ow.mul0 ⟨by omega, by omega⟩ | exact Ow.mul1 ⟨by omega, by omega⟩ | exact Ow.shl0 (by omega) (by omega) (by omega) | exact ⟨by omega, by omega⟩ | exact ⟨by omega, by omega, by omega⟩ | omega | (simp only [List.length_append, List.length_cons, List.length_nil]; omega) | (subst_vars; omega) | assumption)), (by ((try subst_vars); (try have q3 := (by assumption : true = true ↔ 0 ≤ thing ∧ thing ≤ 2 ^ width.toNat - 1).mp rfl); first | with_reducible assumption | exact Ow.divw64 (by omega) (by omega) | exact Ow.mul0 ⟨by omega, by omega⟩ | exact Ow.mul1 ⟨by omega, by omega⟩ | exact Ow.shl0 (by omega) (by omega) (by omega) | exact ⟨by omega, by omega⟩ | exact ⟨by omega, by omega, by omega⟩ | omega | (simp only [List.length_append, List.length_cons, List.length_nil]; omega) | (subst_vars; omega) | assumption)), (by ((try subst_vars); (try have q3 := (by assumption : true = true ↔ 0 ≤ thing ∧ thing ≤ 2 ^ width.toNat - 1).mp rfl); first | with_reducible assumption | exact Ow.divw64 (by omega) (by omega) | exact Ow.mul0 ⟨by omega, by omega⟩ | exact Ow.mul1 ⟨by omega, by omega⟩ | exact Ow.shl0 (by omega) (by omega) (by omega) | exact ⟨by omega, by omega⟩ | exact ⟨by omega, by omega, by omega⟩ | omega | (simp only [List.length_append, List.length_cons, List.length_nil]; omega) | (subst_vars; omega) | assumption)), (by ((try subst_vars); (try have q3 := (by assumption : true = true ↔ 0 ≤ thing ∧ thing ≤ 2 ^ width.toNat - 1).mp rfl); first | with_reducible assumption | exact Ow.divw64 (by omega) (by omega) | exact Ow.mul0 ⟨by omega, by omega⟩ | exact Ow.mul1 ⟨by omega, by omega⟩ | exact Ow.shl0 (by omega) (by omega) (by omega) | exact ⟨by omega, by omega⟩ | exact ⟨by omega, by omega, by omega⟩ | omega | (simp only [List.length_append, List.length_cons, List.length_nil]; omega) | (subst_vars; omega) | assumption)), (by ((try subst_vars); (try have q3 := (by assumption : true = true ↔ 0 ≤ thing ∧ thing ≤ 2 ^ width.toNat - 1).mp rfl); first | with_reducible assumption | exact Ow.divw64 (by omega) (by omega) | exact Ow.mul0 ⟨by omega, by omega⟩ | exact Ow.mul1 ⟨by omega, by omega⟩ | exact Ow.shl0 (by omega) (by omega) (by omega) | exact ⟨by omega, by omega⟩ | exact ⟨by omega, by omega, by omega⟩ | omega | (simp only [List.length_append, List.length_cons, List.length_nil]; omega) | (subst_vars; omega) | assumption)), (by ((try subst_vars); (try have q3 := (by assumption : true = true ↔ 0 ≤ thing ∧ thing ≤ 2 ^ width.toNat - 1).mp rfl); first | with_reducible assumption | exact Ow.divw64 (by omega) (by omega) | exact Ow.mul0 ⟨by omega, by omega⟩ | exact Ow.mul1 ⟨by omega, by omega⟩ | exact Ow.shl0 (by omega) (by omega) (by omega) | exact ⟨by omega, by omega⟩ | exact ⟨by omega, by omega, by omega⟩ | omega | (simp only [List.length_append, List.length_cons, List.length_nil]; omega) | (subst_vars; omega) | assumption)), (by ((try subst_vars); (try have q3 := (by assumption : true = true ↔ 0 ≤ thing ∧ thing ≤ 2 ^ width.toNat - 1).mp rfl); first | with_reducible assumption | exact Ow.divw64 (by omega) (by omega) | exact Ow.mul0 ⟨by omega, by omega⟩ | exact Ow.mul1 ⟨by omega, by omega⟩ | exact Ow.shl0 (by omega) (by omega) (by omega) | exact ⟨by omega, by omega⟩ | exact ⟨by omega, by omega, by omega⟩ | omega | (simp only [List.length_append, List.length_cons, List.length_nil]; omega) | (subst_vars; omega) | assumption)), (by ((try subst_vars); (try have q3 := (by assumption : true = true ↔ 0 ≤ thing ∧ thing ≤ 2 ^ width.toNat - 1).mp rfl); first | with_reducible assumption | exact Ow.divw64 (by omega) (by omega) | exact Ow.mul0 ⟨by omega, by omega⟩ | exact Ow.mul1 ⟨by omega, by omega⟩ | exact Ow.shl0 (by omega) (by omega) (by omega) | exact ⟨by omega, by omega⟩ | exact ⟨by omega, by omega, by omega⟩ | omega | (simp only [List.length_append, List.length_cons, List.length_nil]; omega) | (subst_vars; omega) | assumption)), (by ((try subst_vars); (try have q3 := (by assumption : true = true ↔ 0 ≤ thing ∧ thing ≤ 2 ^ width.toNat - 1).mp rfl); first | with_reducible assumption | exact Ow.divw64 (by omega) (by omega) | exact Ow.mul0 ⟨by omega, by omega⟩ | exact Ow.mul1 ⟨by omega, by omega⟩ | exact Ow.shl0 (by omega) (by omega) (by omega) | exact ⟨by omega, by omega⟩ | exact ⟨by omega, by omega, by omega⟩ | omega | (simp only [List.length_append, List.length_cons, List.length_nil]; omega) | (subst_vars; omega) | assumption)), fun t_3 h13 Hn_4 h14 => ?_⟩
            exact kont t_3 (by (subst_vars; first | exact iff_of_false Bool.false_ne_true (Ow.wr_out (by assumption)) | exact iff_of_false Bool.false_ne_true (Ow.wr_right (by assumption)) | exact iff_of_true rfl (Ow.wr_zero rfl (by assumption) pw) | ((have q3 := (by assumption : true = true ↔ 0 ≤ thing ∧ thing ≤ 2 ^ width.toNat - 1).mp rfl); exact (by assumption : _ ↔ Ow.AllR _ _ _ _ _ _).trans (Ow.wr_iff (by assumption) q3.1 q3.2)))) _ (h6.trans h14)
    · obtain ⟨width, d, form, thing, fm, dx_form, rfl, c0, c1, c2, c3, c4, c5, c6, kont⟩ := h
      have p32_width := Ow.pow2_le32 (w := width) (by omega)
      have p0_width := Ow.p2 width.toNat
      have p32 := Ow.pow2_le32 (w := width) (by omega)
      have pw := Ow.p2 width.toNat
      refine ⟨_, rfl, ?_⟩
      refine ⟨_, rfl, ?_⟩
      refine ⟨_, rfl, ?_⟩
      refine ⟨_, _, _, fm, _, rfl, (by first | (walk_at "o2")), (by first | (walk_at "o2")), (by first | (walk_at "o2")), (by first | (walk_at "o2")), c4, (by first | (walk_at "o2")), (by first | (walk_at "o2")), fun p_3 Hn_5 h15 h16 h17 => ?_⟩
      refine ⟨_, rfl, ?_⟩
      refine ⟨_, rfl, rfl, (by first | (walk_at "o2")), fun B_3 h_B_3 h0_B_3 => ?_⟩
      refine ⟨_, _, rfl, rfl, ?_⟩
      refine ⟨_, rfl, fun last_3 h_last_3 => ?_⟩
      have hn := Ow.nrng (w := width) (by assumption : Ow.FOk fm) (by omega) (by omega)
      refine ⟨_, rfl, ?_⟩
      refine ⟨rfl, ?_⟩
      refine ⟨_, rfl, ?_⟩
      refine iteF ?_
      refine ⟨_, rfl, ?_⟩
      refine ⟨_, rfl, ?_⟩
      refine Or.inr (Or.inr (Or.inr (Or.inl ?_)))
      refine ⟨_, _, _, rfl, ?_⟩
      refine ⟨_, rfl, ?_⟩
      refine iteT ?_
      refine iteT ?_
      exact kont _ h15
    · obtain ⟨width, d, form, thing, fm, dx_form, rfl, c0, c1, c2, c3, c4, c5, c6, kont⟩ := h
      have p32_width := Ow.pow2_le32 (w := width) (by omega)
      have p0_width := Ow.p2 width.toNat
      have p32 := Ow.pow2_le32 (w := width) (by omega)
      have pw := Ow.p2 width.toNat
      refine ⟨_, rfl, ?_⟩
      refine ⟨_, rfl, ?_⟩
      refine ⟨_, rfl, ?_⟩
      refine ⟨_, _, _, fm, _, rfl, (by first | (walk_at "o2")), (by first | (walk_at "o2")), (by first | (walk_at "o2")), (by first | (walk_at "o2")), c4, (by first | (walk_at "o2")), (by first | (walk_at "o2")), fun p_4 Hn_6 h18 h19 h20 => ?_⟩
      refine ⟨_, rfl, ?_⟩
      refine ⟨_, rfl, rfl, (by first | (walk_at "o2")), fun B_4 h_B_4 h0_B_4 => ?_⟩
      refine ⟨_, _, rfl, rfl, ?_⟩
      refine ⟨_, rfl, fun last_4 h_last_4 => ?_⟩
      have hn := Ow.nrng (w := width) (by assumption : Ow.FOk fm) (by omega) (by omega)
      refine ⟨_, rfl, ?_⟩
      refine ⟨rfl, ?_⟩
      refine ⟨_, rfl, ?_⟩
      refine iteF ?_
      refine ⟨_, rfl, ?_⟩
      refine ⟨_, rfl, ?_⟩
      refine Or.inr (Or.inr (Or.inr (Or.inr (Or.inl ?_))))
      refine ⟨_, _, _, rfl, ?_⟩
      refine ⟨_, rfl, ?_⟩
      refine iteT ?_
      refine iteT ?_
      exact kont _ h18
    · obtain ⟨width, d, form, thing, fm, vl, dx_form, rfl, c0, c1, c2, c3, c4, c5, c6, c7, kont⟩ := h
      have p32_width := Ow.pow2_le32 (w := width) (by omega)
      have p0_width := Ow.p2 width.toNat
      have p32 := Ow.pow2_le32 (w := width) (by omega)
      have pw := Ow.p2 width.toNat
      refine ⟨_, rfl, ?_⟩
      refine ⟨_, rfl, ?_⟩
      refine ⟨_, rfl, ?_⟩
      refine ⟨_, _, _, fm, _, rfl, (by first | (walk_at "o2")), (by first | (walk_at "o2")), (by first | (walk_at "o2")), (by first | (walk_at "o2")), c4, (by first | (walk_at "o2")), (by first | (walk_at "o2")), fun p_5 Hn_7 h21 h22 h23 => ?_⟩
      refine ⟨_, rfl, ?_⟩
      refine ⟨_, rfl, rfl, (by first | (walk_at "o2")), fun B_5 h_B_5 h0_B_5 => ?_⟩
      refine ⟨_, _, rfl, rfl, ?_⟩
      refine ⟨_, rfl, fun last_5 h_last_5 => ?_⟩
      have hn := Ow.nrng (w := width) (by assumption : Ow.FOk fm) (by omega) (by omega)
      refine ⟨_, rfl, ?_⟩
      refine ⟨rfl, ?_⟩
      refine ⟨_, rfl, ?_⟩
      refine iteF ?_
      refine ⟨_, rfl, ?_⟩
      refine ⟨_, rfl, ?_⟩
      refine Or.inr (Or.inr (Or.inr (Or.inr (Or.inr (Or.inl ?_)))))
      refine ⟨_, _, _, _, rfl, (h21 _ _ c7), ?_⟩
      refine ⟨_, rfl, ?_⟩
      refine iteT ?_
      refine iteT ?_
      exact kont _ h21
    · obtain ⟨width, d, form, thing, fm, vl, dx_form, rfl, c0, c1, c2, c3, c4, c5, c6, c7, kont⟩ := h
      have p32_width := Ow.pow2_le32 (w := width) (by omega)
      have p0_width := Ow.p2 width.toNat
      have p32 := Ow.pow2_le32 (w := width) (by omega)
      have pw := Ow.p2 width.toNat
      refine ⟨_, rfl, ?_⟩
      refine ⟨_, rfl, ?_⟩
      refine ⟨_, rfl, ?_⟩
      refine ⟨_, _, _, fm, _, rfl, (by first | (walk_at "o2")), (by first | (walk_at "o2")), (by first | (walk_at "o2")), (by first | (walk_at "o2")), c4, (by first | (walk_at "o2")), (by first | (walk_at "o2")), fun p_6 Hn_8 h24 h25 h26 => ?_⟩
      refine ⟨_, rfl, ?_⟩
      refine ⟨_, rfl, rfl, (by first | (walk_at "o2")), fun B_6 h_B_6 h0_B_6 => ?_⟩
      refine ⟨_, _, rfl, rfl, ?_⟩
      refine ⟨_, rfl, fun last_6 h_last_6 => ?_⟩
      have hn := Ow.nrng (w := width) (by assumption : Ow.FOk fm) (by omega) (by omega)
      refine ⟨_, rfl, ?_⟩
      refine ⟨rfl, ?_⟩
      refine ⟨_, rfl, ?_⟩
      refine iteF ?_
      refine ⟨_, rfl, ?_⟩
      refine ⟨_, rfl, ?_⟩
      refine Or.inr (Or.inr (Or.inr (Or.inr (Or.inr (Or.inr (Or.inl ?_))))))
      refine ⟨_, _, _, _, rfl, (h24 _ _ c7), ?_⟩
      refine ⟨_, rfl, ?_⟩
      refine iteT ?_
      refine iteT ?_
      exact kont _ h24
    · obtain ⟨width, d, form, thing, fm, dx_form, rfl, c0, c1, c2, c3, c4, c5, c6, c7, kont⟩ := h
      have p32_width := Ow.pow2_le32 (w := width) (by omega)
      have p0_width := Ow.p2 width.toNat
      have p32 := Ow.pow2_le32 (w := width) (by omega)
      have pw := Ow.p2 width.toNat
      refine ⟨_, rfl, ?_⟩
      refine ⟨_, rfl, ?_⟩
      refine ⟨_, rfl, ?_⟩
      refine ⟨_, _, _, fm, _, rfl, (by first | (walk_at "o2")), (by first | (walk_at "o2")), (by first | (walk_at "o2")), (by first | (walk_at "o2")), c4, (by first | (walk_at "o2")), (by first | (walk_at "o2")), fun p_7 Hn_9 h27 h28 h29 => ?_⟩
      refine ⟨_, rfl, ?_⟩
      refine ⟨_, rfl, rfl, (by first | (walk_at "o2")), fun B_7 h_B_7 h0_B_7 => ?_⟩
      refine ⟨_, _, rfl, rfl, ?_⟩
      refine ⟨_, rfl, fun last_7 h_last_7 => ?_⟩
      have hn := Ow.nrng (w := width) (by assumption : Ow.FOk fm) (by omega) (by omega)
      refine ⟨_, rfl, ?_⟩
      refine ⟨rfl, ?_⟩
      refine ⟨_, rfl, ?_⟩
      refine iteF ?_
      refine ⟨_, rfl, ?_⟩
      refine ⟨_, rfl, ?_⟩
      refine Or.inr (Or.inr (Or.inr (Or.inr (Or.inr (Or.inr (Or.inr (?_)))))))
      refine ⟨_, _, _, rfl, (h27 _ _ c7), ?_⟩
      refine ⟨_, rfl, ?_⟩
      refine iteT ?_
      refine iteT ?_
      exact kont _ h27
theorem ok_l_first (T : Tx K mg) : FnOk P w K mg base CX0 2 T.d_l_first.f T.d_l_first.fd ["_law_width", "_law_d", "_law_numbers_here"] (sp_l_first T) := by
  refine T.d_l_first.F.ok sc_l_first (fun vs H Q E h => ?_) (fun cdv A outer s H vs Q E hr h => ?_)
  · obtain ⟨width, d, nums, e, f, ad, t, rfl, _⟩ := h
    rfl
  · obtain ⟨width, d, nums, e, f, ad, t, rfl, c0, c1, c2, c3, c4, c5, c6, c7, c8, c9, c10, c11, c12, c13, kont0, kont1⟩ := h
    have p32_width := Ow.pow2_le32 (w := width) (by omega)
    have p0_width := Ow.p2 width.toNat
    have p32 := Ow.pow2_le32 (w := width) (by omega)
    have pw := Ow.p2 width.toNat
    refine ⟨_, (pss_cons (ps_for PassesOwn.never rfl (pi_range1 (by rfl) T.z_range (pa_cons (pe_op Ow.op_shl1 pe_int (pv 0)) pa_nil)) (pg_name (i := 3) sc_l_first.nd rfl (Or.inl rfl)) (pss_one (ps_if (pt_cmpR op_ne (pe_call (Ow.ok_l_brought T) (hr.mono (by decide : 1 ≤ 1)) (by rfl) T.d_l_brought.m T.d_l_brought.F.kp T.d_l_brought.b .nil pass0 (pa_cons (pv 2) (pa_cons (pv 3) pa_nil))) (pe_op Ow.op_divN (pv 3) (pv 1)) (nomark _)) (pss_one (ps_ret (pv 3))) pss_nil)))
        (pss_one (ps_ret pe_non))), ?_⟩
    refine ⟨_, rfl, ?_⟩
    refine ⟨_, rfl, rfl, (by first | (walk_at "o2")), fun B h_B h0_B => ?_⟩
    refine ⟨_, rfl, (by first | (walk_at "o2")), (by first | (walk_at "o2")), ?_⟩
    refine for_range (lo := 0) (fun ixv σ2 H2 => ∃ (v_3 : Option V), σ2 = [some (.int (width)), some (.int (d)), some (.ref nums), v_3] ∧ Same H H2 ∧ (∀ k : Int, 0 ≤ k → k < ixv → Ow.brought e f ad t k = k / d) ∧ True) ⟨_, rfl, (Same.refl _), (by intro k h1 h2; omega), trivial⟩ ?_ ?_
    · rintro i _ Hn h1 ⟨_, rfl, h2, h3, _⟩
      refine Ow.gturn (fun l_x h_l_x => ?_)
      refine ⟨_, rfl, ?_⟩
      refine ⟨_, rfl, ?_⟩
      refine ⟨_, _, _, _, _, _, rfl, (h2 _ _ c4), (by first | (walk_at "o2")), (by first | (walk_at "o2")), (by first | (walk_at "o2")), (by first | (walk_at "o2")), (by first | (walk_at "o2")), (by first | (walk_at "o2")), (by first | (walk_at "o2")), (by first | (walk_at "o2")), (by first | (walk_at "o2")), (by first | (walk_at "o2")), ?_⟩
      refine ⟨_, rfl, ?_⟩
      refine ⟨_, rfl, ?_⟩
      refine ⟨_, _, rfl, rfl, (by first | (walk_at "o2")), fun q h_q => ?_⟩
      refine ⟨rfl, ?_⟩
      refine ⟨_, rfl, ?_⟩
      refine Ow.ifnei (fun h4 => ?_) (fun h4 => ?_)
      · refine ⟨_, rfl, ?_⟩
        exact kont1 l_x (by first | exact Ow.upto_all (P := fun k => Ow.brought e f ad t k = k / d) (by assumption) (by omega) | exact ⟨by omega, by omega, by first | assumption | (subst_vars; assumption), fun x x0 x1 => (by assumption : ∀ k : Int, 0 ≤ k → k < _ → Ow.brought e f ad t k = k / d) x x0 (by omega)⟩) _ h2
      · exact ⟨_, rfl, h2, (by exact Ow.upto_step (x := l_x) (P := fun k => Ow.brought e f ad t k = k / d) (by assumption) (by first | assumption | (subst_vars; assumption)) (by assumption)), trivial⟩
    · rintro _ Hn_2 ⟨_, rfl, h5, h6, _⟩
      exact kont0 (by first | exact Ow.upto_all (P := fun k => Ow.brought e f ad t k = k / d) (by assumption) (by omega) | exact ⟨by omega, by omega, by first | assumption | (subst_vars; assumption), fun x x0 x1 => (by assumption : ∀ k : Int, 0 ≤ k → k < _ → Ow.brought e f ad t k = k / d) x x0 (by omega)⟩) _ h5
theorem ok_l_case (T : Tx K mg) : FnOk P w K mg base CX0 7 T.d_l_case.f T.d_l_case.fd ["_law_state"] (sp_l_case T) := by
  refine T.d_l_case.F.ok sc_l_case (fun vs H Q E h => ?_) (fun cdv A outer s H vs Q E hr h => ?_)
  · obtain ⟨box, a, c, rfl, _⟩ := h
    rfl
  · obtain ⟨box, a, c, rfl, c0, kont⟩ := h
    refine ⟨_, (pss_cons (ps_set (i := 1) sc_l_case.nd rfl (Or.inl rfl) (Ow.pe_nmi (pe_op op_add pe_int (pe_call (Ow.ok_l_draw T) (hr.mono (by decide : 1 ≤ 6)) (by rfl) T.d_l_draw.m T.d_l_draw.F.kp T.d_l_draw.b .nil pass0 (pa_cons (pv 0) (pa_cons pe_int pa_nil))))))
        (pss_cons (ps_if (pt_cmpR op_eq (pe_call (Ow.ok_l_draw T) (hr.mono (by decide : 1 ≤ 6)) (by rfl) T.d_l_draw.m T.d_l_draw.F.kp T.d_l_draw.b .nil pass0 (pa_cons (pv 0) (pa_cons pe_int pa_nil))) pe_int (nomark _)) (pss_one (ps_set (i := 1) sc_l_case.nd rfl (Or.inl rfl) (Ow.pe_nmi (pe_op op_add pe_int (pe_call (Ow.ok_l_draw T) (hr.mono (by decide : 1 ≤ 6)) (by rfl) T.d_l_draw.m T.d_l_draw.F.kp T.d_l_draw.b .nil pass0 (pa_cons (pv 0) (pa_cons pe_int pa_nil))))))) pss_nil)
        (pss_cons (ps_set (i := 2) sc_l_case.nd rfl (Or.inl rfl) (pe_call (Ow.ok_l_divisor T) (hr.mono (by decide : 2 ≤ 6)) (by rfl) T.d_l_divisor.m T.d_l_divisor.F.kp T.d_l_divisor.b .nil pass0 (pa_cons (pv 0) (pa_cons (pv 1) pa_nil))))
        (pss_cons (ps_set (i := 3) sc_l_case.nd rfl (Or.inl rfl) (pe_call (Ow.ok_l_near T) (hr.mono (by decide : 2 ≤ 6)) (by rfl) T.d_l_near.m T.d_l_near.F.kp T.d_l_near.b .nil pass0 (pa_cons (pv 0) (pa_cons (pv 1) (pa_cons (pv 2) pa_nil)))))
        (pss_cons (ps_set (i := 4) sc_l_case.nd rfl (Or.inl rfl) (pe_call (Ow.ok_l_numbers T) (hr.mono (by decide : 1 ≤ 6)) (by rfl) T.d_l_numbers.m T.d_l_numbers.F.kp T.d_l_numbers.b .nil pass0 (pa_cons (pv 3) (pa_cons (pv 1) pa_nil))))
        (pss_cons (ps_set (i := 5) sc_l_case.nd rfl (Or.inl rfl) (pe_call (Ow.ok_l_make T) (hr.mono (by decide : 6 ≤ 6)) (by rfl) T.d_l_make.m T.d_l_make.F.kp T.d_l_make.b .nil pass0 (pa_cons (pv 3) pa_nil)))
        (pss_cons (ps_asg (pe_call (Ow.ok_l_other T) (hr.mono (by decide : 3 ≤ 6)) (by rfl) T.d_l_other.m T.d_l_other.F.kp T.d_l_other.b .nil pass0 (pa_cons (pv 0) (pa_cons (pv 1) (pa_cons (pv 2) (pa_cons (pe_ix ix_tup (pv 4) pe_int (fun _ _ => rfl)) pa_nil))))) (pg_tup rfl (pgs_cons (pg_name (i := 6) sc_l_case.nd rfl (Or.inl rfl)) (pgs_cons (pg_name (i := 7) sc_l_case.nd rfl (Or.inl rfl)) pgs_nil))))
        (pss_cons (ps_for PassesOwn.never rfl (pi_list (pe_lst (pa_cons pe_non (pa_cons (pe_call (Ow.ok_wrong_word T) (hr.mono (by decide : 6 ≤ 6)) (by rfl) T.d_wrong_word.m T.d_wrong_word.F.kp T.d_wrong_word.b .nil pass0 (pa_cons (pv 6) (pa_cons (pv 7) (pa_cons (pv 5) pa_nil)))) pa_nil)))) (pg_name (i := 8) sc_l_case.nd rfl (Or.inl rfl)) (pss_one (ps_if (pt_cmpR op_ne (pe_call (Ow.ok_is_wrong_word T) (hr.mono (by decide : 6 ≤ 6)) (by rfl) T.d_is_wrong_word.m T.d_is_wrong_word.F.kp T.d_is_wrong_word.b .nil pass0 (pa_cons (pv 6) (pa_cons (pv 7) (pa_cons (pv 5) (pa_cons (pv 8) pa_nil))))) (pe_call (Ow.ok_l_least T) (hr.mono (by decide : 3 ≤ 6)) (by rfl) T.d_l_least.m T.d_l_least.F.kp T.d_l_least.b .nil pass0 (pa_cons (pe_op op_sub (pe_op Ow.op_shl1 pe_int (pv 6)) pe_int) (pa_cons (pv 7) (pa_cons (pe_call (Ow.ok_l_numbers T) (hr.mono (by decide : 1 ≤ 6)) (by rfl) T.d_l_numbers.m T.d_l_numbers.F.kp T.d_l_numbers.b .nil pass0 (pa_cons (pv 3) (pa_cons (pv 6) pa_nil))) (pa_cons (pv 8) pa_nil))))) (nomark _)) (pss_one (ps_ret pe_bl)) pss_nil)))
        (pss_cons (ps_set (i := 9) sc_l_case.nd rfl (Or.inl rfl) (pe_call (Ow.ok_wrong_word T) (hr.mono (by decide : 6 ≤ 6)) (by rfl) T.d_wrong_word.m T.d_wrong_word.F.kp T.d_wrong_word.b .nil pass0 (pa_cons (pv 1) (pa_cons (pv 2) (pa_cons (pv 5) pa_nil)))))
        (pss_cons (ps_for PassesOwn.never rfl (pi_list (pe_call (Ow.ok_l_things T) (hr.mono (by decide : 2 ≤ 6)) (by rfl) T.d_l_things.m T.d_l_things.F.kp T.d_l_things.b .nil pass0 (pa_cons (pv 0) (pa_cons (pv 1) (pa_cons (pv 2) (pa_cons (pv 9) pa_nil)))))) (pg_name (i := 8) sc_l_case.nd rfl (Or.inl rfl)) (pss_cons (ps_set (i := 10) sc_l_case.nd rfl (Or.inl rfl) (pe_call (Ow.ok_l_least T) (hr.mono (by decide : 3 ≤ 6)) (by rfl) T.d_l_least.m T.d_l_least.F.kp T.d_l_least.b .nil pass0 (pa_cons (pe_op op_sub (pe_op Ow.op_shl1 pe_int (pv 1)) pe_int) (pa_cons (pv 2) (pa_cons (pv 4) (pa_cons (pv 8) pa_nil))))))
        (pss_cons (ps_set (i := 11) sc_l_case.nd rfl (Or.inl rfl) (pe_call (Ow.ok_is_wrong_word T) (hr.mono (by decide : 6 ≤ 6)) (by rfl) T.d_is_wrong_word.m T.d_is_wrong_word.F.kp T.d_is_wrong_word.b .nil pass0 (pa_cons (pv 1) (pa_cons (pv 2) (pa_cons (pv 5) (pa_cons (pv 8) pa_nil))))))
        (pss_cons (ps_if (PW.pt (pw_or (pt_not (pt_val (pe_callB call_isi (by rfl) T.z_isinstance (by decide +kernel) (pa_cons (pv 11) (pa_cons (pe_bltn (v := .ty "bool") (by rfl) T.z_bool (by decide +kernel) rfl) pa_nil))))) (pw_or1 (pt_cmpR op_ne (pv 11) (pv 10) (nomark _))))) (pss_one (ps_ret pe_bl)) pss_nil)
        (pss_one (ps_if (PW.pt (pw_and (pt_cmpR op_le (pv 1) pe_int (nomark _)) (pw_and (PW.pt (pw_or (pt_cmpR op_isN (pv 8) pe_non (nomark _)) (pw_or1 (pt_val (pe_call (Ow.ok_l_whole T) (hr.mono (by decide : 1 ≤ 6)) (by rfl) T.d_l_whole.m T.d_l_whole.F.kp T.d_l_whole.b .nil pass0 (pa_cons (pv 8) pa_nil)))))) (pw_and1 (pt_cmpR op_ne (pv 10) (pe_cmpR op_eq (pv 8) (pe_call (Ow.ok_l_first T) (hr.mono (by decide : 2 ≤ 6)) (by rfl) T.d_l_first.m T.d_l_first.F.kp T.d_l_first.b .nil pass0 (pa_cons (pv 1) (pa_cons (pv 2) (pa_cons (pv 4) pa_nil)))) (nomark _)) (nomark _)))))) (pss_one (ps_ret pe_bl)) pss_nil))))))
        (pss_one (ps_ret pe_bl)))))))))))), ?_⟩
    refine ⟨_, rfl, ?_⟩
    refine ⟨_, _, _, _, rfl, c0, (by first | (walk_at "o2")), (by first | (walk_at "o2")), fun t a2 c2 h1 h2 => ?_⟩
    refine ⟨_, _, rfl, rfl, ?_⟩
    refine ⟨_, rfl, fun l_width h_l_width => ?_⟩
    have z_l_width : Ow.Sz 4 l_width := by rw [h_l_width]; exact (Ow.Sz.add (Ow.Sz.lit (n := 3) (i := 4) (by decide)) (Ow.Sz.rng (n := 3) h1 h2 (by decide)))
    refine Ow.gnm ?_
    refine Ow.join (fun σ2 H2 => ∃ (wi : Int) (a9 : Int) (c9 : Int) (v_2 : Option V) (v_3 : Option V) (v_4 : Option V) (v_5 : Option V) (v_6 : Option V) (v_7 : Option V) (v_8 : Option V) (v_9 : Option V) (v_10 : Option V) (v_11 : Option V), σ2 = [some (.ref box), some (.int (wi)), v_2, v_3, v_4, v_5, v_6, v_7, v_8, v_9, v_10, v_11] ∧ Ow.Fm box H H2 ∧ H2 box = some (.lst [.int (a9), .int (c9)]) ∧ (4 ≤ wi) ∧ (wi ≤ 32) ∧ True) (fun N h3 => ?_) (fun σ2 H2 h4 => ?_)
    · refine ⟨_, rfl, ?_⟩
      refine ⟨_, _, _, _, rfl, upd_same, (by first | (walk_at "o2")), (by first | (walk_at "o2")), fun t_2 a2_2 c2_2 h5 h6 => ?_⟩
      refine ⟨rfl, ?_⟩
      refine ⟨_, rfl, ?_⟩
      refine Ow.ifeqi (fun h7 => ?_) (fun h7 => ?_)
      · refine ⟨_, rfl, ?_⟩
        refine ⟨_, _, _, _, rfl, upd_same, (by first | (walk_at "o2")), (by first | (walk_at "o2")), fun t_3 a2_3 c2_3 h8 h9 => ?_⟩
        refine ⟨_, _, rfl, rfl, ?_⟩
        refine ⟨_, rfl, fun l_width_2 h_l_width_2 => ?_⟩
        have z_l_width_2 : Ow.Sz 6 l_width_2 := by rw [h_l_width_2]; exact (Ow.Sz.add (Ow.Sz.mono (Ow.Sz.lit (n := 3) (i := 4) (by decide)) (by decide : 3 ≤ 5)) (Ow.Sz.rng (n := 5) h8 h9 (by decide)))
        exact h3 _ _ ⟨l_width_2, _, _, _, _, _, _, _, _, _, _, _, _, rfl, (((Ow.Fm.refl.mut).mut).mut), upd_same, (by first | (walk_at "o2")), (by first | (walk_at "o2")), trivial⟩
      · exact h3 _ _ ⟨l_width, _, _, _, _, _, _, _, _, _, _, _, _, rfl, ((Ow.Fm.refl.mut).mut), upd_same, (by first | (walk_at "o2")), (by first | (walk_at "o2")), trivial⟩
    · obtain ⟨wi, a9, c9, _, _, _, _, _, _, _, _, _, _, rfl, h10, h11, h12, h13, _⟩ := h4
      refine ⟨_, rfl, ?_⟩
      refine ⟨_, rfl, ?_⟩
      refine ⟨_, _, _, _, rfl, h11, (by first | (walk_at "o2")), (by first | (walk_at "o2")), fun l_d a2_4 c2_4 h14 h15 => ?_⟩
      refine Ow.gnmS (σ' := [_, _, _, _, _, _, _, _, _, _, _, _]) rfl ?_
      refine ⟨_, rfl, ?_⟩
      refine ⟨_, rfl, ?_⟩
      refine ⟨_, rfl, ?_⟩
      refine ⟨_, _, _, _, _, rfl, upd_same, (by first | (walk_at "o2")), (by first | (walk_at "o2")), (by first | (walk_at "o2")), (by first | (walk_at "o2")), fun fm a2_5 c2_5 h16 h17 p Hn h18 h19 h20 h21 => ?_⟩
      refine Ow.gnmS (σ' := [_, _, _, _, _, _, _, _, _, _, _, _]) rfl ?_
      refine ⟨_, rfl, ?_⟩
      refine ⟨_, rfl, ?_⟩
      refine ⟨_, _, fm, rfl, (by first | (walk_at "o2")), (by first | (walk_at "o2")), h21, (by first | (walk_at "o2")), fun p_2 Hn_2 h22 h23 h24 => ?_⟩
      refine Ow.gnmS (σ' := [_, _, _, _, _, _, _, _, _, _, _, _]) rfl ?_
      refine ⟨_, rfl, ?_⟩
      refine ⟨_, fm, rfl, (h22 _ _ h21), (by first | (walk_at "o2")), fun o dx Hn_3 h25 h26 h27 => ?_⟩
      refine Ow.gnmS (σ' := [_, _, _, _, _, _, _, _, _, _, _, _]) rfl ?_
      have hn := Ow.nrng (w := wi) (fm := fm) (by assumption) (by omega) (by omega)
      have p33 := Ow.pow2_le32 (w := wi) (by omega)
      refine ⟨_, rfl, ?_⟩
      refine ⟨_, rfl, ?_⟩
      refine ⟨_, rfl, ?_⟩
      refine ⟨_, rfl, ?_⟩
      refine ⟨_, _, _, _, rfl, rfl, (SqT.of (h25 _ _ h24)), (by first | rfl | decide), ?_⟩
      refine ⟨_, _, _, _, _, _, rfl, (h25 _ _ (h22 _ _ h19)), (by first | (walk_at "o2")), (by first | (walk_at "o2")), (by first | (walk_at "o2")), (by first | (walk_at "o2")), (by first | (walk_at "o2")), (by first | (walk_at "o2")), fun wi_2 dv a2_6 c2_6 h28 h29 h30 h31 h32 p_3 Hn_4 h33 h34 h35 h36 => ?_⟩
      refine ⟨_, _, rfl, (SqT.of h36), rfl, ?_⟩
      refine ⟨_, _, rfl, ?_⟩
      refine ⟨_, _, rfl, ?_⟩
      refine ⟨rfl, ?_⟩
      have hn2 := Ow.nrng (w := wi_2) (fm := fm) (by assumption) (by omega) (by omega)
      have p34 := Ow.pow2_le32 (w := wi_2) (by omega)
      refine ⟨_, rfl, ?_⟩
      refine ⟨_, rfl, ?_⟩
      refine ⟨_, rfl, ?_⟩
      refine ⟨_, _, _, fm, _, rfl, (by first | (walk_at "o2")), (by first | (walk_at "o2")), (by first | (walk_at "o2")), (by first | (walk_at "o2")), (h33 _ _ (Ow.ne_sym (ne_of_none (h22 _ _ h19) h26)) h27), (by first | (walk_at "o2")), (by first | (walk_at "o2")), ?_, ?_⟩
      · refine fun h37 Hn_5 h38 => ?_
        refine ⟨by show 2 ≤ sizeLine; decide, fun p_4 h_p_4 => ?_⟩
        refine ⟨_, rfl, ⟨_, (SqL.of upd_same)⟩, ?_⟩
        refine Ow.un_start (K := K) (a := p_4) (xs := [.non, .non]) ?_
        refine ⟨(SqL.of upd_same), ?_⟩
        refine ⟨_, rfl, ?_⟩
        refine ⟨_, rfl, ?_⟩
        refine ⟨_, rfl, ?_⟩
        refine ⟨_, rfl, ?_⟩
        refine Or.inl ?_
        refine ⟨_, _, _, fm, _, rfl, (by first | (walk_at "o2")), (by first | (walk_at "o2")), (by first | (walk_at "o2")), (by first | (walk_at "o2")), (Ow.at_new h_p_4 (h38 _ _ (h33 _ _ (Ow.ne_sym (ne_of_none (h22 _ _ h19) h26)) h27))), (by first | (walk_at "o2")), (by first | (walk_at "o2")), fun t_4 h39 Hn_6 h40 => ?_⟩
        refine ⟨_, rfl, ?_⟩
        refine ⟨_, rfl, rfl, (by first | (walk_at "o2")), fun B h_B h0_B => ?_⟩
        refine ⟨_, _, rfl, rfl, ?_⟩
        refine ⟨_, rfl, ?_⟩
        refine ⟨_, rfl, ?_⟩
        refine ⟨_, rfl, ?_⟩
        refine ⟨_, _, fm, rfl, (by first | (walk_at "o2")), (by first | (walk_at "o2")), (h40 _ _ (Ow.at_new h_p_4 (h38 _ _ (Ow.at_fmT h33 (h25 _ _ (h22 _ _ h19)) (h25 _ _ (h22 _ _ h21)))))), (by first | (walk_at "o2")), fun p_5 Hn_7 h41 h42 h43 => ?_⟩
        refine ⟨_, rfl, ?_⟩
        refine Or.inl ?_
        refine ⟨_, _, _, _, _, _, _, rfl, (by first | (walk_at "o2")), (by first | (walk_at "o2")), (by first | (walk_at "o2")), (by first | (walk_at "o2")), h43, (by first | (walk_at "o2")), (by first | (walk_at "o2")), (by first | (walk_at "o2")), (by first | (walk_at "o2")), (by first | (walk_at "o2")), (by first | (walk_at "o2")), (by first | (walk_at "o2")), (by first | (walk_at "o2")), (by first | (walk_at "o2")), fun t_5 h44 Hn_8 h45 => ?_⟩
        refine ⟨rfl, ?_⟩
        refine ⟨_, rfl, ?_⟩
        refine Ow.ifneb (fun h46 => ?_) (fun h46 => ?_)
        · try simp only [decide_eq_true_eq, V.int.injEq] at h46
          exact ((by (subst_vars; first | exact h46 Iff.rfl | exact h46 trivial | exact h46 (Iff.trans (by assumption : _ = true ↔ Ow.Right _ _ _) (Iff.symm (by assumption : _ = true ↔ Ow.AllR _ _ _ _ _ _))) | exact Ow.no_T h46 (by assumption) (by assumption) | exact Ow.no_a h46 (by assumption) (by assumption) | exact Ow.no_b h46 (by assumption) (by assumption) | exact Ow.no_c h46 (by assumption) (by assumption) | exact h46 (Iff.trans (by assumption : _ = true ↔ Ow.WrongF _ _ _ _) (Iff.symm (by assumption : _ = true ↔ Ow.LwR _ _ _ _ _ _ _))))) : False).elim
        · try simp only [decide_eq_true_eq, V.int.injEq] at h46
          refine ⟨(SqL.of (h45 _ _ (h41 _ _ (h40 _ _ upd_same)))), ?_⟩
          refine ⟨_, rfl, ?_⟩
          refine ⟨_, rfl, ?_⟩
          refine ⟨_, rfl, ?_⟩
          refine ⟨_, rfl, ?_⟩
          refine Or.inl ?_
          refine ⟨_, _, _, fm, _, rfl, (by first | (walk_at "o2")), (by first | (walk_at "o2")), (by first | (walk_at "o2")), (by first | (walk_at "o2")), (h45 _ _ (h41 _ _ (h40 _ _ (Ow.at_new h_p_4 (h38 _ _ (h33 _ _ (Ow.ne_sym (ne_of_none (h22 _ _ h19) h26)) h27)))))), (by first | (walk_at "o2")), (by first | (walk_at "o2")), fun t_6 h47 Hn_9 h48 => ?_⟩
          refine ⟨_, rfl, ?_⟩
          refine ⟨_, rfl, rfl, (by first | (walk_at "o2")), fun B_2 h_B_2 h0_B_2 => ?_⟩
          refine ⟨_, _, rfl, rfl, ?_⟩
          refine ⟨_, rfl, ?_⟩
          refine ⟨_, rfl, ?_⟩
          refine ⟨_, rfl, ?_⟩
          refine ⟨_, _, fm, rfl, (by first | (walk_at "o2")), (by first | (walk_at "o2")), (h48 _ _ (h45 _ _ (h41 _ _ (h40 _ _ (Ow.at_new h_p_4 (h38 _ _ (Ow.at_fmT h33 (h25 _ _ (h22 _ _ h19)) (h25 _ _ (h22 _ _ h21))))))))), (by first | (walk_at "o2")), fun p_6 Hn_10 h49 h50 h51 => ?_⟩
          refine ⟨_, rfl, ?_⟩
          refine Or.inl ?_
          refine ⟨_, _, _, _, _, _, _, rfl, (by first | (walk_at "o2")), (by first | (walk_at "o2")), (by first | (walk_at "o2")), (by first | (walk_at "o2")), h51, (by first | (walk_at "o2")), (by first | (walk_at "o2")), (by first | (walk_at "o2")), (by first | (walk_at "o2")), (by first | (walk_at "o2")), (by first | (walk_at "o2")), (by first | (walk_at "o2")), (by first | (walk_at "o2")), (by first | (walk_at "o2")), fun t_7 h52 Hn_11 h53 => ?_⟩
          refine ⟨rfl, ?_⟩
          refine ⟨_, rfl, ?_⟩
          refine Ow.ifneb (fun h54 => ?_) (fun h54 => ?_)
          · try simp only [decide_eq_true_eq, V.int.injEq] at h54
            exact ((by (subst_vars; first | exact h54 Iff.rfl | exact h54 trivial | exact h54 (Iff.trans (by assumption : _ = true ↔ Ow.Right _ _ _) (Iff.symm (by assumption : _ = true ↔ Ow.AllR _ _ _ _ _ _))) | exact Ow.no_T h54 (by assumption) (by assumption) | exact Ow.no_a h54 (by assumption) (by assumption) | exact Ow.no_b h54 (by assumption) (by assumption) | exact Ow.no_c h54 (by assumption) (by assumption) | exact h54 (Iff.trans (by assumption : _ = true ↔ Ow.WrongF _ _ _ _) (Iff.symm (by assumption : _ = true ↔ Ow.LwR _ _ _ _ _ _ _))))) : False).elim
          · try simp only [decide_eq_true_eq, V.int.injEq] at h54
            refine ⟨(SqL.of (h53 _ _ (h49 _ _ (h48 _ _ (h45 _ _ (h41 _ _ (h40 _ _ upd_same))))))), ?_⟩
            refine ⟨_, rfl, ?_⟩
            refine ⟨_, rfl, ?_⟩
            refine ⟨_, rfl, ?_⟩
            refine ⟨_, _, _, fm, _, rfl, (by first | (walk_at "o2")), (by first | (walk_at "o2")), (by first | (walk_at "o2")), (by first | (walk_at "o2")), (h53 _ _ (h49 _ _ (h48 _ _ (h45 _ _ (h41 _ _ (h40 _ _ (Ow.at_new h_p_4 (h38 _ _ (h33 _ _ (Ow.ne_sym (ne_of_none (h22 _ _ h19) h26)) h27))))))))), (by first | (walk_at "o2")), (by first | (walk_at "o2")), ?_, ?_⟩
            · refine fun h55 Hn_12 h56 => ?_
              refine Ow.gnmS (σ' := [_, _, _, _, _, _, _, _, _, _, _, _]) rfl ?_
              try have wr := (by assumption : Ow.WrongF fm wi l_d _)
              try have wr1 := wr.1
              try have wr2 := wr.2.1
              refine ⟨_, rfl, ?_⟩
              refine ⟨_, rfl, ?_⟩
              refine ⟨_, rfl, ?_⟩
              refine ⟨_, rfl, ?_⟩
              refine Or.inl ?_
              refine ⟨_, _, _, _, _, rfl, (h56 _ _ (h53 _ _ (h49 _ _ (h48 _ _ (h45 _ _ (h41 _ _ (h40 _ _ (Ow.at_new h_p_4 (h38 _ _ h34))))))))), (by first | (walk_at "o2")), (by first | (walk_at "o2")), (by first | (walk_at "o2")), (by first | (walk_at "o2")), fun x1 x2 a2_7 c2_7 h57 h58 h59 h60 p_7 l1 t0 d0 Hn_13 h61 h62 h63 h64 h65 h66 h67 h68 h69 h70 h71 => ?_⟩
              refine ⟨_, rfl, ⟨_, (SqL.of h67)⟩, ?_⟩
              refine for_list (K := K) (a := p_7) (xs := [.non, .bl (true), .bl (false), .int (-1), .int (2 ^ wi.toNat), .int (2 ^ wi.toNat - 1), .int (0), .int (1), .int (l_d), .str ("1"), .ref l1, .ref t0, .ref d0, .int (x1), .int (x2)]) (fun ixv σ2 H2 => ∃ (a9 : Int) (c9 : Int) (v_8 : Option V) (v_10 : Option V) (v_11 : Option V), σ2 = [some (.ref box), some (.int (wi)), some (.int (l_d)), some (.ref p), some (.ref p_2), some (.ref o), some (.int (wi_2)), some (.int (dv)), v_8, some (.non), v_10, v_11] ∧ Ow.Fm box H H2 ∧ H2 box = some (.lst [.int (a9), .int (c9)]) ∧ H2 p = some (.tup (Ow.tl_Form fm)) ∧ H2 p_2 = some (.tup [.int (Ow.nE fm), .int (Ow.nF fm wi), .int (Ow.nA fm), .int (Ow.nT fm wi)]) ∧ H2 o = some (.ins (Ow.cls_Form T ((Ow.kn_Form fm))) dx (Ow.fl_Form fm)) ∧ H2 p_7 = some (.lst [.non, .bl (true), .bl (false), .int (-1), .int (2 ^ wi.toNat), .int (2 ^ wi.toNat - 1), .int (0), .int (1), .int (l_d), .str ("1"), .ref l1, .ref t0, .ref d0, .int (x1), .int (x2)]) ∧ H2 l1 = some (.lst [.int (1)]) ∧ H2 t0 = some (.tup [.int (0)]) ∧ H2 d0 = some (.dK []) ∧ True) ⟨_, _, _, _, _, rfl, ((((((((((((((((Ow.Fm.refl.trans h10).mut).trans h18).same h22).same h25).trans h33).same h38).same (Ow.same_new h_p_4)).same h40).same h41).same h45).same h48).same h49).same h53).same h56).trans h61), h62, (Ow.at_fmT h61 (h56 _ _ (h53 _ _ (h49 _ _ (h48 _ _ (h45 _ _ (h41 _ _ (h40 _ _ (Ow.at_new h_p_4 (h38 _ _ h34))))))))) (h56 _ _ (h53 _ _ (h49 _ _ (h48 _ _ (h45 _ _ (h41 _ _ (h40 _ _ (Ow.at_new h_p_4 (h38 _ _ (Ow.at_fmT h33 (h25 _ _ (h22 _ _ h19)) (h25 _ _ (h22 _ _ h21))))))))))))), (Ow.at_fmT h61 (h56 _ _ (h53 _ _ (h49 _ _ (h48 _ _ (h45 _ _ (h41 _ _ (h40 _ _ (Ow.at_new h_p_4 (h38 _ _ h34))))))))) (h56 _ _ (h53 _ _ (h49 _ _ (h48 _ _ (h45 _ _ (h41 _ _ (h40 _ _ (Ow.at_new h_p_4 (h38 _ _ (Ow.at_fmT h33 (h25 _ _ (h22 _ _ h19)) (h25 _ _ h24)))))))))))), (h61 _ _ (Ow.ne_sym (ne_of_none (h22 _ _ h19) h26)) (h56 _ _ (h53 _ _ (h49 _ _ (h48 _ _ (h45 _ _ (h41 _ _ (h40 _ _ (Ow.at_new h_p_4 (h38 _ _ (h33 _ _ (Ow.ne_sym (ne_of_none (h22 _ _ h19) h26)) h27))))))))))), h67, h68, h69, h70, trivial⟩ (fun i σ2 H2 _ hz => ?_) ?_ ?_
              · obtain ⟨a9_2, c9_2, _, _, _, rfl, h72, h73, h74, h75, h76, h77, h78, h79, h80, _⟩ := hz
                exact (SqL.of h77)
              · rintro i xit _ Hn_14 h81 ⟨a9_3, c9_3, _, _, _, rfl, h82, h83, h84, h85, h86, h87, h88, h89, h90, _⟩
                have h81 := List.mem_of_getElem? h81
                simp only [List.mem_cons, List.not_mem_nil, or_false] at h81
                rcases h81 with rfl | rfl | rfl | rfl | rfl | rfl | rfl | rfl | rfl | rfl | rfl | rfl | rfl | rfl | rfl
                · refine ⟨_, rfl, ?_⟩
                  refine ⟨_, rfl, rfl, (by first | (walk_at "o2")), fun B_3 h_B_3 h0_B_3 => ?_⟩
                  refine ⟨_, _, rfl, rfl, ?_⟩
                  refine ⟨_, rfl, ?_⟩
                  refine ⟨_, rfl, ?_⟩
                  refine ⟨_, rfl, ?_⟩
                  refine Or.inl ?_
                  refine ⟨_, _, _, _, _, _, _, rfl, (by first | (walk_at "o2")), (by first | (walk_at "o2")), (by first | (walk_at "o2")), (by first | (walk_at "o2")), h85, (by first | (walk_at "o2")), (by first | (walk_at "o2")), (by first | (walk_at "o2")), (by first | (walk_at "o2")), (by first | (walk_at "o2")), (by first | (walk_at "o2")), (by first | (walk_at "o2")), (by first | (walk_at "o2")), (by first | (walk_at "o2")), fun l_due h91 Hn_15 h92 => ?_⟩
                  refine Ow.gnmS (σ' := [_, _, _, _, _, _, _, _, _, _, _, _]) rfl ?_
                  refine ⟨_, rfl, ?_⟩
                  refine ⟨_, rfl, ?_⟩
                  refine ⟨_, rfl, ?_⟩
                  refine ⟨_, rfl, ?_⟩
                  refine Or.inl ?_
                  refine ⟨_, _, _, fm, _, rfl, (by first | (walk_at "o2")), (by first | (walk_at "o2")), (by first | (walk_at "o2")), (by first | (walk_at "o2")), (h92 _ _ h86), (by first | (walk_at "o2")), (by first | (walk_at "o2")), fun l_found h93 Hn_16 h94 => ?_⟩
                  refine Ow.gnmS (σ' := [_, _, _, _, _, _, _, _, _, _, _, _]) rfl ?_
                  refine ⟨_, rfl, ?_⟩
                  refine ⟨_, _, _, _, true, rfl, .ty _, .base (.bl _), kit_ty (by decide +kernel), ?_⟩
                  refine ⟨_, rfl, ?_⟩
                  refine iteF ?_
                  refine ⟨_, rfl, ?_⟩
                  refine ⟨_, rfl, ?_⟩
                  refine ⟨rfl, ?_⟩
                  refine ⟨_, rfl, ?_⟩
                  refine Ow.ifneb (fun h95 => ?_) (fun h95 => ?_)
                  · try simp only [decide_eq_true_eq, V.int.injEq] at h95
                    exact ((by (subst_vars; first | exact h95 Iff.rfl | exact h95 trivial | exact h95 (Iff.trans (by assumption : _ = true ↔ Ow.Right _ _ _) (Iff.symm (by assumption : _ = true ↔ Ow.AllR _ _ _ _ _ _))) | exact Ow.no_T h95 (by assumption) (by assumption) | exact Ow.no_a h95 (by assumption) (by assumption) | exact Ow.no_b h95 (by assumption) (by assumption) | exact Ow.no_c h95 (by assumption) (by assumption) | exact h95 (Iff.trans (by assumption : _ = true ↔ Ow.WrongF _ _ _ _) (Iff.symm (by assumption : _ = true ↔ Ow.LwR _ _ _ _ _ _ _))))) : False).elim
                  · try simp only [decide_eq_true_eq, V.int.injEq] at h95
                    refine ⟨_, rfl, ?_⟩
                    refine ⟨_, _, rfl, rfl, ?_⟩
                    refine ⟨_, rfl, ?_⟩
                    refine Ow.ifd (fun h96 => ?_) (fun h96 => ?_)
                    · refine ⟨_, rfl, ?_⟩
                      refine ⟨rfl, ?_⟩
                      refine ⟨_, rfl, ?_⟩
                      refine iteT ?_
                      refine iteT ?_
                      refine ⟨_, rfl, ?_⟩
                      refine ⟨_, rfl, ?_⟩
                      refine ⟨_, rfl, ?_⟩
                      refine ⟨_, rfl, ?_⟩
                      refine ⟨_, rfl, ?_⟩
                      refine ⟨_, _, _, _, _, _, _, rfl, (by first | (walk_at "o2")), (by first | (walk_at "o2")), (by first | (walk_at "o2")), (by first | (walk_at "o2")), (h94 _ _ (h92 _ _ h85)), (by first | (walk_at "o2")), (by first | (walk_at "o2")), (by first | (walk_at "o2")), (by first | (walk_at "o2")), (by first | (walk_at "o2")), (by first | (walk_at "o2")), (by first | (walk_at "o2")), (by first | (walk_at "o2")), (by first | (walk_at "o2")), ?_, ?_⟩
                      · refine fun h97 Hn_17 h98 => ?_
                        refine ⟨rfl, ?_⟩
                        refine ⟨rfl, ?_⟩
                        refine ⟨_, rfl, ?_⟩
                        refine Ow.ifneb (fun h99 => ?_) (fun h99 => ?_)
                        · try simp only [decide_eq_true_eq, V.int.injEq] at h99
                          exact ((by (subst_vars; first | exact h99 Iff.rfl | exact h99 trivial | exact h99 (Iff.trans (by assumption : _ = true ↔ Ow.Right _ _ _) (Iff.symm (by assumption : _ = true ↔ Ow.AllR _ _ _ _ _ _))) | exact Ow.no_T h99 (by assumption) (by assumption) | exact Ow.no_a h99 (by assumption) (by assumption) | exact Ow.no_b h99 (by assumption) (by assumption) | exact Ow.no_c h99 (by assumption) (by assumption) | exact h99 (Iff.trans (by assumption : _ = true ↔ Ow.WrongF _ _ _ _) (Iff.symm (by assumption : _ = true ↔ Ow.LwR _ _ _ _ _ _ _))))) : False).elim
                        · try simp only [decide_eq_true_eq, V.int.injEq] at h99
                          exact ⟨_, _, _, _, _, rfl, ((((Ow.Fm.refl.trans h82).same h92).same h94).same h98), (h98 _ _ (h94 _ _ (h92 _ _ h83))), (h98 _ _ (h94 _ _ (h92 _ _ h84))), (h98 _ _ (h94 _ _ (h92 _ _ h85))), (h98 _ _ (h94 _ _ (h92 _ _ h86))), (h98 _ _ (h94 _ _ (h92 _ _ h87))), (h98 _ _ (h94 _ _ (h92 _ _ h88))), (h98 _ _ (h94 _ _ (h92 _ _ h89))), (h98 _ _ (h94 _ _ (h92 _ _ h90))), trivial⟩
                      · refine fun t_8 h100 Hn_18 h101 => ?_
                        refine ⟨rfl, ?_⟩
                        refine ⟨rfl, ?_⟩
                        refine ⟨_, rfl, ?_⟩
                        refine Ow.ifneb (fun h102 => ?_) (fun h102 => ?_)
                        · try simp only [decide_eq_true_eq, V.int.injEq] at h102
                          exact ((by (subst_vars; first | exact h102 Iff.rfl | exact h102 trivial | exact h102 (Iff.trans (by assumption : _ = true ↔ Ow.Right _ _ _) (Iff.symm (by assumption : _ = true ↔ Ow.AllR _ _ _ _ _ _))) | exact Ow.no_T h102 (by assumption) (by assumption) | exact Ow.no_a h102 (by assumption) (by assumption) | exact Ow.no_b h102 (by assumption) (by assumption) | exact Ow.no_c h102 (by assumption) (by assumption) | exact h102 (Iff.trans (by assumption : _ = true ↔ Ow.WrongF _ _ _ _) (Iff.symm (by assumption : _ = true ↔ Ow.LwR _ _ _ _ _ _ _))))) : False).elim
                        · try simp only [decide_eq_true_eq, V.int.injEq] at h102
                          exact ⟨_, _, _, _, _, rfl, ((((Ow.Fm.refl.trans h82).same h92).same h94).same h101), (h101 _ _ (h94 _ _ (h92 _ _ h83))), (h101 _ _ (h94 _ _ (h92 _ _ h84))), (h101 _ _ (h94 _ _ (h92 _ _ h85))), (h101 _ _ (h94 _ _ (h92 _ _ h86))), (h101 _ _ (h94 _ _ (h92 _ _ h87))), (h101 _ _ (h94 _ _ (h92 _ _ h88))), (h101 _ _ (h94 _ _ (h92 _ _ h89))), (h101 _ _ (h94 _ _ (h92 _ _ h90))), trivial⟩
                    · refine iteF ?_
                      exact ⟨_, _, _, _, _, rfl, (((Ow.Fm.refl.trans h82).same h92).same h94), (h94 _ _ (h92 _ _ h83)), (h94 _ _ (h92 _ _ h84)), (h94 _ _ (h92 _ _ h85)), (h94 _ _ (h92 _ _ h86)), (h94 _ _ (h92 _ _ h87)), (h94 _ _ (h92 _ _ h88)), (h94 _ _ (h92 _ _ h89)), (h94 _ _ (h92 _ _ h90)), trivial⟩
                · refine ⟨_, rfl, ?_⟩
                  refine ⟨_, rfl, rfl, (by first | (walk_at "o2")), fun B_4 h_B_4 h0_B_4 => ?_⟩
                  refine ⟨_, _, rfl, rfl, ?_⟩
                  refine ⟨_, rfl, ?_⟩
                  refine ⟨_, rfl, ?_⟩
                  refine ⟨_, rfl, ?_⟩
                  refine Or.inr (Or.inr (Or.inl ?_))
                  refine ⟨_, _, _, _, _, _, _, _, rfl, (by first | (walk_at "o2")), (by first | (walk_at "o2")), (by first | (walk_at "o2")), (by first | (walk_at "o2")), h85, (by first | (walk_at "o2")), (by first | (walk_at "o2")), (by first | (walk_at "o2")), (by first | (walk_at "o2")), (by first | (walk_at "o2")), (by first | (walk_at "o2")), (by first | (walk_at "o2")), (by first | (walk_at "o2")), (by first | (walk_at "o2")), fun Hn_19 h103 => ?_⟩
                  refine Ow.gnmS (σ' := [_, _, _, _, _, _, _, _, _, _, _, _]) rfl ?_
                  refine ⟨_, rfl, ?_⟩
                  refine ⟨_, rfl, ?_⟩
                  refine ⟨_, rfl, ?_⟩
                  refine ⟨_, rfl, ?_⟩
                  refine Or.inr (Or.inr (Or.inl ?_))
                  refine ⟨_, _, _, _, fm, _, rfl, (by first | (walk_at "o2")), (by first | (walk_at "o2")), (by first | (walk_at "o2")), (by first | (walk_at "o2")), (h103 _ _ h86), (by first | (walk_at "o2")), (by first | (walk_at "o2")), fun Hn_20 h104 => ?_⟩
                  refine Ow.gnmS (σ' := [_, _, _, _, _, _, _, _, _, _, _, _]) rfl ?_
                  refine ⟨_, rfl, ?_⟩
                  refine ⟨_, _, _, _, true, rfl, .ty _, .base (.bl _), kit_ty (by decide +kernel), ?_⟩
                  refine ⟨_, rfl, ?_⟩
                  refine iteF ?_
                  refine ⟨_, rfl, ?_⟩
                  refine ⟨_, rfl, ?_⟩
                  refine ⟨rfl, ?_⟩
                  refine ⟨_, rfl, ?_⟩
                  refine Ow.ifneb (fun h105 => ?_) (fun h105 => ?_)
                  · try simp only [decide_eq_true_eq, V.int.injEq] at h105
                    exact ((by (subst_vars; first | exact h105 Iff.rfl | exact h105 trivial | exact h105 (Iff.trans (by assumption : _ = true ↔ Ow.Right _ _ _) (Iff.symm (by assumption : _ = true ↔ Ow.AllR _ _ _ _ _ _))) | exact Ow.no_T h105 (by assumption) (by assumption) | exact Ow.no_a h105 (by assumption) (by assumption) | exact Ow.no_b h105 (by assumption) (by assumption) | exact Ow.no_c h105 (by assumption) (by assumption) | exact h105 (Iff.trans (by assumption : _ = true ↔ Ow.WrongF _ _ _ _) (Iff.symm (by assumption : _ = true ↔ Ow.LwR _ _ _ _ _ _ _))))) : False).elim
                  · try simp only [decide_eq_true_eq, V.int.injEq] at h105
                    refine ⟨_, rfl, ?_⟩
                    refine ⟨_, _, rfl, rfl, ?_⟩
                    refine ⟨_, rfl, ?_⟩
                    refine Ow.ifd (fun h106 => ?_) (fun h106 => ?_)
                    · refine ⟨_, rfl, ?_⟩
                      refine ⟨rfl, ?_⟩
                      refine ⟨_, rfl, ?_⟩
                      refine iteF ?_
                      refine ⟨_, rfl, ?_⟩
                      refine Or.inr (Or.inr (Or.inl ?_))
                      refine ⟨_, rfl, ?_⟩
                      refine ⟨_, rfl, ?_⟩
                      refine iteF ?_
                      refine iteF ?_
                      exact ⟨_, _, _, _, _, rfl, (((Ow.Fm.refl.trans h82).same h103).same h104), (h104 _ _ (h103 _ _ h83)), (h104 _ _ (h103 _ _ h84)), (h104 _ _ (h103 _ _ h85)), (h104 _ _ (h103 _ _ h86)), (h104 _ _ (h103 _ _ h87)), (h104 _ _ (h103 _ _ h88)), (h104 _ _ (h103 _ _ h89)), (h104 _ _ (h103 _ _ h90)), trivial⟩
                    · refine iteF ?_
                      exact ⟨_, _, _, _, _, rfl, (((Ow.Fm.refl.trans h82).same h103).same h104), (h104 _ _ (h103 _ _ h83)), (h104 _ _ (h103 _ _ h84)), (h104 _ _ (h103 _ _ h85)), (h104 _ _ (h103 _ _ h86)), (h104 _ _ (h103 _ _ h87)), (h104 _ _ (h103 _ _ h88)), (h104 _ _ (h103 _ _ h89)), (h104 _ _ (h103 _ _ h90)), trivial⟩
                · refine ⟨_, rfl, ?_⟩
                  refine ⟨_, rfl, rfl, (by first | (walk_at "o2")), fun B_5 h_B_5 h0_B_5 => ?_⟩
                  refine ⟨_, _, rfl, rfl, ?_⟩
                  refine ⟨_, rfl, ?_⟩
                  refine ⟨_, rfl, ?_⟩
                  refine ⟨_, rfl, ?_⟩
                  refine Or.inr (Or.inr (Or.inl ?_))
                  refine ⟨_, _, _, _, _, _, _, _, rfl, (by first | (walk_at "o2")), (by first | (walk_at "o2")), (by first | (walk_at "o2")), (by first | (walk_at "o2")), h85, (by first | (walk_at "o2")), (by first | (walk_at "o2")), (by first | (walk_at "o2")), (by first | (walk_at "o2")), (by first | (walk_at "o2")), (by first | (walk_at "o2")), (by first | (walk_at "o2")), (by first | (walk_at "o2")), (by first | (walk_at "o2")), fun Hn_21 h107 => ?_⟩
                  refine Ow.gnmS (σ' := [_, _, _, _, _, _, _, _, _, _, _, _]) rfl ?_
                  refine ⟨_, rfl, ?_⟩
                  refine ⟨_, rfl, ?_⟩
                  refine ⟨_, rfl, ?_⟩
                  refine ⟨_, rfl, ?_⟩
                  refine Or.inr (Or.inr (Or.inl ?_))
                  refine ⟨_, _, _, _, fm, _, rfl, (by first | (walk_at "o2")), (by first | (walk_at "o2")), (by first | (walk_at "o2")), (by first | (walk_at "o2")), (h107 _ _ h86), (by first | (walk_at "o2")), (by first | (walk_at "o2")), fun Hn_22 h108 => ?_⟩
                  refine Ow.gnmS (σ' := [_, _, _, _, _, _, _, _, _, _, _, _]) rfl ?_
                  refine ⟨_, rfl, ?_⟩
                  refine ⟨_, _, _, _, true, rfl, .ty _, .base (.bl _), kit_ty (by decide +kernel), ?_⟩
                  refine ⟨_, rfl, ?_⟩
                  refine iteF ?_
                  refine ⟨_, rfl, ?_⟩
                  refine ⟨_, rfl, ?_⟩
                  refine ⟨rfl, ?_⟩
                  refine ⟨_, rfl, ?_⟩
                  refine Ow.ifneb (fun h109 => ?_) (fun h109 => ?_)
                  · try simp only [decide_eq_true_eq, V.int.injEq] at h109
                    exact ((by (subst_vars; first | exact h109 Iff.rfl | exact h109 trivial | exact h109 (Iff.trans (by assumption : _ = true ↔ Ow.Right _ _ _) (Iff.symm (by assumption : _ = true ↔ Ow.AllR _ _ _ _ _ _))) | exact Ow.no_T h109 (by assumption) (by assumption) | exact Ow.no_a h109 (by assumption) (by assumption) | exact Ow.no_b h109 (by assumption) (by assumption) | exact Ow.no_c h109 (by assumption) (by assumption) | exact h109 (Iff.trans (by assumption : _ = true ↔ Ow.WrongF _ _ _ _) (Iff.symm (by assumption : _ = true ↔ Ow.LwR _ _ _ _ _ _ _))))) : False).elim
                  · try simp only [decide_eq_true_eq, V.int.injEq] at h109
                    refine ⟨_, rfl, ?_⟩
                    refine ⟨_, _, rfl, rfl, ?_⟩
                    refine ⟨_, rfl, ?_⟩
                    refine Ow.ifd (fun h110 => ?_) (fun h110 => ?_)
                    · refine ⟨_, rfl, ?_⟩
                      refine ⟨rfl, ?_⟩
                      refine ⟨_, rfl, ?_⟩
                      refine iteF ?_
                      refine ⟨_, rfl, ?_⟩
                      refine Or.inr (Or.inr (Or.inl ?_))
                      refine ⟨_, rfl, ?_⟩
                      refine ⟨_, rfl, ?_⟩
                      refine iteF ?_
                      refine iteF ?_
                      exact ⟨_, _, _, _, _, rfl, (((Ow.Fm.refl.trans h82).same h107).same h108), (h108 _ _ (h107 _ _ h83)), (h108 _ _ (h107 _ _ h84)), (h108 _ _ (h107 _ _ h85)), (h108 _ _ (h107 _ _ h86)), (h108 _ _ (h107 _ _ h87)), (h108 _ _ (h107 _ _ h88)), (h108 _ _ (h107 _ _ h89)), (h108 _ _ (h107 _ _ h90)), trivial⟩
                    · refine iteF ?_
                      exact ⟨_, _, _, _, _, rfl, (((Ow.Fm.refl.trans h82).same h107).same h108), (h108 _ _ (h107 _ _ h83)), (h108 _ _ (h107 _ _ h84)), (h108 _ _ (h107 _ _ h85)), (h108 _ _ (h107 _ _ h86)), (h108 _ _ (h107 _ _ h87)), (h108 _ _ (h107 _ _ h88)), (h108 _ _ (h107 _ _ h89)), (h108 _ _ (h107 _ _ h90)), trivial⟩
                · refine ⟨_, rfl, ?_⟩
                  refine ⟨_, rfl, rfl, (by first | (walk_at "o2")), fun B_6 h_B_6 h0_B_6 => ?_⟩
                  refine ⟨_, _, rfl, rfl, ?_⟩
                  refine ⟨_, rfl, ?_⟩
                  refine ⟨_, rfl, ?_⟩
                  refine ⟨_, rfl, ?_⟩
                  refine Or.inr (Or.inl ?_)
                  refine ⟨_, _, _, _, _, _, _, _, rfl, (by first | (walk_at "o2")), (by first | (walk_at "o2")), (by first | (walk_at "o2")), (by first | (walk_at "o2")), h85, (by first | (walk_at "o2")), (by first | (walk_at "o2")), (by first | (walk_at "o2")), (by first | (walk_at "o2")), (by first | (walk_at "o2")), (by first | (walk_at "o2")), (by first | (walk_at "o2")), (by first | (walk_at "o2")), (by first | (walk_at "o2")), fun l_due_2 h111 Hn_23 h112 => ?_⟩
                  refine Ow.gnmS (σ' := [_, _, _, _, _, _, _, _, _, _, _, _]) rfl ?_
                  refine ⟨_, rfl, ?_⟩
                  refine ⟨_, rfl, ?_⟩
                  refine ⟨_, rfl, ?_⟩
                  refine ⟨_, rfl, ?_⟩
                  refine Or.inr (Or.inl ?_)
                  refine ⟨_, _, _, _, fm, _, rfl, (by first | (walk_at "o2")), (by first | (walk_at "o2")), (by first | (walk_at "o2")), (by first | (walk_at "o2")), (h112 _ _ h86), (by first | (walk_at "o2")), (by first | (walk_at "o2")), fun l_found_2 h113 Hn_24 h114 => ?_⟩
                  refine Ow.gnmS (σ' := [_, _, _, _, _, _, _, _, _, _, _, _]) rfl ?_
                  refine ⟨_, rfl, ?_⟩
                  refine ⟨_, _, _, _, true, rfl, .ty _, .base (.bl _), kit_ty (by decide +kernel), ?_⟩
                  refine ⟨_, rfl, ?_⟩
                  refine iteF ?_
                  refine ⟨_, rfl, ?_⟩
                  refine ⟨_, rfl, ?_⟩
                  refine ⟨rfl, ?_⟩
                  refine ⟨_, rfl, ?_⟩
                  refine Ow.ifneb (fun h115 => ?_) (fun h115 => ?_)
                  · try simp only [decide_eq_true_eq, V.int.injEq] at h115
                    exact ((by (subst_vars; first | exact h115 Iff.rfl | exact h115 trivial | exact h115 (Iff.trans (by assumption : _ = true ↔ Ow.Right _ _ _) (Iff.symm (by assumption : _ = true ↔ Ow.AllR _ _ _ _ _ _))) | exact Ow.no_T h115 (by assumption) (by assumption) | exact Ow.no_a h115 (by assumption) (by assumption) | exact Ow.no_b h115 (by assumption) (by assumption) | exact Ow.no_c h115 (by assumption) (by assumption) | exact h115 (Iff.trans (by assumption : _ = true ↔ Ow.WrongF _ _ _ _) (Iff.symm (by assumption : _ = true ↔ Ow.LwR _ _ _ _ _ _ _))))) : False).elim
                  · try simp only [decide_eq_true_eq, V.int.injEq] at h115
                    refine ⟨_, rfl, ?_⟩
                    refine ⟨_, _, rfl, rfl, ?_⟩
                    refine ⟨_, rfl, ?_⟩
                    refine Ow.ifd (fun h116 => ?_) (fun h116 => ?_)
                    · refine ⟨_, rfl, ?_⟩
                      refine ⟨rfl, ?_⟩
                      refine ⟨_, rfl, ?_⟩
                      refine iteF ?_
                      refine ⟨_, rfl, ?_⟩
                      refine Or.inl ?_
                      refine ⟨_, rfl, ?_⟩
                      refine ⟨_, rfl, ?_⟩
                      refine iteT ?_
                      refine ⟨_, rfl, ?_⟩
                      refine ⟨_, rfl, ?_⟩
                      refine ⟨_, rfl, ?_⟩
                      refine ⟨_, rfl, ?_⟩
                      refine ⟨_, rfl, ?_⟩
                      refine ⟨_, _, _, _, _, _, _, rfl, (by first | (walk_at "o2")), (by first | (walk_at "o2")), (by first | (walk_at "o2")), (by first | (walk_at "o2")), (h114 _ _ (h112 _ _ h85)), (by first | (walk_at "o2")), (by first | (walk_at "o2")), (by first | (walk_at "o2")), (by first | (walk_at "o2")), (by first | (walk_at "o2")), (by first | (walk_at "o2")), (by first | (walk_at "o2")), (by first | (walk_at "o2")), (by first | (walk_at "o2")), ?_, ?_⟩
                      · refine fun h117 Hn_25 h118 => ?_
                        refine ⟨rfl, ?_⟩
                        refine ⟨rfl, ?_⟩
                        refine ⟨_, rfl, ?_⟩
                        refine Ow.ifneb (fun h119 => ?_) (fun h119 => ?_)
                        · try simp only [decide_eq_true_eq, V.int.injEq] at h119
                          exact ((by (subst_vars; first | exact h119 Iff.rfl | exact h119 trivial | exact h119 (Iff.trans (by assumption : _ = true ↔ Ow.Right _ _ _) (Iff.symm (by assumption : _ = true ↔ Ow.AllR _ _ _ _ _ _))) | exact Ow.no_T h119 (by assumption) (by assumption) | exact Ow.no_a h119 (by assumption) (by assumption) | exact Ow.no_b h119 (by assumption) (by assumption) | exact Ow.no_c h119 (by assumption) (by assumption) | exact h119 (Iff.trans (by assumption : _ = true ↔ Ow.WrongF _ _ _ _) (Iff.symm (by assumption : _ = true ↔ Ow.LwR _ _ _ _ _ _ _))))) : False).elim
                        · try simp only [decide_eq_true_eq, V.int.injEq] at h119
                          exact ⟨_, _, _, _, _, rfl, ((((Ow.Fm.refl.trans h82).same h112).same h114).same h118), (h118 _ _ (h114 _ _ (h112 _ _ h83))), (h118 _ _ (h114 _ _ (h112 _ _ h84))), (h118 _ _ (h114 _ _ (h112 _ _ h85))), (h118 _ _ (h114 _ _ (h112 _ _ h86))), (h118 _ _ (h114 _ _ (h112 _ _ h87))), (h118 _ _ (h114 _ _ (h112 _ _ h88))), (h118 _ _ (h114 _ _ (h112 _ _ h89))), (h118 _ _ (h114 _ _ (h112 _ _ h90))), trivial⟩
                      · refine fun t_9 h120 Hn_26 h121 => ?_
                        refine ⟨rfl, ?_⟩
                        refine ⟨rfl, ?_⟩
                        refine ⟨_, rfl, ?_⟩
                        refine Ow.ifneb (fun h122 => ?_) (fun h122 => ?_)
                        · try simp only [decide_eq_true_eq, V.int.injEq] at h122
                          exact ((by (subst_vars; first | exact h122 Iff.rfl | exact h122 trivial | exact h122 (Iff.trans (by assumption : _ = true ↔ Ow.Right _ _ _) (Iff.symm (by assumption : _ = true ↔ Ow.AllR _ _ _ _ _ _))) | exact Ow.no_T h122 (by assumption) (by assumption) | exact Ow.no_a h122 (by assumption) (by assumption) | exact Ow.no_b h122 (by assumption) (by assumption) | exact Ow.no_c h122 (by assumption) (by assumption) | exact h122 (Iff.trans (by assumption : _ = true ↔ Ow.WrongF _ _ _ _) (Iff.symm (by assumption : _ = true ↔ Ow.LwR _ _ _ _ _ _ _))))) : False).elim
                        · try simp only [decide_eq_true_eq, V.int.injEq] at h122
                          exact ⟨_, _, _, _, _, rfl, ((((Ow.Fm.refl.trans h82).same h112).same h114).same h121), (h121 _ _ (h114 _ _ (h112 _ _ h83))), (h121 _ _ (h114 _ _ (h112 _ _ h84))), (h121 _ _ (h114 _ _ (h112 _ _ h85))), (h121 _ _ (h114 _ _ (h112 _ _ h86))), (h121 _ _ (h114 _ _ (h112 _ _ h87))), (h121 _ _ (h114 _ _ (h112 _ _ h88))), (h121 _ _ (h114 _ _ (h112 _ _ h89))), (h121 _ _ (h114 _ _ (h112 _ _ h90))), trivial⟩
                    · refine iteF ?_
                      exact ⟨_, _, _, _, _, rfl, (((Ow.Fm.refl.trans h82).same h112).same h114), (h114 _ _ (h112 _ _ h83)), (h114 _ _ (h112 _ _ h84)), (h114 _ _ (h112 _ _ h85)), (h114 _ _ (h112 _ _ h86)), (h114 _ _ (h112 _ _ h87)), (h114 _ _ (h112 _ _ h88)), (h114 _ _ (h112 _ _ h89)), (h114 _ _ (h112 _ _ h90)), trivial⟩
                · refine ⟨_, rfl, ?_⟩
                  refine ⟨_, rfl, rfl, (by first | (walk_at "o2")), fun B_7 h_B_7 h0_B_7 => ?_⟩
                  refine ⟨_, _, rfl, rfl, ?_⟩
                  refine ⟨_, rfl, ?_⟩
                  refine ⟨_, rfl, ?_⟩
                  refine ⟨_, rfl, ?_⟩
                  refine Or.inr (Or.inl ?_)
                  refine ⟨_, _, _, _, _, _, _, _, rfl, (by first | (walk_at "o2")), (by first | (walk_at "o2")), (by first | (walk_at "o2")), (by first | (walk_at "o2")), h85, (by first | (walk_at "o2")), (by first | (walk_at "o2")), (by first | (walk_at "o2")), (by first | (walk_at "o2")), (by first | (walk_at "o2")), (by first | (walk_at "o2")), (by first | (walk_at "o2")), (by first | (walk_at "o2")), (by first | (walk_at "o2")), fun l_due_3 h123 Hn_27 h124 => ?_⟩
                  refine Ow.gnmS (σ' := [_, _, _, _, _, _, _, _, _, _, _, _]) rfl ?_
                  refine ⟨_, rfl, ?_⟩
                  refine ⟨_, rfl, ?_⟩
                  refine ⟨_, rfl, ?_⟩
                  refine ⟨_, rfl, ?_⟩
                  refine Or.inr (Or.inl ?_)
                  refine ⟨_, _, _, _, fm, _, rfl, (by first | (walk_at "o2")), (by first | (walk_at "o2")), (by first | (walk_at "o2")), (by first | (walk_at "o2")), (h124 _ _ h86), (by first | (walk_at "o2")), (by first | (walk_at "o2")), fun l_found_3 h125 Hn_28 h126 => ?_⟩
                  refine Ow.gnmS (σ' := [_, _, _, _, _, _, _, _, _, _, _, _]) rfl ?_
                  refine ⟨_, rfl, ?_⟩
                  refine ⟨_, _, _, _, true, rfl, .ty _, .base (.bl _), kit_ty (by decide +kernel), ?_⟩
                  refine ⟨_, rfl, ?_⟩
                  refine iteF ?_
                  refine ⟨_, rfl, ?_⟩
                  refine ⟨_, rfl, ?_⟩
                  refine ⟨rfl, ?_⟩
                  refine ⟨_, rfl, ?_⟩
                  refine Ow.ifneb (fun h127 => ?_) (fun h127 => ?_)
                  · try simp only [decide_eq_true_eq, V.int.injEq] at h127
                    exact ((by (subst_vars; first | exact h127 Iff.rfl | exact h127 trivial | exact h127 (Iff.trans (by assumption : _ = true ↔ Ow.Right _ _ _) (Iff.symm (by assumption : _ = true ↔ Ow.AllR _ _ _ _ _ _))) | exact Ow.no_T h127 (by assumption) (by assumption) | exact Ow.no_a h127 (by assumption) (by assumption) | exact Ow.no_b h127 (by assumption) (by assumption) | exact Ow.no_c h127 (by assumption) (by assumption) | exact h127 (Iff.trans (by assumption : _ = true ↔ Ow.WrongF _ _ _ _) (Iff.symm (by assumption : _ = true ↔ Ow.LwR _ _ _ _ _ _ _))))) : False).elim
                  · try simp only [decide_eq_true_eq, V.int.injEq] at h127
                    refine ⟨_, rfl, ?_⟩
                    refine ⟨_, _, rfl, rfl, ?_⟩
                    refine ⟨_, rfl, ?_⟩
                    refine Ow.ifd (fun h128 => ?_) (fun h128 => ?_)
                    · refine ⟨_, rfl, ?_⟩
                      refine ⟨rfl, ?_⟩
                      refine ⟨_, rfl, ?_⟩
                      refine iteF ?_
                      refine ⟨_, rfl, ?_⟩
                      refine Or.inl ?_
                      refine ⟨_, rfl, ?_⟩
                      refine ⟨_, rfl, ?_⟩
                      refine iteT ?_
                      refine ⟨_, rfl, ?_⟩
                      refine ⟨_, rfl, ?_⟩
                      refine ⟨_, rfl, ?_⟩
                      refine ⟨_, rfl, ?_⟩
                      refine ⟨_, rfl, ?_⟩
                      refine ⟨_, _, _, _, _, _, _, rfl, (by first | (walk_at "o2")), (by first | (walk_at "o2")), (by first | (walk_at "o2")), (by first | (walk_at "o2")), (h126 _ _ (h124 _ _ h85)), (by first | (walk_at "o2")), (by first | (walk_at "o2")), (by first | (walk_at "o2")), (by first | (walk_at "o2")), (by first | (walk_at "o2")), (by first | (walk_at "o2")), (by first | (walk_at "o2")), (by first | (walk_at "o2")), (by first | (walk_at "o2")), ?_, ?_⟩
                      · refine fun h129 Hn_29 h130 => ?_
                        refine ⟨rfl, ?_⟩
                        refine ⟨rfl, ?_⟩
                        refine ⟨_, rfl, ?_⟩
                        refine Ow.ifneb (fun h131 => ?_) (fun h131 => ?_)
                        · try simp only [decide_eq_true_eq, V.int.injEq] at h131
                          exact ((by (subst_vars; first | exact h131 Iff.rfl | exact h131 trivial | exact h131 (Iff.trans (by assumption : _ = true ↔ Ow.Right _ _ _) (Iff.symm (by assumption : _ = true ↔ Ow.AllR _ _ _ _ _ _))) | exact Ow.no_T h131 (by assumption) (by assumption) | exact Ow.no_a h131 (by assumption) (by assumption) | exact Ow.no_b h131 (by assumption) (by assumption) | exact Ow.no_c h131 (by assumption) (by assumption) | exact h131 (Iff.trans (by assumption : _ = true ↔ Ow.WrongF _ _ _ _) (Iff.symm (by assumption : _ = true ↔ Ow.LwR _ _ _ _ _ _ _))))) : False).elim
                        · try simp only [decide_eq_true_eq, V.int.injEq] at h131
                          exact ⟨_, _, _, _, _, rfl, ((((Ow.Fm.refl.trans h82).same h124).same h126).same h130), (h130 _ _ (h126 _ _ (h124 _ _ h83))), (h130 _ _ (h126 _ _ (h124 _ _ h84))), (h130 _ _ (h126 _ _ (h124 _ _ h85))), (h130 _ _ (h126 _ _ (h124 _ _ h86))), (h130 _ _ (h126 _ _ (h124 _ _ h87))), (h130 _ _ (h126 _ _ (h124 _ _ h88))), (h130 _ _ (h126 _ _ (h124 _ _ h89))), (h130 _ _ (h126 _ _ (h124 _ _ h90))), trivial⟩
                      · refine fun t_10 h132 Hn_30 h133 => ?_
                        refine ⟨rfl, ?_⟩
                        refine ⟨rfl, ?_⟩
                        refine ⟨_, rfl, ?_⟩
                        refine Ow.ifneb (fun h134 => ?_) (fun h134 => ?_)
                        · try simp only [decide_eq_true_eq, V.int.injEq] at h134
                          exact ((by (subst_vars; first | exact h134 Iff.rfl | exact h134 trivial | exact h134 (Iff.trans (by assumption : _ = true ↔ Ow.Right _ _ _) (Iff.symm (by assumption : _ = true ↔ Ow.AllR _ _ _ _ _ _))) | exact Ow.no_T h134 (by assumption) (by assumption) | exact Ow.no_a h134 (by assumption) (by assumption) | exact Ow.no_b h134 (by assumption) (by assumption) | exact Ow.no_c h134 (by assumption) (by assumption) | exact h134 (Iff.trans (by assumption : _ = true ↔ Ow.WrongF _ _ _ _) (Iff.symm (by assumption : _ = true ↔ Ow.LwR _ _ _ _ _ _ _))))) : False).elim
                        · try simp only [decide_eq_true_eq, V.int.injEq] at h134
                          exact ⟨_, _, _, _, _, rfl, ((((Ow.Fm.refl.trans h82).same h124).same h126).same h133), (h133 _ _ (h126 _ _ (h124 _ _ h83))), (h133 _ _ (h126 _ _ (h124 _ _ h84))), (h133 _ _ (h126 _ _ (h124 _ _ h85))), (h133 _ _ (h126 _ _ (h124 _ _ h86))), (h133 _ _ (h126 _ _ (h124 _ _ h87))), (h133 _ _ (h126 _ _ (h124 _ _ h88))), (h133 _ _ (h126 _ _ (h124 _ _ h89))), (h133 _ _ (h126 _ _ (h124 _ _ h90))), trivial⟩
                    · refine iteF ?_
                      exact ⟨_, _, _, _, _, rfl, (((Ow.Fm.refl.trans h82).same h124).same h126), (h126 _ _ (h124 _ _ h83)), (h126 _ _ (h124 _ _ h84)), (h126 _ _ (h124 _ _ h85)), (h126 _ _ (h124 _ _ h86)), (h126 _ _ (h124 _ _ h87)), (h126 _ _ (h124 _ _ h88)), (h126 _ _ (h124 _ _ h89)), (h126 _ _ (h124 _ _ h90)), trivial⟩
                · refine ⟨_, rfl, ?_⟩
                  refine ⟨_, rfl, rfl, (by first | (walk_at "o2")), fun B_8 h_B_8 h0_B_8 => ?_⟩
                  refine ⟨_, _, rfl, rfl, ?_⟩
                  refine ⟨_, rfl, ?_⟩
                  refine ⟨_, rfl, ?_⟩
                  refine ⟨_, rfl, ?_⟩
                  refine Or.inr (Or.inl ?_)
                  refine ⟨_, _, _, _, _, _, _, _, rfl, (by first | (walk_at "o2")), (by first | (walk_at "o2")), (by first | (walk_at "o2")), (by first | (walk_at "o2")), h85, (by first | (walk_at "o2")), (by first | (walk_at "o2")), (by first | (walk_at "o2")), (by first | (walk_at "o2")), (by first | (walk_at "o2")), (by first | (walk_at "o2")), (by first | (walk_at "o2")), (by first | (walk_at "o2")), (by first | (walk_at "o2")), fun l_due_4 h135 Hn_31 h136 => ?_⟩
                  refine Ow.gnmS (σ' := [_, _, _, _, _, _, _, _, _, _, _, _]) rfl ?_
                  refine ⟨_, rfl, ?_⟩
                  refine ⟨_, rfl, ?_⟩
                  refine ⟨_, rfl, ?_⟩
                  refine ⟨_, rfl, ?_⟩
                  refine Or.inr (Or.inl ?_)
                  refine ⟨_, _, _, _, fm, _, rfl, (by first | (walk_at "o2")), (by first | (walk_at "o2")), (by first | (walk_at "o2")), (by first | (walk_at "o2")), (h136 _ _ h86), (by first | (walk_at "o2")), (by first | (walk_at "o2")), fun l_found_4 h137 Hn_32 h138 => ?_⟩
                  refine Ow.gnmS (σ' := [_, _, _, _, _, _, _, _, _, _, _, _]) rfl ?_
                  refine ⟨_, rfl, ?_⟩
                  refine ⟨_, _, _, _, true, rfl, .ty _, .base (.bl _), kit_ty (by decide +kernel), ?_⟩
                  refine ⟨_, rfl, ?_⟩
                  refine iteF ?_
                  refine ⟨_, rfl, ?_⟩
                  refine ⟨_, rfl, ?_⟩
                  refine ⟨rfl, ?_⟩
                  refine ⟨_, rfl, ?_⟩
                  refine Ow.ifneb (fun h139 => ?_) (fun h139 => ?_)
                  · try simp only [decide_eq_true_eq, V.int.injEq] at h139
                    exact ((by (subst_vars; first | exact h139 Iff.rfl | exact h139 trivial | exact h139 (Iff.trans (by assumption : _ = true ↔ Ow.Right _ _ _) (Iff.symm (by assumption : _ = true ↔ Ow.AllR _ _ _ _ _ _))) | exact Ow.no_T h139 (by assumption) (by assumption) | exact Ow.no_a h139 (by assumption) (by assumption) | exact Ow.no_b h139 (by assumption) (by assumption) | exact Ow.no_c h139 (by assumption) (by assumption) | exact h139 (Iff.trans (by assumption : _ = true ↔ Ow.WrongF _ _ _ _) (Iff.symm (by assumption : _ = true ↔ Ow.LwR _ _ _ _ _ _ _))))) : False).elim
                  · try simp only [decide_eq_true_eq, V.int.injEq] at h139
                    refine ⟨_, rfl, ?_⟩
                    refine ⟨_, _, rfl, rfl, ?_⟩
                    refine ⟨_, rfl, ?_⟩
                    refine Ow.ifd (fun h140 => ?_) (fun h140 => ?_)
                    · refine ⟨_, rfl, ?_⟩
                      refine ⟨rfl, ?_⟩
                      refine ⟨_, rfl, ?_⟩
                      refine iteF ?_
                      refine ⟨_, rfl, ?_⟩
                      refine Or.inl ?_
                      refine ⟨_, rfl, ?_⟩
                      refine ⟨_, rfl, ?_⟩
                      refine iteT ?_
                      refine ⟨_, rfl, ?_⟩
                      refine ⟨_, rfl, ?_⟩
                      refine ⟨_, rfl, ?_⟩
                      refine ⟨_, rfl, ?_⟩
                      refine ⟨_, rfl, ?_⟩
                      refine ⟨_, _, _, _, _, _, _, rfl, (by first | (walk_at "o2")), (by first | (walk_at "o2")), (by first | (walk_at "o2")), (by first | (walk_at "o2")), (h138 _ _ (h136 _ _ h85)), (by first | (walk_at "o2")), (by first | (walk_at "o2")), (by first | (walk_at "o2")), (by first | (walk_at "o2")), (by first | (walk_at "o2")), (by first | (walk_at "o2")), (by first | (walk_at "o2")), (by first | (walk_at "o2")), (by first | (walk_at "o2")), ?_, ?_⟩
                      · refine fun h141 Hn_33 h142 => ?_
                        refine ⟨rfl, ?_⟩
                        refine ⟨rfl, ?_⟩
                        refine ⟨_, rfl, ?_⟩
                        refine Ow.ifneb (fun h143 => ?_) (fun h143 => ?_)
                        · try simp only [decide_eq_true_eq, V.int.injEq] at h143
                          exact ((by (subst_vars; first | exact h143 Iff.rfl | exact h143 trivial | exact h143 (Iff.trans (by assumption : _ = true ↔ Ow.Right _ _ _) (Iff.symm (by assumption : _ = true ↔ Ow.AllR _ _ _ _ _ _))) | exact Ow.no_T h143 (by assumption) (by assumption) | exact Ow.no_a h143 (by assumption) (by assumption) | exact Ow.no_b h143 (by assumption) (by assumption) | exact Ow.no_c h143 (by assumption) (by assumption) | exact h143 (Iff.trans (by assumption : _ = true ↔ Ow.WrongF _ _ _ _) (Iff.symm (by assumption : _ = true ↔ Ow.LwR _ _ _ _ _ _ _))))) : False).elim
                        · try simp only [decide_eq_true_eq, V.int.injEq] at h143
                          exact ⟨_, _, _, _, _, rfl, ((((Ow.Fm.refl.trans h82).same h136).same h138).same h142), (h142 _ _ (h138 _ _ (h136 _ _ h83))), (h142 _ _ (h138 _ _ (h136 _ _ h84))), (h142 _ _ (h138 _ _ (h136 _ _ h85))), (h142 _ _ (h138 _ _ (h136 _ _ h86))), (h142 _ _ (h138 _ _ (h136 _ _ h87))), (h142 _ _ (h138 _ _ (h136 _ _ h88))), (h142 _ _ (h138 _ _ (h136 _ _ h89))), (h142 _ _ (h138 _ _ (h136 _ _ h90))), trivial⟩
                      · refine fun t_11 h144 Hn_34 h145 => ?_
                        refine ⟨rfl, ?_⟩
                        refine ⟨rfl, ?_⟩
                        refine ⟨_, rfl, ?_⟩
                        refine Ow.ifneb (fun h146 => ?_) (fun h146 => ?_)
                        · try simp only [decide_eq_true_eq, V.int.injEq] at h146
                          exact ((by (subst_vars; first | exact h146 Iff.rfl | exact h146 trivial | exact h146 (Iff.trans (by assumption : _ = true ↔ Ow.Right _ _ _) (Iff.symm (by assumption : _ = true ↔ Ow.AllR _ _ _ _ _ _))) | exact Ow.no_T h146 (by assumption) (by assumption) | exact Ow.no_a h146 (by assumption) (by assumption) | exact Ow.no_b h146 (by assumption) (by assumption) | exact Ow.no_c h146 (by assumption) (by assumption) | exact h146 (Iff.trans (by assumption : _ = true ↔ Ow.WrongF _ _ _ _) (Iff.symm (by assumption : _ = true ↔ Ow.LwR _ _ _ _ _ _ _))))) : False).elim
                        · try simp only [decide_eq_true_eq, V.int.injEq] at h146
                          exact ⟨_, _, _, _, _, rfl, ((((Ow.Fm.refl.trans h82).same h136).same h138).same h145), (h145 _ _ (h138 _ _ (h136 _ _ h83))), (h145 _ _ (h138 _ _ (h136 _ _ h84))), (h145 _ _ (h138 _ _ (h136 _ _ h85))), (h145 _ _ (h138 _ _ (h136 _ _ h86))), (h145 _ _ (h138 _ _ (h136 _ _ h87))), (h145 _ _ (h138 _ _ (h136 _ _ h88))), (h145 _ _ (h138 _ _ (h136 _ _ h89))), (h145 _ _ (h138 _ _ (h136 _ _ h90))), trivial⟩
                    · refine iteF ?_
                      exact ⟨_, _, _, _, _, rfl, (((Ow.Fm.refl.trans h82).same h136).same h138), (h138 _ _ (h136 _ _ h83)), (h138 _ _ (h136 _ _ h84)), (h138 _ _ (h136 _ _ h85)), (h138 _ _ (h136 _ _ h86)), (h138 _ _ (h136 _ _ h87)), (h138 _ _ (h136 _ _ h88)), (h138 _ _ (h136 _ _ h89)), (h138 _ _ (h136 _ _ h90)), trivial⟩
                · refine ⟨_, rfl, ?_⟩
                  refine ⟨_, rfl, rfl, (by first | (walk_at "o2")), fun B_9 h_B_9 h0_B_9 => ?_⟩
                  refine ⟨_, _, rfl, rfl, ?_⟩
                  refine ⟨_, rfl, ?_⟩
                  refine ⟨_, rfl, ?_⟩
                  refine ⟨_, rfl, ?_⟩
                  refine Or.inr (Or.inl ?_)
                  refine ⟨_, _, _, _, _, _, _, _, rfl, (by first | (walk_at "o2")), (by first | (walk_at "o2")), (by first | (walk_at "o2")), (by first | (walk_at "o2")), h85, (by first | (walk_at "o2")), (by first | (walk_at "o2")), (by first | (walk_at "o2")), (by first | (walk_at "o2")), (by first | (walk_at "o2")), (by first | (walk_at "o2")), (by first | (walk_at "o2")), (by first | (walk_at "o2")), (by first | (walk_at "o2")), fun l_due_5 h147 Hn_35 h148 => ?_⟩
                  refine Ow.gnmS (σ' := [_, _, _, _, _, _, _, _, _, _, _, _]) rfl ?_
                  refine ⟨_, rfl, ?_⟩
                  refine ⟨_, rfl, ?_⟩
                  refine ⟨_, rfl, ?_⟩
                  refine ⟨_, rfl, ?_⟩
                  refine Or.inr (Or.inl ?_)
                  refine ⟨_, _, _, _, fm, _, rfl, (by first | (walk_at "o2")), (by first | (walk_at "o2")), (by first | (walk_at "o2")), (by first | (walk_at "o2")), (h148 _ _ h86), (by first | (walk_at "o2")), (by first | (walk_at "o2")), fun l_found_5 h149 Hn_36 h150 => ?_⟩
                  refine Ow.gnmS (σ' := [_, _, _, _, _, _, _, _, _, _, _, _]) rfl ?_
                  refine ⟨_, rfl, ?_⟩
                  refine ⟨_, _, _, _, true, rfl, .ty _, .base (.bl _), kit_ty (by decide +kernel), ?_⟩
                  refine ⟨_, rfl, ?_⟩
                  refine iteF ?_
                  refine ⟨_, rfl, ?_⟩
                  refine ⟨_, rfl, ?_⟩
                  refine ⟨rfl, ?_⟩
                  refine ⟨_, rfl, ?_⟩
                  refine Ow.ifneb (fun h151 => ?_) (fun h151 => ?_)
                  · try simp only [decide_eq_true_eq, V.int.injEq] at h151
                    exact ((by (subst_vars; first | exact h151 Iff.rfl | exact h151 trivial | exact h151 (Iff.trans (by assumption : _ = true ↔ Ow.Right _ _ _) (Iff.symm (by assumption : _ = true ↔ Ow.AllR _ _ _ _ _ _))) | exact Ow.no_T h151 (by assumption) (by assumption) | exact Ow.no_a h151 (by assumption) (by assumption) | exact Ow.no_b h151 (by assumption) (by assumption) | exact Ow.no_c h151 (by assumption) (by assumption) | exact h151 (Iff.trans (by assumption : _ = true ↔ Ow.WrongF _ _ _ _) (Iff.symm (by assumption : _ = true ↔ Ow.LwR _ _ _ _ _ _ _))))) : False).elim
                  · try simp only [decide_eq_true_eq, V.int.injEq] at h151
                    refine ⟨_, rfl, ?_⟩
                    refine ⟨_, _, rfl, rfl, ?_⟩
                    refine ⟨_, rfl, ?_⟩
                    refine Ow.ifd (fun h152 => ?_) (fun h152 => ?_)
                    · refine ⟨_, rfl, ?_⟩
                      refine ⟨rfl, ?_⟩
                      refine ⟨_, rfl, ?_⟩
                      refine iteF ?_
                      refine ⟨_, rfl, ?_⟩
                      refine Or.inl ?_
                      refine ⟨_, rfl, ?_⟩
                      refine ⟨_, rfl, ?_⟩
                      refine iteT ?_
                      refine ⟨_, rfl, ?_⟩
                      refine ⟨_, rfl, ?_⟩
                      refine ⟨_, rfl, ?_⟩
                      refine ⟨_, rfl, ?_⟩
                      refine ⟨_, rfl, ?_⟩
                      refine ⟨_, _, _, _, _, _, _, rfl, (by first | (walk_at "o2")), (by first | (walk_at "o2")), (by first | (walk_at "o2")), (by first | (walk_at "o2")), (h150 _ _ (h148 _ _ h85)), (by first | (walk_at "o2")), (by first | (walk_at "o2")), (by first | (walk_at "o2")), (by first | (walk_at "o2")), (by first | (walk_at "o2")), (by first | (walk_at "o2")), (by first | (walk_at "o2")), (by first | (walk_at "o2")), (by first | (walk_at "o2")), ?_, ?_⟩
                      · refine fun h153 Hn_37 h154 => ?_
                        refine ⟨rfl, ?_⟩
                        refine ⟨rfl, ?_⟩
                        refine ⟨_, rfl, ?_⟩
                        refine Ow.ifneb (fun h155 => ?_) (fun h155 => ?_)
                        · try simp only [decide_eq_true_eq, V.int.injEq] at h155
                          exact ((by (subst_vars; first | exact h155 Iff.rfl | exact h155 trivial | exact h155 (Iff.trans (by assumption : _ = true ↔ Ow.Right _ _ _) (Iff.symm (by assumption : _ = true ↔ Ow.AllR _ _ _ _ _ _))) | exact Ow.no_T h155 (by assumption) (by assumption) | exact Ow.no_a h155 (by assumption) (by assumption) | exact Ow.no_b h155 (by assumption) (by assumption) | exact Ow.no_c h155 (by assumption) (by assumption) | exact h155 (Iff.trans (by assumption : _ = true ↔ Ow.WrongF _ _ _ _) (Iff.symm (by assumption : _ = true ↔ Ow.LwR _ _ _ _ _ _ _))))) : False).elim
                        · try simp only [decide_eq_true_eq, V.int.injEq] at h155
                          exact ⟨_, _, _, _, _, rfl, ((((Ow.Fm.refl.trans h82).same h148).same h150).same h154), (h154 _ _ (h150 _ _ (h148 _ _ h83))), (h154 _ _ (h150 _ _ (h148 _ _ h84))), (h154 _ _ (h150 _ _ (h148 _ _ h85))), (h154 _ _ (h150 _ _ (h148 _ _ h86))), (h154 _ _ (h150 _ _ (h148 _ _ h87))), (h154 _ _ (h150 _ _ (h148 _ _ h88))), (h154 _ _ (h150 _ _ (h148 _ _ h89))), (h154 _ _ (h150 _ _ (h148 _ _ h90))), trivial⟩
                      · refine fun t_12 h156 Hn_38 h157 => ?_
                        refine ⟨rfl, ?_⟩
                        refine ⟨rfl, ?_⟩
                        refine ⟨_, rfl, ?_⟩
                        refine Ow.ifneb (fun h158 => ?_) (fun h158 => ?_)
                        · try simp only [decide_eq_true_eq, V.int.injEq] at h158
                          exact ((by (subst_vars; first | exact h158 Iff.rfl | exact h158 trivial | exact h158 (Iff.trans (by assumption : _ = true ↔ Ow.Right _ _ _) (Iff.symm (by assumption : _ = true ↔ Ow.AllR _ _ _ _ _ _))) | exact Ow.no_T h158 (by assumption) (by assumption) | exact Ow.no_a h158 (by assumption) (by assumption) | exact Ow.no_b h158 (by assumption) (by assumption) | exact Ow.no_c h158 (by assumption) (by assumption) | exact h158 (Iff.trans (by assumption : _ = true ↔ Ow.WrongF _ _ _ _) (Iff.symm (by assumption : _ = true ↔ Ow.LwR _ _ _ _ _ _ _))))) : False).elim
                        · try simp only [decide_eq_true_eq, V.int.injEq] at h158
                          exact ⟨_, _, _, _, _, rfl, ((((Ow.Fm.refl.trans h82).same h148).same h150).same h157), (h157 _ _ (h150 _ _ (h148 _ _ h83))), (h157 _ _ (h150 _ _ (h148 _ _ h84))), (h157 _ _ (h150 _ _ (h148 _ _ h85))), (h157 _ _ (h150 _ _ (h148 _ _ h86))), (h157 _ _ (h150 _ _ (h148 _ _ h87))), (h157 _ _ (h150 _ _ (h148 _ _ h88))), (h157 _ _ (h150 _ _ (h148 _ _ h89))), (h157 _ _ (h150 _ _ (h148 _ _ h90))), trivial⟩
                    · refine iteF ?_
                      exact ⟨_, _, _, _, _, rfl, (((Ow.Fm.refl.trans h82).same h148).same h150), (h150 _ _ (h148 _ _ h83)), (h150 _ _ (h148 _ _ h84)), (h150 _ _ (h148 _ _ h85)), (h150 _ _ (h148 _ _ h86)), (h150 _ _ (h148 _ _ h87)), (h150 _ _ (h148 _ _ h88)), (h150 _ _ (h148 _ _ h89)), (h150 _ _ (h148 _ _ h90)), trivial⟩
                · refine ⟨_, rfl, ?_⟩
                  refine ⟨_, rfl, rfl, (by first | (walk_at "o2")), fun B_10 h_B_10 h0_B_10 => ?_⟩
                  refine ⟨_, _, rfl, rfl, ?_⟩
                  refine ⟨_, rfl, ?_⟩
                  refine ⟨_, rfl, ?_⟩
                  refine ⟨_, rfl, ?_⟩
                  refine Or.inr (Or.inl ?_)
                  refine ⟨_, _, _, _, _, _, _, _, rfl, (by first | (walk_at "o2")), (by first | (walk_at "o2")), (by first | (walk_at "o2")), (by first | (walk_at "o2")), h85, (by first | (walk_at "o2")), (by first | (walk_at "o2")), (by first | (walk_at "o2")), (by first | (walk_at "o2")), (by first | (walk_at "o2")), (by first | (walk_at "o2")), (by first | (walk_at "o2")), (by first | (walk_at "o2")), (by first | (walk_at "o2")), fun l_due_6 h159 Hn_39 h160 => ?_⟩
                  refine Ow.gnmS (σ' := [_, _, _, _, _, _, _, _, _, _, _, _]) rfl ?_
                  refine ⟨_, rfl, ?_⟩
                  refine ⟨_, rfl, ?_⟩
                  refine ⟨_, rfl, ?_⟩
                  refine ⟨_, rfl, ?_⟩
                  refine Or.inr (Or.inl ?_)
                  refine ⟨_, _, _, _, fm, _, rfl, (by first | (walk_at "o2")), (by first | (walk_at "o2")), (by first | (walk_at "o2")), (by first | (walk_at "o2")), (h160 _ _ h86), (by first | (walk_at "o2")), (by first | (walk_at "o2")), fun l_found_6 h161 Hn_40 h162 => ?_⟩
                  refine Ow.gnmS (σ' := [_, _, _, _, _, _, _, _, _, _, _, _]) rfl ?_
                  refine ⟨_, rfl, ?_⟩
                  refine ⟨_, _, _, _, true, rfl, .ty _, .base (.bl _), kit_ty (by decide +kernel), ?_⟩
                  refine ⟨_, rfl, ?_⟩
                  refine iteF ?_
                  refine ⟨_, rfl, ?_⟩
                  refine ⟨_, rfl, ?_⟩
                  refine ⟨rfl, ?_⟩
                  refine ⟨_, rfl, ?_⟩
                  refine Ow.ifneb (fun h163 => ?_) (fun h163 => ?_)
                  · try simp only [decide_eq_true_eq, V.int.injEq] at h163
                    exact ((by (subst_vars; first | exact h163 Iff.rfl | exact h163 trivial | exact h163 (Iff.trans (by assumption : _ = true ↔ Ow.Right _ _ _) (Iff.symm (by assumption : _ = true ↔ Ow.AllR _ _ _ _ _ _))) | exact Ow.no_T h163 (by assumption) (by assumption) | exact Ow.no_a h163 (by assumption) (by assumption) | exact Ow.no_b h163 (by assumption) (by assumption) | exact Ow.no_c h163 (by assumption) (by assumption) | exact h163 (Iff.trans (by assumption : _ = true ↔ Ow.WrongF _ _ _ _) (Iff.symm (by assumption : _ = true ↔ Ow.LwR _ _ _ _ _ _ _))))) : False).elim
                  · try simp only [decide_eq_true_eq, V.int.injEq] at h163
                    refine ⟨_, rfl, ?_⟩
                    refine ⟨_, _, rfl, rfl, ?_⟩
                    refine ⟨_, rfl, ?_⟩
                    refine Ow.ifd (fun h164 => ?_) (fun h164 => ?_)
                    · refine ⟨_, rfl, ?_⟩
                      refine ⟨rfl, ?_⟩
                      refine ⟨_, rfl, ?_⟩
                      refine iteF ?_
                      refine ⟨_, rfl, ?_⟩
                      refine Or.inl ?_
                      refine ⟨_, rfl, ?_⟩
                      refine ⟨_, rfl, ?_⟩
                      refine iteT ?_
                      refine ⟨_, rfl, ?_⟩
                      refine ⟨_, rfl, ?_⟩
                      refine ⟨_, rfl, ?_⟩
                      refine ⟨_, rfl, ?_⟩
                      refine ⟨_, rfl, ?_⟩
                      refine ⟨_, _, _, _, _, _, _, rfl, (by first | (walk_at "o2")), (by first | (walk_at "o2")), (by first | (walk_at "o2")), (by first | (walk_at "o2")), (h162 _ _ (h160 _ _ h85)), (by first | (walk_at "o2")), (by first | (walk_at "o2")), (by first | (walk_at "o2")), (by first | (walk_at "o2")), (by first | (walk_at "o2")), (by first | (walk_at "o2")), (by first | (walk_at "o2")), (by first | (walk_at "o2")), (by first | (walk_at "o2")), ?_, ?_⟩
                      · refine fun h165 Hn_41 h166 => ?_
                        refine ⟨rfl, ?_⟩
                        refine ⟨rfl, ?_⟩
                        refine ⟨_, rfl, ?_⟩
                        refine Ow.ifneb (fun h167 => ?_) (fun h167 => ?_)
                        · try simp only [decide_eq_true_eq, V.int.injEq] at h167
                          exact ((by (subst_vars; first | exact h167 Iff.rfl | exact h167 trivial | exact h167 (Iff.trans (by assumption : _ = true ↔ Ow.Right _ _ _) (Iff.symm (by assumption : _ = true ↔ Ow.AllR _ _ _ _ _ _))) | exact Ow.no_T h167 (by assumption) (by assumption) | exact Ow.no_a h167 (by assumption) (by assumption) | exact Ow.no_b h167 (by assumption) (by assumption) | exact Ow.no_c h167 (by assumption) (by assumption) | exact h167 (Iff.trans (by assumption : _ = true ↔ Ow.WrongF _ _ _ _) (Iff.symm (by assumption : _ = true ↔ Ow.LwR _ _ _ _ _ _ _))))) : False).elim
                        · try simp only [decide_eq_true_eq, V.int.injEq] at h167
                          exact ⟨_, _, _, _, _, rfl, ((((Ow.Fm.refl.trans h82).same h160).same h162).same h166), (h166 _ _ (h162 _ _ (h160 _ _ h83))), (h166 _ _ (h162 _ _ (h160 _ _ h84))), (h166 _ _ (h162 _ _ (h160 _ _ h85))), (h166 _ _ (h162 _ _ (h160 _ _ h86))), (h166 _ _ (h162 _ _ (h160 _ _ h87))), (h166 _ _ (h162 _ _ (h160 _ _ h88))), (h166 _ _ (h162 _ _ (h160 _ _ h89))), (h166 _ _ (h162 _ _ (h160 _ _ h90))), trivial⟩
                      · refine fun t_13 h168 Hn_42 h169 => ?_
                        refine ⟨rfl, ?_⟩
                        refine ⟨rfl, ?_⟩
                        refine ⟨_, rfl, ?_⟩
                        refine Ow.ifneb (fun h170 => ?_) (fun h170 => ?_)
                        · try simp only [decide_eq_true_eq, V.int.injEq] at h170
                          exact ((by (subst_vars; first | exact h170 Iff.rfl | exact h170 trivial | exact h170 (Iff.trans (by assumption : _ = true ↔ Ow.Right _ _ _) (Iff.symm (by assumption : _ = true ↔ Ow.AllR _ _ _ _ _ _))) | exact Ow.no_T h170 (by assumption) (by assumption) | exact Ow.no_a h170 (by assumption) (by assumption) | exact Ow.no_b h170 (by assumption) (by assumption) | exact Ow.no_c h170 (by assumption) (by assumption) | exact h170 (Iff.trans (by assumption : _ = true ↔ Ow.WrongF _ _ _ _) (Iff.symm (by assumption : _ = true ↔ Ow.LwR _ _ _ _ _ _ _))))) : False).elim
                        · try simp only [decide_eq_true_eq, V.int.injEq] at h170
                          exact ⟨_, _, _, _, _, rfl, ((((Ow.Fm.refl.trans h82).same h160).same h162).same h169), (h169 _ _ (h162 _ _ (h160 _ _ h83))), (h169 _ _ (h162 _ _ (h160 _ _ h84))), (h169 _ _ (h162 _ _ (h160 _ _ h85))), (h169 _ _ (h162 _ _ (h160 _ _ h86))), (h169 _ _ (h162 _ _ (h160 _ _ h87))), (h169 _ _ (h162 _ _ (h160 _ _ h88))), (h169 _ _ (h162 _ _ (h160 _ _ h89))), (h169 _ _ (h162 _ _ (h160 _ _ h90))), trivial⟩
                    · refine iteF ?_
                      exact ⟨_, _, _, _, _, rfl, (((Ow.Fm.refl.trans h82).same h160).same h162), (h162 _ _ (h160 _ _ h83)), (h162 _ _ (h160 _ _ h84)), (h162 _ _ (h160 _ _ h85)), (h162 _ _ (h160 _ _ h86)), (h162 _ _ (h160 _ _ h87)), (h162 _ _ (h160 _ _ h88)), (h162 _ _ (h160 _ _ h89)), (h162 _ _ (h160 _ _ h90)), trivial⟩
                · refine ⟨_, rfl, ?_⟩
                  refine ⟨_, rfl, rfl, (by first | (walk_at "o2")), fun B_11 h_B_11 h0_B_11 => ?_⟩
                  refine ⟨_, _, rfl, rfl, ?_⟩
                  refine ⟨_, rfl, ?_⟩
                  refine ⟨_, rfl, ?_⟩
                  refine ⟨_, rfl, ?_⟩
                  refine Or.inr (Or.inl ?_)
                  refine ⟨_, _, _, _, _, _, _, _, rfl, (by first | (walk_at "o2")), (by first | (walk_at "o2")), (by first | (walk_at "o2")), (by first | (walk_at "o2")), h85, (by first | (walk_at "o2")), (by first | (walk_at "o2")), (by first | (walk_at "o2")), (by first | (walk_at "o2")), (by first | (walk_at "o2")), (by first | (walk_at "o2")), (by first | (walk_at "o2")), (by first | (walk_at "o2")), (by first | (walk_at "o2")), fun l_due_7 h171 Hn_43 h172 => ?_⟩
                  refine Ow.gnmS (σ' := [_, _, _, _, _, _, _, _, _, _, _, _]) rfl ?_
                  refine ⟨_, rfl, ?_⟩
                  refine ⟨_, rfl, ?_⟩
                  refine ⟨_, rfl, ?_⟩
                  refine ⟨_, rfl, ?_⟩
                  refine Or.inr (Or.inl ?_)
                  refine ⟨_, _, _, _, fm, _, rfl, (by first | (walk_at "o2")), (by first | (walk_at "o2")), (by first | (walk_at "o2")), (by first | (walk_at "o2")), (h172 _ _ h86), (by first | (walk_at "o2")), (by first | (walk_at "o2")), fun l_found_7 h173 Hn_44 h174 => ?_⟩
                  refine Ow.gnmS (σ' := [_, _, _, _, _, _, _, _, _, _, _, _]) rfl ?_
                  refine ⟨_, rfl, ?_⟩
                  refine ⟨_, _, _, _, true, rfl, .ty _, .base (.bl _), kit_ty (by decide +kernel), ?_⟩
                  refine ⟨_, rfl, ?_⟩
                  refine iteF ?_
                  refine ⟨_, rfl, ?_⟩
                  refine ⟨_, rfl, ?_⟩
                  refine ⟨rfl, ?_⟩
                  refine ⟨_, rfl, ?_⟩
                  refine Ow.ifneb (fun h175 => ?_) (fun h175 => ?_)
                  · try simp only [decide_eq_true_eq, V.int.injEq] at h175
                    exact ((by (subst_vars; first | exact h175 Iff.rfl | exact h175 trivial | exact h175 (Iff.trans (by assumption : _ = true ↔ Ow.Right _ _ _) (Iff.symm (by assumption : _ = true ↔ Ow.AllR _ _ _ _ _ _))) | exact Ow.no_T h175 (by assumption) (by assumption) | exact Ow.no_a h175 (by assumption) (by assumption) | exact Ow.no_b h175 (by assumption) (by assumption) | exact Ow.no_c h175 (by assumption) (by assumption) | exact h175 (Iff.trans (by assumption : _ = true ↔ Ow.WrongF _ _ _ _) (Iff.symm (by assumption : _ = true ↔ Ow.LwR _ _ _ _ _ _ _))))) : False).elim
                  · try simp only [decide_eq_true_eq, V.int.injEq] at h175
                    refine ⟨_, rfl, ?_⟩
                    refine ⟨_, _, rfl, rfl, ?_⟩
                    refine ⟨_, rfl, ?_⟩
                    refine Ow.ifd (fun h176 => ?_) (fun h176 => ?_)
                    · refine ⟨_, rfl, ?_⟩
                      refine ⟨rfl, ?_⟩
                      refine ⟨_, rfl, ?_⟩
                      refine iteF ?_
                      refine ⟨_, rfl, ?_⟩
                      refine Or.inl ?_
                      refine ⟨_, rfl, ?_⟩
                      refine ⟨_, rfl, ?_⟩
                      refine iteT ?_
                      refine ⟨_, rfl, ?_⟩
                      refine ⟨_, rfl, ?_⟩
                      refine ⟨_, rfl, ?_⟩
                      refine ⟨_, rfl, ?_⟩
                      refine ⟨_, rfl, ?_⟩
                      refine ⟨_, _, _, _, _, _, _, rfl, (by first | (walk_at "o2")), (by first | (walk_at "o2")), (by first | (walk_at "o2")), (by first | (walk_at "o2")), (h174 _ _ (h172 _ _ h85)), (by first | (walk_at "o2")), (by first | (walk_at "o2")), (by first | (walk_at "o2")), (by first | (walk_at "o2")), (by first | (walk_at "o2")), (by first | (walk_at "o2")), (by first | (walk_at "o2")), (by first | (walk_at "o2")), (by first | (walk_at "o2")), ?_, ?_⟩
                      · refine fun h177 Hn_45 h178 => ?_
                        refine ⟨rfl, ?_⟩
                        refine ⟨rfl, ?_⟩
                        refine ⟨_, rfl, ?_⟩
                        refine Ow.ifneb (fun h179 => ?_) (fun h179 => ?_)
                        · try simp only [decide_eq_true_eq, V.int.injEq] at h179
                          exact ((by (subst_vars; first | exact h179 Iff.rfl | exact h179 trivial | exact h179 (Iff.trans (by assumption : _ = true ↔ Ow.Right _ _ _) (Iff.symm (by assumption : _ = true ↔ Ow.AllR _ _ _ _ _ _))) | exact Ow.no_T h179 (by assumption) (by assumption) | exact Ow.no_a h179 (by assumption) (by assumption) | exact Ow.no_b h179 (by assumption) (by assumption) | exact Ow.no_c h179 (by assumption) (by assumption) | exact h179 (Iff.trans (by assumption : _ = true ↔ Ow.WrongF _ _ _ _) (Iff.symm (by assumption : _ = true ↔ Ow.LwR _ _ _ _ _ _ _))))) : False).elim
                        · try simp only [decide_eq_true_eq, V.int.injEq] at h179
                          exact ⟨_, _, _, _, _, rfl, ((((Ow.Fm.refl.trans h82).same h172).same h174).same h178), (h178 _ _ (h174 _ _ (h172 _ _ h83))), (h178 _ _ (h174 _ _ (h172 _ _ h84))), (h178 _ _ (h174 _ _ (h172 _ _ h85))), (h178 _ _ (h174 _ _ (h172 _ _ h86))), (h178 _ _ (h174 _ _ (h172 _ _ h87))), (h178 _ _ (h174 _ _ (h172 _ _ h88))), (h178 _ _ (h174 _ _ (h172 _ _ h89))), (h178 _ _ (h174 _ _ (h172 _ _ h90))), trivial⟩
                      · refine fun t_14 h180 Hn_46 h181 => ?_
                        refine ⟨rfl, ?_⟩
                        refine ⟨rfl, ?_⟩
                        refine ⟨_, rfl, ?_⟩
                        refine Ow.ifneb (fun h182 => ?_) (fun h182 => ?_)
                        · try simp only [decide_eq_true_eq, V.int.injEq] at h182
                          exact ((by (subst_vars; first | exact h182 Iff.rfl | exact h182 trivial | exact h182 (Iff.trans (by assumption : _ = true ↔ Ow.Right _ _ _) (Iff.symm (by assumption : _ = true ↔ Ow.AllR _ _ _ _ _ _))) | exact Ow.no_T h182 (by assumption) (by assumption) | exact Ow.no_a h182 (by assumption) (by assumption) | exact Ow.no_b h182 (by assumption) (by assumption) | exact Ow.no_c h182 (by assumption) (by assumption) | exact h182 (Iff.trans (by assumption : _ = true ↔ Ow.WrongF _ _ _ _) (Iff.symm (by assumption : _ = true ↔ Ow.LwR _ _ _ _ _ _ _))))) : False).elim
                        · try simp only [decide_eq_true_eq, V.int.injEq] at h182
                          exact ⟨_, _, _, _, _, rfl, ((((Ow.Fm.refl.trans h82).same h172).same h174).same h181), (h181 _ _ (h174 _ _ (h172 _ _ h83))), (h181 _ _ (h174 _ _ (h172 _ _ h84))), (h181 _ _ (h174 _ _ (h172 _ _ h85))), (h181 _ _ (h174 _ _ (h172 _ _ h86))), (h181 _ _ (h174 _ _ (h172 _ _ h87))), (h181 _ _ (h174 _ _ (h172 _ _ h88))), (h181 _ _ (h174 _ _ (h172 _ _ h89))), (h181 _ _ (h174 _ _ (h172 _ _ h90))), trivial⟩
                    · refine iteF ?_
                      exact ⟨_, _, _, _, _, rfl, (((Ow.Fm.refl.trans h82).same h172).same h174), (h174 _ _ (h172 _ _ h83)), (h174 _ _ (h172 _ _ h84)), (h174 _ _ (h172 _ _ h85)), (h174 _ _ (h172 _ _ h86)), (h174 _ _ (h172 _ _ h87)), (h174 _ _ (h172 _ _ h88)), (h174 _ _ (h172 _ _ h89)), (h174 _ _ (h172 _ _ h90)), trivial⟩
                · refine ⟨_, rfl, ?_⟩
                  refine ⟨_, rfl, rfl, (by first | (walk_at "o2")), fun B_12 h_B_12 h0_B_12 => ?_⟩
                  refine ⟨_, _, rfl, rfl, ?_⟩
                  refine ⟨_, rfl, ?_⟩
                  refine ⟨_, rfl, ?_⟩
                  refine ⟨_, rfl, ?_⟩
                  refine Or.inr (Or.inr (Or.inr (Or.inl ?_)))
                  refine ⟨_, _, _, _, _, _, _, _, rfl, (by first | (walk_at "o2")), (by first | (walk_at "o2")), (by first | (walk_at "o2")), (by first | (walk_at "o2")), h85, (by first | (walk_at "o2")), (by first | (walk_at "o2")), (by first | (walk_at "o2")), (by first | (walk_at "o2")), (by first | (walk_at "o2")), (by first | (walk_at "o2")), (by first | (walk_at "o2")), (by first | (walk_at "o2")), (by first | (walk_at "o2")), fun Hn_47 h183 => ?_⟩
                  refine Ow.gnmS (σ' := [_, _, _, _, _, _, _, _, _, _, _, _]) rfl ?_
                  refine ⟨_, rfl, ?_⟩
                  refine ⟨_, rfl, ?_⟩
                  refine ⟨_, rfl, ?_⟩
                  refine ⟨_, rfl, ?_⟩
                  refine Or.inr (Or.inr (Or.inr (Or.inl ?_)))
                  refine ⟨_, _, _, _, fm, _, rfl, (by first | (walk_at "o2")), (by first | (walk_at "o2")), (by first | (walk_at "o2")), (by first | (walk_at "o2")), (h183 _ _ h86), (by first | (walk_at "o2")), (by first | (walk_at "o2")), fun Hn_48 h184 => ?_⟩
                  refine Ow.gnmS (σ' := [_, _, _, _, _, _, _, _, _, _, _, _]) rfl ?_
                  refine ⟨_, rfl, ?_⟩
                  refine ⟨_, _, _, _, true, rfl, .ty _, .base (.bl _), kit_ty (by decide +kernel), ?_⟩
                  refine ⟨_, rfl, ?_⟩
                  refine iteF ?_
                  refine ⟨_, rfl, ?_⟩
                  refine ⟨_, rfl, ?_⟩
                  refine ⟨rfl, ?_⟩
                  refine ⟨_, rfl, ?_⟩
                  refine Ow.ifneb (fun h185 => ?_) (fun h185 => ?_)
                  · try simp only [decide_eq_true_eq, V.int.injEq] at h185
                    exact ((by (subst_vars; first | exact h185 Iff.rfl | exact h185 trivial | exact h185 (Iff.trans (by assumption : _ = true ↔ Ow.Right _ _ _) (Iff.symm (by assumption : _ = true ↔ Ow.AllR _ _ _ _ _ _))) | exact Ow.no_T h185 (by assumption) (by assumption) | exact Ow.no_a h185 (by assumption) (by assumption) | exact Ow.no_b h185 (by assumption) (by assumption) | exact Ow.no_c h185 (by assumption) (by assumption) | exact h185 (Iff.trans (by assumption : _ = true ↔ Ow.WrongF _ _ _ _) (Iff.symm (by assumption : _ = true ↔ Ow.LwR _ _ _ _ _ _ _))))) : False).elim
                  · try simp only [decide_eq_true_eq, V.int.injEq] at h185
                    refine ⟨_, rfl, ?_⟩
                    refine ⟨_, _, rfl, rfl, ?_⟩
                    refine ⟨_, rfl, ?_⟩
                    refine Ow.ifd (fun h186 => ?_) (fun h186 => ?_)
                    · refine ⟨_, rfl, ?_⟩
                      refine ⟨rfl, ?_⟩
                      refine ⟨_, rfl, ?_⟩
                      refine iteF ?_
                      refine ⟨_, rfl, ?_⟩
                      refine Or.inr (Or.inr (Or.inr (Or.inl ?_)))
                      refine ⟨_, rfl, ?_⟩
                      refine ⟨_, rfl, ?_⟩
                      refine iteF ?_
                      refine iteF ?_
                      exact ⟨_, _, _, _, _, rfl, (((Ow.Fm.refl.trans h82).same h183).same h184), (h184 _ _ (h183 _ _ h83)), (h184 _ _ (h183 _ _ h84)), (h184 _ _ (h183 _ _ h85)), (h184 _ _ (h183 _ _ h86)), (h184 _ _ (h183 _ _ h87)), (h184 _ _ (h183 _ _ h88)), (h184 _ _ (h183 _ _ h89)), (h184 _ _ (h183 _ _ h90)), trivial⟩
                    · refine iteF ?_
                      exact ⟨_, _, _, _, _, rfl, (((Ow.Fm.refl.trans h82).same h183).same h184), (h184 _ _ (h183 _ _ h83)), (h184 _ _ (h183 _ _ h84)), (h184 _ _ (h183 _ _ h85)), (h184 _ _ (h183 _ _ h86)), (h184 _ _ (h183 _ _ h87)), (h184 _ _ (h183 _ _ h88)), (h184 _ _ (h183 _ _ h89)), (h184 _ _ (h183 _ _ h90)), trivial⟩
                · refine ⟨_, rfl, ?_⟩
                  refine ⟨_, rfl, rfl, (by first | (walk_at "o2")), fun B_13 h_B_13 h0_B_13 => ?_⟩
                  refine ⟨_, _, rfl, rfl, ?_⟩
                  refine ⟨_, rfl, ?_⟩
                  refine ⟨_, rfl, ?_⟩
                  refine ⟨_, rfl, ?_⟩
                  refine Or.inr (Or.inr (Or.inr (Or.inr (Or.inl ?_))))
                  refine ⟨_, _, _, _, _, _, _, _, _, rfl, (by first | (walk_at "o2")), (by first | (walk_at "o2")), (by first | (walk_at "o2")), (by first | (walk_at "o2")), h85, (by first | (walk_at "o2")), (by first | (walk_at "o2")), (by first | (walk_at "o2")), (by first | (walk_at "o2")), (by first | (walk_at "o2")), (by first | (walk_at "o2")), (by first | (walk_at "o2")), (by first | (walk_at "o2")), (by first | (walk_at "o2")), h88, fun Hn_49 h187 => ?_⟩
                  refine Ow.gnmS (σ' := [_, _, _, _, _, _, _, _, _, _, _, _]) rfl ?_
                  refine ⟨_, rfl, ?_⟩
                  refine ⟨_, rfl, ?_⟩
                  refine ⟨_, rfl, ?_⟩
                  refine ⟨_, rfl, ?_⟩
                  refine Or.inr (Or.inr (Or.inr (Or.inr (Or.inl ?_))))
                  refine ⟨_, _, _, _, fm, _, _, rfl, (by first | (walk_at "o2")), (by first | (walk_at "o2")), (by first | (walk_at "o2")), (by first | (walk_at "o2")), (h187 _ _ h86), (by first | (walk_at "o2")), (by first | (walk_at "o2")), (h187 _ _ h88), fun Hn_50 h188 => ?_⟩
                  refine Ow.gnmS (σ' := [_, _, _, _, _, _, _, _, _, _, _, _]) rfl ?_
                  refine ⟨_, rfl, ?_⟩
                  refine ⟨_, _, _, _, true, rfl, .ty _, .base (.bl _), kit_ty (by decide +kernel), ?_⟩
                  refine ⟨_, rfl, ?_⟩
                  refine iteF ?_
                  refine ⟨_, rfl, ?_⟩
                  refine ⟨_, rfl, ?_⟩
                  refine ⟨rfl, ?_⟩
                  refine ⟨_, rfl, ?_⟩
                  refine Ow.ifneb (fun h189 => ?_) (fun h189 => ?_)
                  · try simp only [decide_eq_true_eq, V.int.injEq] at h189
                    exact ((by (subst_vars; first | exact h189 Iff.rfl | exact h189 trivial | exact h189 (Iff.trans (by assumption : _ = true ↔ Ow.Right _ _ _) (Iff.symm (by assumption : _ = true ↔ Ow.AllR _ _ _ _ _ _))) | exact Ow.no_T h189 (by assumption) (by assumption) | exact Ow.no_a h189 (by assumption) (by assumption) | exact Ow.no_b h189 (by assumption) (by assumption) | exact Ow.no_c h189 (by assumption) (by assumption) | exact h189 (Iff.trans (by assumption : _ = true ↔ Ow.WrongF _ _ _ _) (Iff.symm (by assumption : _ = true ↔ Ow.LwR _ _ _ _ _ _ _))))) : False).elim
                  · try simp only [decide_eq_true_eq, V.int.injEq] at h189
                    refine ⟨_, rfl, ?_⟩
                    refine ⟨_, _, rfl, rfl, ?_⟩
                    refine ⟨_, rfl, ?_⟩
                    refine Ow.ifd (fun h190 => ?_) (fun h190 => ?_)
                    · refine ⟨_, rfl, ?_⟩
                      refine ⟨rfl, ?_⟩
                      refine ⟨_, rfl, ?_⟩
                      refine iteF ?_
                      refine ⟨_, rfl, ?_⟩
                      refine Or.inr (Or.inr (Or.inr (Or.inr (Or.inl ?_))))
                      refine ⟨_, _, rfl, (h188 _ _ (h187 _ _ h88)), ?_⟩
                      refine ⟨_, rfl, ?_⟩
                      refine iteF ?_
                      refine iteF ?_
                      exact ⟨_, _, _, _, _, rfl, (((Ow.Fm.refl.trans h82).same h187).same h188), (h188 _ _ (h187 _ _ h83)), (h188 _ _ (h187 _ _ h84)), (h188 _ _ (h187 _ _ h85)), (h188 _ _ (h187 _ _ h86)), (h188 _ _ (h187 _ _ h87)), (h188 _ _ (h187 _ _ h88)), (h188 _ _ (h187 _ _ h89)), (h188 _ _ (h187 _ _ h90)), trivial⟩
                    · refine iteF ?_
                      exact ⟨_, _, _, _, _, rfl, (((Ow.Fm.refl.trans h82).same h187).same h188), (h188 _ _ (h187 _ _ h83)), (h188 _ _ (h187 _ _ h84)), (h188 _ _ (h187 _ _ h85)), (h188 _ _ (h187 _ _ h86)), (h188 _ _ (h187 _ _ h87)), (h188 _ _ (h187 _ _ h88)), (h188 _ _ (h187 _ _ h89)), (h188 _ _ (h187 _ _ h90)), trivial⟩
                · refine ⟨_, rfl, ?_⟩
                  refine ⟨_, rfl, rfl, (by first | (walk_at "o2")), fun B_14 h_B_14 h0_B_14 => ?_⟩
                  refine ⟨_, _, rfl, rfl, ?_⟩
                  refine ⟨_, rfl, ?_⟩
                  refine ⟨_, rfl, ?_⟩
                  refine ⟨_, rfl, ?_⟩
                  refine Or.inr (Or.inr (Or.inr (Or.inr (Or.inr (Or.inl ?_)))))
                  refine ⟨_, _, _, _, _, _, _, _, _, rfl, (by first | (walk_at "o2")), (by first | (walk_at "o2")), (by first | (walk_at "o2")), (by first | (walk_at "o2")), h85, (by first | (walk_at "o2")), (by first | (walk_at "o2")), (by first | (walk_at "o2")), (by first | (walk_at "o2")), (by first | (walk_at "o2")), (by first | (walk_at "o2")), (by first | (walk_at "o2")), (by first | (walk_at "o2")), (by first | (walk_at "o2")), h89, fun Hn_51 h191 => ?_⟩
                  refine Ow.gnmS (σ' := [_, _, _, _, _, _, _, _, _, _, _, _]) rfl ?_
                  refine ⟨_, rfl, ?_⟩
                  refine ⟨_, rfl, ?_⟩
                  refine ⟨_, rfl, ?_⟩
                  refine ⟨_, rfl, ?_⟩
                  refine Or.inr (Or.inr (Or.inr (Or.inr (Or.inr (Or.inl ?_)))))
                  refine ⟨_, _, _, _, fm, _, _, rfl, (by first | (walk_at "o2")), (by first | (walk_at "o2")), (by first | (walk_at "o2")), (by first | (walk_at "o2")), (h191 _ _ h86), (by first | (walk_at "o2")), (by first | (walk_at "o2")), (h191 _ _ h89), fun Hn_52 h192 => ?_⟩
                  refine Ow.gnmS (σ' := [_, _, _, _, _, _, _, _, _, _, _, _]) rfl ?_
                  refine ⟨_, rfl, ?_⟩
                  refine ⟨_, _, _, _, true, rfl, .ty _, .base (.bl _), kit_ty (by decide +kernel), ?_⟩
                  refine ⟨_, rfl, ?_⟩
                  refine iteF ?_
                  refine ⟨_, rfl, ?_⟩
                  refine ⟨_, rfl, ?_⟩
                  refine ⟨rfl, ?_⟩
                  refine ⟨_, rfl, ?_⟩
                  refine Ow.ifneb (fun h193 => ?_) (fun h193 => ?_)
                  · try simp only [decide_eq_true_eq, V.int.injEq] at h193
                    exact ((by (subst_vars; first | exact h193 Iff.rfl | exact h193 trivial | exact h193 (Iff.trans (by assumption : _ = true ↔ Ow.Right _ _ _) (Iff.symm (by assumption : _ = true ↔ Ow.AllR _ _ _ _ _ _))) | exact Ow.no_T h193 (by assumption) (by assumption) | exact Ow.no_a h193 (by assumption) (by assumption) | exact Ow.no_b h193 (by assumption) (by assumption) | exact Ow.no_c h193 (by assumption) (by assumption) | exact h193 (Iff.trans (by assumption : _ = true ↔ Ow.WrongF _ _ _ _) (Iff.symm (by assumption : _ = true ↔ Ow.LwR _ _ _ _ _ _ _))))) : False).elim
                  · try simp only [decide_eq_true_eq, V.int.injEq] at h193
                    refine ⟨_, rfl, ?_⟩
                    refine ⟨_, _, rfl, rfl, ?_⟩
                    refine ⟨_, rfl, ?_⟩
                    refine Ow.ifd (fun h194 => ?_) (fun h194 => ?_)
                    · refine ⟨_, rfl, ?_⟩
                      refine ⟨rfl, ?_⟩
                      refine ⟨_, rfl, ?_⟩
                      refine iteF ?_
                      refine ⟨_, rfl, ?_⟩
                      refine Or.inr (Or.inr (Or.inr (Or.inr (Or.inr (Or.inl ?_)))))
                      refine ⟨_, _, rfl, (h192 _ _ (h191 _ _ h89)), ?_⟩
                      refine ⟨_, rfl, ?_⟩
                      refine iteF ?_
                      refine iteF ?_
                      exact ⟨_, _, _, _, _, rfl, (((Ow.Fm.refl.trans h82).same h191).same h192), (h192 _ _ (h191 _ _ h83)), (h192 _ _ (h191 _ _ h84)), (h192 _ _ (h191 _ _ h85)), (h192 _ _ (h191 _ _ h86)), (h192 _ _ (h191 _ _ h87)), (h192 _ _ (h191 _ _ h88)), (h192 _ _ (h191 _ _ h89)), (h192 _ _ (h191 _ _ h90)), trivial⟩
                    · refine iteF ?_
                      exact ⟨_, _, _, _, _, rfl, (((Ow.Fm.refl.trans h82).same h191).same h192), (h192 _ _ (h191 _ _ h83)), (h192 _ _ (h191 _ _ h84)), (h192 _ _ (h191 _ _ h85)), (h192 _ _ (h191 _ _ h86)), (h192 _ _ (h191 _ _ h87)), (h192 _ _ (h191 _ _ h88)), (h192 _ _ (h191 _ _ h89)), (h192 _ _ (h191 _ _ h90)), trivial⟩
                · refine ⟨_, rfl, ?_⟩
                  refine ⟨_, rfl, rfl, (by first | (walk_at "o2")), fun B_15 h_B_15 h0_B_15 => ?_⟩
                  refine ⟨_, _, rfl, rfl, ?_⟩
                  refine ⟨_, rfl, ?_⟩
                  refine ⟨_, rfl, ?_⟩
                  refine ⟨_, rfl, ?_⟩
                  refine Or.inr (Or.inr (Or.inr (Or.inr (Or.inr (Or.inr (?_))))))
                  refine ⟨_, _, _, _, _, _, _, _, rfl, (by first | (walk_at "o2")), (by first | (walk_at "o2")), (by first | (walk_at "o2")), (by first | (walk_at "o2")), h85, (by first | (walk_at "o2")), (by first | (walk_at "o2")), (by first | (walk_at "o2")), (by first | (walk_at "o2")), (by first | (walk_at "o2")), (by first | (walk_at "o2")), (by first | (walk_at "o2")), (by first | (walk_at "o2")), (by first | (walk_at "o2")), h90, fun Hn_53 h195 => ?_⟩
                  refine Ow.gnmS (σ' := [_, _, _, _, _, _, _, _, _, _, _, _]) rfl ?_
                  refine ⟨_, rfl, ?_⟩
                  refine ⟨_, rfl, ?_⟩
                  refine ⟨_, rfl, ?_⟩
                  refine ⟨_, rfl, ?_⟩
                  refine Or.inr (Or.inr (Or.inr (Or.inr (Or.inr (Or.inr (?_))))))
                  refine ⟨_, _, _, _, fm, _, rfl, (by first | (walk_at "o2")), (by first | (walk_at "o2")), (by first | (walk_at "o2")), (by first | (walk_at "o2")), (h195 _ _ h86), (by first | (walk_at "o2")), (by first | (walk_at "o2")), (h195 _ _ h90), fun Hn_54 h196 => ?_⟩
                  refine Ow.gnmS (σ' := [_, _, _, _, _, _, _, _, _, _, _, _]) rfl ?_
                  refine ⟨_, rfl, ?_⟩
                  refine ⟨_, _, _, _, true, rfl, .ty _, .base (.bl _), kit_ty (by decide +kernel), ?_⟩
                  refine ⟨_, rfl, ?_⟩
                  refine iteF ?_
                  refine ⟨_, rfl, ?_⟩
                  refine ⟨_, rfl, ?_⟩
                  refine ⟨rfl, ?_⟩
                  refine ⟨_, rfl, ?_⟩
                  refine Ow.ifneb (fun h197 => ?_) (fun h197 => ?_)
                  · try simp only [decide_eq_true_eq, V.int.injEq] at h197
                    exact ((by (subst_vars; first | exact h197 Iff.rfl | exact h197 trivial | exact h197 (Iff.trans (by assumption : _ = true ↔ Ow.Right _ _ _) (Iff.symm (by assumption : _ = true ↔ Ow.AllR _ _ _ _ _ _))) | exact Ow.no_T h197 (by assumption) (by assumption) | exact Ow.no_a h197 (by assumption) (by assumption) | exact Ow.no_b h197 (by assumption) (by assumption) | exact Ow.no_c h197 (by assumption) (by assumption) | exact h197 (Iff.trans (by assumption : _ = true ↔ Ow.WrongF _ _ _ _) (Iff.symm (by assumption : _ = true ↔ Ow.LwR _ _ _ _ _ _ _))))) : False).elim
                  · try simp only [decide_eq_true_eq, V.int.injEq] at h197
                    refine ⟨_, rfl, ?_⟩
                    refine ⟨_, _, rfl, rfl, ?_⟩
                    refine ⟨_, rfl, ?_⟩
                    refine Ow.ifd (fun h198 => ?_) (fun h198 => ?_)
                    · refine ⟨_, rfl, ?_⟩
                      refine ⟨rfl, ?_⟩
                      refine ⟨_, rfl, ?_⟩
                      refine iteF ?_
                      refine ⟨_, rfl, ?_⟩
                      refine Or.inr (Or.inr (Or.inr (Or.inr (Or.inr (Or.inr (?_))))))
                      refine ⟨_, rfl, (h196 _ _ (h195 _ _ h90)), ?_⟩
                      refine ⟨_, rfl, ?_⟩
                      refine iteF ?_
                      refine iteF ?_
                      exact ⟨_, _, _, _, _, rfl, (((Ow.Fm.refl.trans h82).same h195).same h196), (h196 _ _ (h195 _ _ h83)), (h196 _ _ (h195 _ _ h84)), (h196 _ _ (h195 _ _ h85)), (h196 _ _ (h195 _ _ h86)), (h196 _ _ (h195 _ _ h87)), (h196 _ _ (h195 _ _ h88)), (h196 _ _ (h195 _ _ h89)), (h196 _ _ (h195 _ _ h90)), trivial⟩
                    · refine iteF ?_
                      exact ⟨_, _, _, _, _, rfl, (((Ow.Fm.refl.trans h82).same h195).same h196), (h196 _ _ (h195 _ _ h83)), (h196 _ _ (h195 _ _ h84)), (h196 _ _ (h195 _ _ h85)), (h196 _ _ (h195 _ _ h86)), (h196 _ _ (h195 _ _ h87)), (h196 _ _ (h195 _ _ h88)), (h196 _ _ (h195 _ _ h89)), (h196 _ _ (h195 _ _ h90)), trivial⟩
                · refine ⟨_, rfl, ?_⟩
                  refine ⟨_, rfl, rfl, (by first | (walk_at "o2")), fun B_16 h_B_16 h0_B_16 => ?_⟩
                  refine ⟨_, _, rfl, rfl, ?_⟩
                  refine ⟨_, rfl, ?_⟩
                  refine ⟨_, rfl, ?_⟩
                  refine ⟨_, rfl, ?_⟩
                  refine Or.inr (Or.inl ?_)
                  refine ⟨_, _, _, _, _, _, _, _, rfl, (by first | (walk_at "o2")), (by first | (walk_at "o2")), (by first | (walk_at "o2")), (by first | (walk_at "o2")), h85, (by first | (walk_at "o2")), (by first | (walk_at "o2")), (by first | (walk_at "o2")), (by first | (walk_at "o2")), (by first | (walk_at "o2")), (by first | (walk_at "o2")), (by first | (walk_at "o2")), (by first | (walk_at "o2")), (by first | (walk_at "o2")), fun l_due_8 h199 Hn_55 h200 => ?_⟩
                  refine Ow.gnmS (σ' := [_, _, _, _, _, _, _, _, _, _, _, _]) rfl ?_
                  refine ⟨_, rfl, ?_⟩
                  refine ⟨_, rfl, ?_⟩
                  refine ⟨_, rfl, ?_⟩
                  refine ⟨_, rfl, ?_⟩
                  refine Or.inr (Or.inl ?_)
                  refine ⟨_, _, _, _, fm, _, rfl, (by first | (walk_at "o2")), (by first | (walk_at "o2")), (by first | (walk_at "o2")), (by first | (walk_at "o2")), (h200 _ _ h86), (by first | (walk_at "o2")), (by first | (walk_at "o2")), fun l_found_8 h201 Hn_56 h202 => ?_⟩
                  refine Ow.gnmS (σ' := [_, _, _, _, _, _, _, _, _, _, _, _]) rfl ?_
                  refine ⟨_, rfl, ?_⟩
                  refine ⟨_, _, _, _, true, rfl, .ty _, .base (.bl _), kit_ty (by decide +kernel), ?_⟩
                  refine ⟨_, rfl, ?_⟩
                  refine iteF ?_
                  refine ⟨_, rfl, ?_⟩
                  refine ⟨_, rfl, ?_⟩
                  refine ⟨rfl, ?_⟩
                  refine ⟨_, rfl, ?_⟩
                  refine Ow.ifneb (fun h203 => ?_) (fun h203 => ?_)
                  · try simp only [decide_eq_true_eq, V.int.injEq] at h203
                    exact ((by (subst_vars; first | exact h203 Iff.rfl | exact h203 trivial | exact h203 (Iff.trans (by assumption : _ = true ↔ Ow.Right _ _ _) (Iff.symm (by assumption : _ = true ↔ Ow.AllR _ _ _ _ _ _))) | exact Ow.no_T h203 (by assumption) (by assumption) | exact Ow.no_a h203 (by assumption) (by assumption) | exact Ow.no_b h203 (by assumption) (by assumption) | exact Ow.no_c h203 (by assumption) (by assumption) | exact h203 (Iff.trans (by assumption : _ = true ↔ Ow.WrongF _ _ _ _) (Iff.symm (by assumption : _ = true ↔ Ow.LwR _ _ _ _ _ _ _))))) : False).elim
                  · try simp only [decide_eq_true_eq, V.int.injEq] at h203
                    refine ⟨_, rfl, ?_⟩
                    refine ⟨_, _, rfl, rfl, ?_⟩
                    refine ⟨_, rfl, ?_⟩
                    refine Ow.ifd (fun h204 => ?_) (fun h204 => ?_)
                    · refine ⟨_, rfl, ?_⟩
                      refine ⟨rfl, ?_⟩
                      refine ⟨_, rfl, ?_⟩
                      refine iteF ?_
                      refine ⟨_, rfl, ?_⟩
                      refine Or.inl ?_
                      refine ⟨_, rfl, ?_⟩
                      refine ⟨_, rfl, ?_⟩
                      refine iteT ?_
                      refine ⟨_, rfl, ?_⟩
                      refine ⟨_, rfl, ?_⟩
                      refine ⟨_, rfl, ?_⟩
                      refine ⟨_, rfl, ?_⟩
                      refine ⟨_, rfl, ?_⟩
                      refine ⟨_, _, _, _, _, _, _, rfl, (by first | (walk_at "o2")), (by first | (walk_at "o2")), (by first | (walk_at "o2")), (by first | (walk_at "o2")), (h202 _ _ (h200 _ _ h85)), (by first | (walk_at "o2")), (by first | (walk_at "o2")), (by first | (walk_at "o2")), (by first | (walk_at "o2")), (by first | (walk_at "o2")), (by first | (walk_at "o2")), (by first | (walk_at "o2")), (by first | (walk_at "o2")), (by first | (walk_at "o2")), ?_, ?_⟩
                      · refine fun h205 Hn_57 h206 => ?_
                        refine ⟨rfl, ?_⟩
                        refine ⟨rfl, ?_⟩
                        refine ⟨_, rfl, ?_⟩
                        refine Ow.ifneb (fun h207 => ?_) (fun h207 => ?_)
                        · try simp only [decide_eq_true_eq, V.int.injEq] at h207
                          exact ((by (subst_vars; first | exact h207 Iff.rfl | exact h207 trivial | exact h207 (Iff.trans (by assumption : _ = true ↔ Ow.Right _ _ _) (Iff.symm (by assumption : _ = true ↔ Ow.AllR _ _ _ _ _ _))) | exact Ow.no_T h207 (by assumption) (by assumption) | exact Ow.no_a h207 (by assumption) (by assumption) | exact Ow.no_b h207 (by assumption) (by assumption) | exact Ow.no_c h207 (by assumption) (by assumption) | exact h207 (Iff.trans (by assumption : _ = true ↔ Ow.WrongF _ _ _ _) (Iff.symm (by assumption : _ = true ↔ Ow.LwR _ _ _ _ _ _ _))))) : False).elim
                        · try simp only [decide_eq_true_eq, V.int.injEq] at h207
                          exact ⟨_, _, _, _, _, rfl, ((((Ow.Fm.refl.trans h82).same h200).same h202).same h206), (h206 _ _ (h202 _ _ (h200 _ _ h83))), (h206 _ _ (h202 _ _ (h200 _ _ h84))), (h206 _ _ (h202 _ _ (h200 _ _ h85))), (h206 _ _ (h202 _ _ (h200 _ _ h86))), (h206 _ _ (h202 _ _ (h200 _ _ h87))), (h206 _ _ (h202 _ _ (h200 _ _ h88))), (h206 _ _ (h202 _ _ (h200 _ _ h89))), (h206 _ _ (h202 _ _ (h200 _ _ h90))), trivial⟩
                      · refine fun t_15 h208 Hn_58 h209 => ?_
                        refine ⟨rfl, ?_⟩
                        refine ⟨rfl, ?_⟩
                        refine ⟨_, rfl, ?_⟩
                        refine Ow.ifneb (fun h210 => ?_) (fun h210 => ?_)
                        · try simp only [decide_eq_true_eq, V.int.injEq] at h210
                          exact ((by (subst_vars; first | exact h210 Iff.rfl | exact h210 trivial | exact h210 (Iff.trans (by assumption : _ = true ↔ Ow.Right _ _ _) (Iff.symm (by assumption : _ = true ↔ Ow.AllR _ _ _ _ _ _))) | exact Ow.no_T h210 (by assumption) (by assumption) | exact Ow.no_a h210 (by assumption) (by assumption) | exact Ow.no_b h210 (by assumption) (by assumption) | exact Ow.no_c h210 (by assumption) (by assumption) | exact h210 (Iff.trans (by assumption : _ = true ↔ Ow.WrongF _ _ _ _) (Iff.symm (by assumption : _ = true ↔ Ow.LwR _ _ _ _ _ _ _))))) : False).elim
                        · try simp only [decide_eq_true_eq, V.int.injEq] at h210
                          exact ⟨_, _, _, _, _, rfl, ((((Ow.Fm.refl.trans h82).same h200).same h202).same h209), (h209 _ _ (h202 _ _ (h200 _ _ h83))), (h209 _ _ (h202 _ _ (h200 _ _ h84))), (h209 _ _ (h202 _ _ (h200 _ _ h85))), (h209 _ _ (h202 _ _ (h200 _ _ h86))), (h209 _ _ (h202 _ _ (h200 _ _ h87))), (h209 _ _ (h202 _ _ (h200 _ _ h88))), (h209 _ _ (h202 _ _ (h200 _ _ h89))), (h209 _ _ (h202 _ _ (h200 _ _ h90))), trivial⟩
                    · refine iteF ?_
                      exact ⟨_, _, _, _, _, rfl, (((Ow.Fm.refl.trans h82).same h200).same h202), (h202 _ _ (h200 _ _ h83)), (h202 _ _ (h200 _ _ h84)), (h202 _ _ (h200 _ _ h85)), (h202 _ _ (h200 _ _ h86)), (h202 _ _ (h200 _ _ h87)), (h202 _ _ (h200 _ _ h88)), (h202 _ _ (h200 _ _ h89)), (h202 _ _ (h200 _ _ h90)), trivial⟩
                · refine ⟨_, rfl, ?_⟩
                  refine ⟨_, rfl, rfl, (by first | (walk_at "o2")), fun B_17 h_B_17 h0_B_17 => ?_⟩
                  refine ⟨_, _, rfl, rfl, ?_⟩
                  refine ⟨_, rfl, ?_⟩
                  refine ⟨_, rfl, ?_⟩
                  refine ⟨_, rfl, ?_⟩
                  refine Or.inr (Or.inl ?_)
                  refine ⟨_, _, _, _, _, _, _, _, rfl, (by first | (walk_at "o2")), (by first | (walk_at "o2")), (by first | (walk_at "o2")), (by first | (walk_at "o2")), h85, (by first | (walk_at "o2")), (by first | (walk_at "o2")), (by first | (walk_at "o2")), (by first | (walk_at "o2")), (by first | (walk_at "o2")), (by first | (walk_at "o2")), (by first | (walk_at "o2")), (by first | (walk_at "o2")), (by first | (walk_at "o2")), fun l_due_9 h211 Hn_59 h212 => ?_⟩
                  refine Ow.gnmS (σ' := [_, _, _, _, _, _, _, _, _, _, _, _]) rfl ?_
                  refine ⟨_, rfl, ?_⟩
                  refine ⟨_, rfl, ?_⟩
                  refine ⟨_, rfl, ?_⟩
                  refine ⟨_, rfl, ?_⟩
                  refine Or.inr (Or.inl ?_)
                  refine ⟨_, _, _, _, fm, _, rfl, (by first | (walk_at "o2")), (by first | (walk_at "o2")), (by first | (walk_at "o2")), (by first | (walk_at "o2")), (h212 _ _ h86), (by first | (walk_at "o2")), (by first | (walk_at "o2")), fun l_found_9 h213 Hn_60 h214 => ?_⟩
                  refine Ow.gnmS (σ' := [_, _, _, _, _, _, _, _, _, _, _, _]) rfl ?_
                  refine ⟨_, rfl, ?_⟩
                  refine ⟨_, _, _, _, true, rfl, .ty _, .base (.bl _), kit_ty (by decide +kernel), ?_⟩
                  refine ⟨_, rfl, ?_⟩
                  refine iteF ?_
                  refine ⟨_, rfl, ?_⟩
                  refine ⟨_, rfl, ?_⟩
                  refine ⟨rfl, ?_⟩
                  refine ⟨_, rfl, ?_⟩
                  refine Ow.ifneb (fun h215 => ?_) (fun h215 => ?_)
                  · try simp only [decide_eq_true_eq, V.int.injEq] at h215
                    exact ((by (subst_vars; first | exact h215 Iff.rfl | exact h215 trivial | exact h215 (Iff.trans (by assumption : _ = true ↔ Ow.Right _ _ _) (Iff.symm (by assumption : _ = true ↔ Ow.AllR _ _ _ _ _ _))) | exact Ow.no_T h215 (by assumption) (by assumption) | exact Ow.no_a h215 (by assumption) (by assumption) | exact Ow.no_b h215 (by assumption) (by assumption) | exact Ow.no_c h215 (by assumption) (by assumption) | exact h215 (Iff.trans (by assumption : _ = true ↔ Ow.WrongF _ _ _ _) (Iff.symm (by assumption : _ = true ↔ Ow.LwR _ _ _ _ _ _ _))))) : False).elim
                  · try simp only [decide_eq_true_eq, V.int.injEq] at h215
                    refine ⟨_, rfl, ?_⟩
                    refine ⟨_, _, rfl, rfl, ?_⟩
                    refine ⟨_, rfl, ?_⟩
                    refine Ow.ifd (fun h216 => ?_) (fun h216 => ?_)
                    · refine ⟨_, rfl, ?_⟩
                      refine ⟨rfl, ?_⟩
                      refine ⟨_, rfl, ?_⟩
                      refine iteF ?_
                      refine ⟨_, rfl, ?_⟩
                      refine Or.inl ?_
                      refine ⟨_, rfl, ?_⟩
                      refine ⟨_, rfl, ?_⟩
                      refine iteT ?_
                      refine ⟨_, rfl, ?_⟩
                      refine ⟨_, rfl, ?_⟩
                      refine ⟨_, rfl, ?_⟩
                      refine ⟨_, rfl, ?_⟩
                      refine ⟨_, rfl, ?_⟩
                      refine ⟨_, _, _, _, _, _, _, rfl, (by first | (walk_at "o2")), (by first | (walk_at "o2")), (by first | (walk_at "o2")), (by first | (walk_at "o2")), (h214 _ _ (h212 _ _ h85)), (by first | (walk_at "o2")), (by first | (walk_at "o2")), (by first | (walk_at "o2")), (by first | (walk_at "o2")), (by first | (walk_at "o2")), (by first | (walk_at "o2")), (by first | (walk_at "o2")), (by first | (walk_at "o2")), (by first | (walk_at "o2")), ?_, ?_⟩
                      · refine fun h217 Hn_61 h218 => ?_
                        refine ⟨rfl, ?_⟩
                        refine ⟨rfl, ?_⟩
                        refine ⟨_, rfl, ?_⟩
                        refine Ow.ifneb (fun h219 => ?_) (fun h219 => ?_)
                        · try simp only [decide_eq_true_eq, V.int.injEq] at h219
                          exact ((by (subst_vars; first | exact h219 Iff.rfl | exact h219 trivial | exact h219 (Iff.trans (by assumption : _ = true ↔ Ow.Right _ _ _) (Iff.symm (by assumption : _ = true ↔ Ow.AllR _ _ _ _ _ _))) | exact Ow.no_T h219 (by assumption) (by assumption) | exact Ow.no_a h219 (by assumption) (by assumption) | exact Ow.no_b h219 (by assumption) (by assumption) | exact Ow.no_c h219 (by assumption) (by assumption) | exact h219 (Iff.trans (by assumption : _ = true ↔ Ow.WrongF _ _ _ _) (Iff.symm (by assumption : _ = true ↔ Ow.LwR _ _ _ _ _ _ _))))) : False).elim
                        · try simp only [decide_eq_true_eq, V.int.injEq] at h219
                          exact ⟨_, _, _, _, _, rfl, ((((Ow.Fm.refl.trans h82).same h212).same h214).same h218), (h218 _ _ (h214 _ _ (h212 _ _ h83))), (h218 _ _ (h214 _ _ (h212 _ _ h84))), (h218 _ _ (h214 _ _ (h212 _ _ h85))), (h218 _ _ (h214 _ _ (h212 _ _ h86))), (h218 _ _ (h214 _ _ (h212 _ _ h87))), (h218 _ _ (h214 _ _ (h212 _ _ h88))), (h218 _ _ (h214 _ _ (h212 _ _ h89))), (h218 _ _ (h214 _ _ (h212 _ _ h90))), trivial⟩
                      · refine fun t_16 h220 Hn_62 h221 => ?_
                        refine ⟨rfl, ?_⟩
                        refine ⟨rfl, ?_⟩
                        refine ⟨_, rfl, ?_⟩
                        refine Ow.ifneb (fun h222 => ?_) (fun h222 => ?_)
                        · try simp only [decide_eq_true_eq, V.int.injEq] at h222
                          exact ((by (subst_vars; first | exact h222 Iff.rfl | exact h222 trivial | exact h222 (Iff.trans (by assumption : _ = true ↔ Ow.Right _ _ _) (Iff.symm (by assumption : _ = true ↔ Ow.AllR _ _ _ _ _ _))) | exact Ow.no_T h222 (by assumption) (by assumption) | exact Ow.no_a h222 (by assumption) (by assumption) | exact Ow.no_b h222 (by assumption) (by assumption) | exact Ow.no_c h222 (by assumption) (by assumption) | exact h222 (Iff.trans (by assumption : _ = true ↔ Ow.WrongF _ _ _ _) (Iff.symm (by assumption : _ = true ↔ Ow.LwR _ _ _ _ _ _ _))))) : False).elim
                        · try simp only [decide_eq_true_eq, V.int.injEq] at h222
                          exact ⟨_, _, _, _, _, rfl, ((((Ow.Fm.refl.trans h82).same h212).same h214).same h221), (h221 _ _ (h214 _ _ (h212 _ _ h83))), (h221 _ _ (h214 _ _ (h212 _ _ h84))), (h221 _ _ (h214 _ _ (h212 _ _ h85))), (h221 _ _ (h214 _ _ (h212 _ _ h86))), (h221 _ _ (h214 _ _ (h212 _ _ h87))), (h221 _ _ (h214 _ _ (h212 _ _ h88))), (h221 _ _ (h214 _ _ (h212 _ _ h89))), (h221 _ _ (h214 _ _ (h212 _ _ h90))), trivial⟩
                    · refine iteF ?_
                      exact ⟨_, _, _, _, _, rfl, (((Ow.Fm.refl.trans h82).same h212).same h214), (h214 _ _ (h212 _ _ h83)), (h214 _ _ (h212 _ _ h84)), (h214 _ _ (h212 _ _ h85)), (h214 _ _ (h212 _ _ h86)), (h214 _ _ (h212 _ _ h87)), (h214 _ _ (h212 _ _ h88)), (h214 _ _ (h212 _ _ h89)), (h214 _ _ (h212 _ _ h90)), trivial⟩
              · rintro _ Hn_63 ⟨a9_4, c9_4, _, _, _, rfl, h223, h224, h225, h226, h227, h228, h229, h230, h231, _⟩
                exact kont a9_4 c9_4 _ (Ow.Fm.refl.trans h223) h224
            · refine fun l_word h232 Hn_64 h233 => ?_
              refine Ow.gnmS (σ' := [_, _, _, _, _, _, _, _, _, _, _, _]) rfl ?_
              try have wr := (by assumption : Ow.WrongF fm wi l_d _)
              try have wr1 := wr.1
              try have wr2 := wr.2.1
              refine ⟨_, rfl, ?_⟩
              refine ⟨_, rfl, ?_⟩
              refine ⟨_, rfl, ?_⟩
              refine ⟨_, rfl, ?_⟩
              refine Or.inr (?_)
              refine ⟨_, _, _, _, _, _, rfl, (h233 _ _ (h53 _ _ (h49 _ _ (h48 _ _ (h45 _ _ (h41 _ _ (h40 _ _ (Ow.at_new h_p_4 (h38 _ _ h34))))))))), (by first | (walk_at "o2")), (by first | (walk_at "o2")), (by first | (walk_at "o2")), (by first | (walk_at "o2")), (by first | (walk_at "o2")), (by first | (walk_at "o2")), fun x1_2 x2_2 x3 s1 a2_8 c2_8 h234 h235 h236 h237 h238 h239 p_8 l1_2 t0_2 d0_2 l2 Hn_65 h240 h241 h242 h243 h244 h245 h246 h247 h248 h249 h250 h251 h252 h253 h254 => ?_⟩
              refine ⟨_, rfl, ⟨_, (SqL.of h247)⟩, ?_⟩
              refine for_list (K := K) (a := p_8) (xs := [.non, .bl (true), .bl (false), .int (-1), .int (2 ^ wi.toNat), .int (2 ^ wi.toNat - 1), .int (0), .int (1), .int (l_d), .str ("1"), .ref l1_2, .ref t0_2, .ref d0_2, .int (x1_2), .int (x2_2), .int (l_word), .int (l_word - 1), .int (l_word + 1), .int (x3), .int (l_word + l_d), .str (s1), .ref l2]) (fun ixv σ2 H2 => ∃ (a9 : Int) (c9 : Int) (v_8 : Option V) (v_10 : Option V) (v_11 : Option V), σ2 = [some (.ref box), some (.int (wi)), some (.int (l_d)), some (.ref p), some (.ref p_2), some (.ref o), some (.int (wi_2)), some (.int (dv)), v_8, some (.int (l_word)), v_10, v_11] ∧ Ow.Fm box H H2 ∧ H2 box = some (.lst [.int (a9), .int (c9)]) ∧ H2 p = some (.tup (Ow.tl_Form fm)) ∧ H2 p_2 = some (.tup [.int (Ow.nE fm), .int (Ow.nF fm wi), .int (Ow.nA fm), .int (Ow.nT fm wi)]) ∧ H2 o = some (.ins (Ow.cls_Form T ((Ow.kn_Form fm))) dx (Ow.fl_Form fm)) ∧ H2 p_8 = some (.lst [.non, .bl (true), .bl (false), .int (-1), .int (2 ^ wi.toNat), .int (2 ^ wi.toNat - 1), .int (0), .int (1), .int (l_d), .str ("1"), .ref l1_2, .ref t0_2, .ref d0_2, .int (x1_2), .int (x2_2), .int (l_word), .int (l_word - 1), .int (l_word + 1), .int (x3), .int (l_word + l_d), .str (s1), .ref l2]) ∧ H2 l1_2 = some (.lst [.int (1)]) ∧ H2 t0_2 = some (.tup [.int (0)]) ∧ H2 d0_2 = some (.dK []) ∧ H2 l2 = some (.lst [.int (l_word)]) ∧ True) ⟨_, _, _, _, _, rfl, ((((((((((((((((Ow.Fm.refl.trans h10).mut).trans h18).same h22).same h25).trans h33).same h38).same (Ow.same_new h_p_4)).same h40).same h41).same h45).same h48).same h49).same h53).same h233).trans h240), h241, (Ow.at_fmT h240 (h233 _ _ (h53 _ _ (h49 _ _ (h48 _ _ (h45 _ _ (h41 _ _ (h40 _ _ (Ow.at_new h_p_4 (h38 _ _ h34))))))))) (h233 _ _ (h53 _ _ (h49 _ _ (h48 _ _ (h45 _ _ (h41 _ _ (h40 _ _ (Ow.at_new h_p_4 (h38 _ _ (Ow.at_fmT h33 (h25 _ _ (h22 _ _ h19)) (h25 _ _ (h22 _ _ h21))))))))))))), (Ow.at_fmT h240 (h233 _ _ (h53 _ _ (h49 _ _ (h48 _ _ (h45 _ _ (h41 _ _ (h40 _ _ (Ow.at_new h_p_4 (h38 _ _ h34))))))))) (h233 _ _ (h53 _ _ (h49 _ _ (h48 _ _ (h45 _ _ (h41 _ _ (h40 _ _ (Ow.at_new h_p_4 (h38 _ _ (Ow.at_fmT h33 (h25 _ _ (h22 _ _ h19)) (h25 _ _ h24)))))))))))), (h240 _ _ (Ow.ne_sym (ne_of_none (h22 _ _ h19) h26)) (h233 _ _ (h53 _ _ (h49 _ _ (h48 _ _ (h45 _ _ (h41 _ _ (h40 _ _ (Ow.at_new h_p_4 (h38 _ _ (h33 _ _ (Ow.ne_sym (ne_of_none (h22 _ _ h19) h26)) h27))))))))))), h247, h248, h249, h250, h251, trivial⟩ (fun i σ2 H2 _ hz => ?_) ?_ ?_
              · obtain ⟨a9_5, c9_5, _, _, _, rfl, h255, h256, h257, h258, h259, h260, h261, h262, h263, h264, _⟩ := hz
                exact (SqL.of h260)
              · rintro i_2 xit _ Hn_66 h265 ⟨a9_6, c9_6, _, _, _, rfl, h266, h267, h268, h269, h270, h271, h272, h273, h274, h275, _⟩
                have h265 := List.mem_of_getElem? h265
                simp only [List.mem_cons, List.not_mem_nil, or_false] at h265
                rcases h265 with rfl | rfl | rfl | rfl | rfl | rfl | rfl | rfl | rfl | rfl | rfl | rfl | rfl | rfl | rfl | rfl | rfl | rfl | rfl | rfl | rfl | rfl
                · refine ⟨_, rfl, ?_⟩
                  refine ⟨_, rfl, rfl, (by first | (walk_at "o2")), fun B_18 h_B_18 h0_B_18 => ?_⟩
                  refine ⟨_, _, rfl, rfl, ?_⟩
                  refine ⟨_, rfl, ?_⟩
                  refine ⟨_, rfl, ?_⟩
                  refine ⟨_, rfl, ?_⟩
                  refine Or.inl ?_
                  refine ⟨_, _, _, _, _, _, _, rfl, (by first | (walk_at "o2")), (by first | (walk_at "o2")), (by first | (walk_at "o2")), (by first | (walk_at "o2")), h269, (by first | (walk_at "o2")), (by first | (walk_at "o2")), (by first | (walk_at "o2")), (by first | (walk_at "o2")), (by first | (walk_at "o2")), (by first | (walk_at "o2")), (by first | (walk_at "o2")), (by first | (walk_at "o2")), (by first | (walk_at "o2")), fun l_due_10 h276 Hn_67 h277 => ?_⟩
                  refine Ow.gnmS (σ' := [_, _, _, _, _, _, _, _, _, _, _, _]) rfl ?_
                  refine ⟨_, rfl, ?_⟩
                  refine ⟨_, rfl, ?_⟩
                  refine ⟨_, rfl, ?_⟩
                  refine ⟨_, rfl, ?_⟩
                  refine Or.inl ?_
                  refine ⟨_, _, _, fm, _, rfl, (by first | (walk_at "o2")), (by first | (walk_at "o2")), (by first | (walk_at "o2")), (by first | (walk_at "o2")), (h277 _ _ h270), (by first | (walk_at "o2")), (by first | (walk_at "o2")), fun l_found_10 h278 Hn_68 h279 => ?_⟩
                  refine Ow.gnmS (σ' := [_, _, _, _, _, _, _, _, _, _, _, _]) rfl ?_
                  refine ⟨_, rfl, ?_⟩
                  refine ⟨_, _, _, _, true, rfl, .ty _, .base (.bl _), kit_ty (by decide +kernel), ?_⟩
                  refine ⟨_, rfl, ?_⟩
                  refine iteF ?_
                  refine ⟨_, rfl, ?_⟩
                  refine ⟨_, rfl, ?_⟩
                  refine ⟨rfl, ?_⟩
                  refine ⟨_, rfl, ?_⟩
                  refine Ow.ifneb (fun h280 => ?_) (fun h280 => ?_)
                  · try simp only [decide_eq_true_eq, V.int.injEq] at h280
                    exact ((by (subst_vars; first | exact h280 Iff.rfl | exact h280 trivial | exact h280 (Iff.trans (by assumption : _ = true ↔ Ow.Right _ _ _) (Iff.symm (by assumption : _ = true ↔ Ow.AllR _ _ _ _ _ _))) | exact Ow.no_T h280 (by assumption) (by assumption) | exact Ow.no_a h280 (by assumption) (by assumption) | exact Ow.no_b h280 (by assumption) (by assumption) | exact Ow.no_c h280 (by assumption) (by assumption) | exact h280 (Iff.trans (by assumption : _ = true ↔ Ow.WrongF _ _ _ _) (Iff.symm (by assumption : _ = true ↔ Ow.LwR _ _ _ _ _ _ _))))) : False).elim
                  · try simp only [decide_eq_true_eq, V.int.injEq] at h280
                    refine ⟨_, rfl, ?_⟩
                    refine ⟨_, _, rfl, rfl, ?_⟩
                    refine ⟨_, rfl, ?_⟩
                    refine Ow.ifd (fun h281 => ?_) (fun h281 => ?_)
                    · refine ⟨_, rfl, ?_⟩
                      refine ⟨rfl, ?_⟩
                      refine ⟨_, rfl, ?_⟩
                      refine iteT ?_
                      refine iteT ?_
                      refine ⟨_, rfl, ?_⟩
                      refine ⟨_, rfl, ?_⟩
                      refine ⟨_, rfl, ?_⟩
                      refine ⟨_, rfl, ?_⟩
                      refine ⟨_, rfl, ?_⟩
                      refine ⟨_, _, _, _, _, _, _, rfl, (by first | (walk_at "o2")), (by first | (walk_at "o2")), (by first | (walk_at "o2")), (by first | (walk_at "o2")), (h279 _ _ (h277 _ _ h269)), (by first | (walk_at "o2")), (by first | (walk_at "o2")), (by first | (walk_at "o2")), (by first | (walk_at "o2")), (by first | (walk_at "o2")), (by first | (walk_at "o2")), (by first | (walk_at "o2")), (by first | (walk_at "o2")), (by first | (walk_at "o2")), ?_, ?_⟩
                      · refine fun h282 Hn_69 h283 => ?_
                        refine ⟨rfl, ?_⟩
                        refine ⟨rfl, ?_⟩
                        refine ⟨_, rfl, ?_⟩
                        refine Ow.ifneb (fun h284 => ?_) (fun h284 => ?_)
                        · try simp only [decide_eq_true_eq, V.int.injEq] at h284
                          exact ((by (subst_vars; first | exact h284 Iff.rfl | exact h284 trivial | exact h284 (Iff.trans (by assumption : _ = true ↔ Ow.Right _ _ _) (Iff.symm (by assumption : _ = true ↔ Ow.AllR _ _ _ _ _ _))) | exact Ow.no_T h284 (by assumption) (by assumption) | exact Ow.no_a h284 (by assumption) (by assumption) | exact Ow.no_b h284 (by assumption) (by assumption) | exact Ow.no_c h284 (by assumption) (by assumption) | exact h284 (Iff.trans (by assumption : _ = true ↔ Ow.WrongF _ _ _ _) (Iff.symm (by assumption : _ = true ↔ Ow.LwR _ _ _ _ _ _ _))))) : False).elim
                        · try simp only [decide_eq_true_eq, V.int.injEq] at h284
                          exact ⟨_, _, _, _, _, rfl, ((((Ow.Fm.refl.trans h266).same h277).same h279).same h283), (h283 _ _ (h279 _ _ (h277 _ _ h267))), (h283 _ _ (h279 _ _ (h277 _ _ h268))), (h283 _ _ (h279 _ _ (h277 _ _ h269))), (h283 _ _ (h279 _ _ (h277 _ _ h270))), (h283 _ _ (h279 _ _ (h277 _ _ h271))), (h283 _ _ (h279 _ _ (h277 _ _ h272))), (h283 _ _ (h279 _ _ (h277 _ _ h273))), (h283 _ _ (h279 _ _ (h277 _ _ h274))), (h283 _ _ (h279 _ _ (h277 _ _ h275))), trivial⟩
                      · refine fun t_17 h285 Hn_70 h286 => ?_
                        refine ⟨rfl, ?_⟩
                        refine ⟨rfl, ?_⟩
                        refine ⟨_, rfl, ?_⟩
                        refine Ow.ifneb (fun h287 => ?_) (fun h287 => ?_)
                        · try simp only [decide_eq_true_eq, V.int.injEq] at h287
                          exact ((by (subst_vars; first | exact h287 Iff.rfl | exact h287 trivial | exact h287 (Iff.trans (by assumption : _ = true ↔ Ow.Right _ _ _) (Iff.symm (by assumption : _ = true ↔ Ow.AllR _ _ _ _ _ _))) | exact Ow.no_T h287 (by assumption) (by assumption) | exact Ow.no_a h287 (by assumption) (by assumption) | exact Ow.no_b h287 (by assumption) (by assumption) | exact Ow.no_c h287 (by assumption) (by assumption) | exact h287 (Iff.trans (by assumption : _ = true ↔ Ow.WrongF _ _ _ _) (Iff.symm (by assumption : _ = true ↔ Ow.LwR _ _ _ _ _ _ _))))) : False).elim
                        · try simp only [decide_eq_true_eq, V.int.injEq] at h287
                          exact ⟨_, _, _, _, _, rfl, ((((Ow.Fm.refl.trans h266).same h277).same h279).same h286), (h286 _ _ (h279 _ _ (h277 _ _ h267))), (h286 _ _ (h279 _ _ (h277 _ _ h268))), (h286 _ _ (h279 _ _ (h277 _ _ h269))), (h286 _ _ (h279 _ _ (h277 _ _ h270))), (h286 _ _ (h279 _ _ (h277 _ _ h271))), (h286 _ _ (h279 _ _ (h277 _ _ h272))), (h286 _ _ (h279 _ _ (h277 _ _ h273))), (h286 _ _ (h279 _ _ (h277 _ _ h274))), (h286 _ _ (h279 _ _ (h277 _ _ h275))), trivial⟩
                    · refine iteF ?_
                      exact ⟨_, _, _, _, _, rfl, (((Ow.Fm.refl.trans h266).same h277).same h279), (h279 _ _ (h277 _ _ h267)), (h279 _ _ (h277 _ _ h268)), (h279 _ _ (h277 _ _ h269)), (h279 _ _ (h277 _ _ h270)), (h279 _ _ (h277 _ _ h271)), (h279 _ _ (h277 _ _ h272)), (h279 _ _ (h277 _ _ h273)), (h279 _ _ (h277 _ _ h274)), (h279 _ _ (h277 _ _ h275)), trivial⟩
                · refine ⟨_, rfl, ?_⟩
                  refine ⟨_, rfl, rfl, (by first | (walk_at "o2")), fun B_19 h_B_19 h0_B_19 => ?_⟩
                  refine ⟨_, _, rfl, rfl, ?_⟩
                  refine ⟨_, rfl, ?_⟩
                  refine ⟨_, rfl, ?_⟩
                  refine ⟨_, rfl, ?_⟩
                  refine Or.inr (Or.inr (Or.inl ?_))
                  refine ⟨_, _, _, _, _, _, _, _, rfl, (by first | (walk_at "o2")), (by first | (walk_at "o2")), (by first | (walk_at "o2")), (by first | (walk_at "o2")), h269, (by first | (walk_at "o2")), (by first | (walk_at "o2")), (by first | (walk_at "o2")), (by first | (walk_at "o2")), (by first | (walk_at "o2")), (by first | (walk_at "o2")), (by first | (walk_at "o2")), (by first | (walk_at "o2")), (by first | (walk_at "o2")), fun Hn_71 h288 => ?_⟩
                  refine Ow.gnmS (σ' := [_, _, _, _, _, _, _, _, _, _, _, _]) rfl ?_
                  refine ⟨_, rfl, ?_⟩
                  refine ⟨_, rfl, ?_⟩
                  refine ⟨_, rfl, ?_⟩
                  refine ⟨_, rfl, ?_⟩
                  refine Or.inr (Or.inr (Or.inl ?_))
                  refine ⟨_, _, _, _, fm, _, rfl, (by first | (walk_at "o2")), (by first | (walk_at "o2")), (by first | (walk_at "o2")), (by first | (walk_at "o2")), (h288 _ _ h270), (by first | (walk_at "o2")), (by first | (walk_at "o2")), fun Hn_72 h289 => ?_⟩
                  refine Ow.gnmS (σ' := [_, _, _, _, _, _, _, _, _, _, _, _]) rfl ?_
                  refine ⟨_, rfl, ?_⟩
                  refine ⟨_, _, _, _, true, rfl, .ty _, .base (.bl _), kit_ty (by decide +kernel), ?_⟩
                  refine ⟨_, rfl, ?_⟩
                  refine iteF ?_
                  refine ⟨_, rfl, ?_⟩
                  refine ⟨_, rfl, ?_⟩
                  refine ⟨rfl, ?_⟩
                  refine ⟨_, rfl, ?_⟩
                  refine Ow.ifneb (fun h290 => ?_) (fun h290 => ?_)
                  · try simp only [decide_eq_true_eq, V.int.injEq] at h290
                    exact ((by (subst_vars; first | exact h290 Iff.rfl | exact h290 trivial | exact h290 (Iff.trans (by assumption : _ = true ↔ Ow.Right _ _ _) (Iff.symm (by assumption : _ = true ↔ Ow.AllR _ _ _ _ _ _))) | exact Ow.no_T h290 (by assumption) (by assumption) | exact Ow.no_a h290 (by assumption) (by assumption) | exact Ow.no_b h290 (by assumption) (by assumption) | exact Ow.no_c h290 (by assumption) (by assumption) | exact h290 (Iff.trans (by assumption : _ = true ↔ Ow.WrongF _ _ _ _) (Iff.symm (by assumption : _ = true ↔ Ow.LwR _ _ _ _ _ _ _))))) : False).elim
                  · try simp only [decide_eq_true_eq, V.int.injEq] at h290
                    refine ⟨_, rfl, ?_⟩
                    refine ⟨_, _, rfl, rfl, ?_⟩
                    refine ⟨_, rfl, ?_⟩
                    refine Ow.ifd (fun h291 => ?_) (fun h291 => ?_)
                    · refine ⟨_, rfl, ?_⟩
                      refine ⟨rfl, ?_⟩
                      refine ⟨_, rfl, ?_⟩
                      refine iteF ?_
                      refine ⟨_, rfl, ?_⟩
                      refine Or.inr (Or.inr (Or.inl ?_))
                      refine ⟨_, rfl, ?_⟩
                      refine ⟨_, rfl, ?_⟩
                      refine iteF ?_
                      refine iteF ?_
                      exact ⟨_, _, _, _, _, rfl, (((Ow.Fm.refl.trans h266).same h288).same h289), (h289 _ _ (h288 _ _ h267)), (h289 _ _ (h288 _ _ h268)), (h289 _ _ (h288 _ _ h269)), (h289 _ _ (h288 _ _ h270)), (h289 _ _ (h288 _ _ h271)), (h289 _ _ (h288 _ _ h272)), (h289 _ _ (h288 _ _ h273)), (h289 _ _ (h288 _ _ h274)), (h289 _ _ (h288 _ _ h275)), trivial⟩
                    · refine iteF ?_
                      exact ⟨_, _, _, _, _, rfl, (((Ow.Fm.refl.trans h266).same h288).same h289), (h289 _ _ (h288 _ _ h267)), (h289 _ _ (h288 _ _ h268)), (h289 _ _ (h288 _ _ h269)), (h289 _ _ (h288 _ _ h270)), (h289 _ _ (h288 _ _ h271)), (h289 _ _ (h288 _ _ h272)), (h289 _ _ (h288 _ _ h273)), (h289 _ _ (h288 _ _ h274)), (h289 _ _ (h288 _ _ h275)), trivial⟩
                · refine ⟨_, rfl, ?_⟩
                  refine ⟨_, rfl, rfl, (by first | (walk_at "o2")), fun B_20 h_B_20 h0_B_20 => ?_⟩
                  refine ⟨_, _, rfl, rfl, ?_⟩
                  refine ⟨_, rfl, ?_⟩
                  refine ⟨_, rfl, ?_⟩
                  refine ⟨_, rfl, ?_⟩
                  refine Or.inr (Or.inr (Or.inl ?_))
                  refine ⟨_, _, _, _, _, _, _, _, rfl, (by first | (walk_at "o2")), (by first | (walk_at "o2")), (by first | (walk_at "o2")), (by first | (walk_at "o2")), h269, (by first | (walk_at "o2")), (by first | (walk_at "o2")), (by first | (walk_at "o2")), (by first | (walk_at "o2")), (by first | (walk_at "o2")), (by first | (walk_at "o2")), (by first | (walk_at "o2")), (by first | (walk_at "o2")), (by first | (walk_at "o2")), fun Hn_73 h292 => ?_⟩
                  refine Ow.gnmS (σ' := [_, _, _, _, _, _, _, _, _, _, _, _]) rfl ?_
                  refine ⟨_, rfl, ?_⟩
                  refine ⟨_, rfl, ?_⟩
                  refine ⟨_, rfl, ?_⟩
                  refine ⟨_, rfl, ?_⟩
                  refine Or.inr (Or.inr (Or.inl ?_))
                  refine ⟨_, _, _, _, fm, _, rfl, (by first | (walk_at "o2")), (by first | (walk_at "o2")), (by first | (walk_at "o2")), (by first | (walk_at "o2")), (h292 _ _ h270), (by first | (walk_at "o2")), (by first | (walk_at "o2")), fun Hn_74 h293 => ?_⟩
                  refine Ow.gnmS (σ' := [_, _, _, _, _, _, _, _, _, _, _, _]) rfl ?_
                  refine ⟨_, rfl, ?_⟩
                  refine ⟨_, _, _, _, true, rfl, .ty _, .base (.bl _), kit_ty (by decide +kernel), ?_⟩
                  refine ⟨_, rfl, ?_⟩
                  refine iteF ?_
                  refine ⟨_, rfl, ?_⟩
                  refine ⟨_, rfl, ?_⟩
                  refine ⟨rfl, ?_⟩
                  refine ⟨_, rfl, ?_⟩
                  refine Ow.ifneb (fun h294 => ?_) (fun h294 => ?_)
                  · try simp only [decide_eq_true_eq, V.int.injEq] at h294
                    exact ((by (subst_vars; first | exact h294 Iff.rfl | exact h294 trivial | exact h294 (Iff.trans (by assumption : _ = true ↔ Ow.Right _ _ _) (Iff.symm (by assumption : _ = true ↔ Ow.AllR _ _ _ _ _ _))) | exact Ow.no_T h294 (by assumption) (by assumption) | exact Ow.no_a h294 (by assumption) (by assumption) | exact Ow.no_b h294 (by assumption) (by assumption) | exact Ow.no_c h294 (by assumption) (by assumption) | exact h294 (Iff.trans (by assumption : _ = true ↔ Ow.WrongF _ _ _ _) (Iff.symm (by assumption : _ = true ↔ Ow.LwR _ _ _ _ _ _ _))))) : False).elim
                  · try simp only [decide_eq_true_eq, V.int.injEq] at h294
                    refine ⟨_, rfl, ?_⟩
                    refine ⟨_, _, rfl, rfl, ?_⟩
                    refine ⟨_, rfl, ?_⟩
                    refine Ow.ifd (fun h295 => ?_) (fun h295 => ?_)
                    · refine ⟨_, rfl, ?_⟩
                      refine ⟨rfl, ?_⟩
                      refine ⟨_, rfl, ?_⟩
                      refine iteF ?_
                      refine ⟨_, rfl, ?_⟩
                      refine Or.inr (Or.inr (Or.inl ?_))
                      refine ⟨_, rfl, ?_⟩
                      refine ⟨_, rfl, ?_⟩
                      refine iteF ?_
                      refine iteF ?_
                      exact ⟨_, _, _, _, _, rfl, (((Ow.Fm.refl.trans h266).same h292).same h293), (h293 _ _ (h292 _ _ h267)), (h293 _ _ (h292 _ _ h268)), (h293 _ _ (h292 _ _ h269)), (h293 _ _ (h292 _ _ h270)), (h293 _ _ (h292 _ _ h271)), (h293 _ _ (h292 _ _ h272)), (h293 _ _ (h292 _ _ h273)), (h293 _ _ (h292 _ _ h274)), (h293 _ _ (h292 _ _ h275)), trivial⟩
                    · refine iteF ?_
                      exact ⟨_, _, _, _, _, rfl, (((Ow.Fm.refl.trans h266).same h292).same h293), (h293 _ _ (h292 _ _ h267)), (h293 _ _ (h292 _ _ h268)), (h293 _ _ (h292 _ _ h269)), (h293 _ _ (h292 _ _ h270)), (h293 _ _ (h292 _ _ h271)), (h293 _ _ (h292 _ _ h272)), (h293 _ _ (h292 _ _ h273)), (h293 _ _ (h292 _ _ h274)), (h293 _ _ (h292 _ _ h275)), trivial⟩
                · refine ⟨_, rfl, ?_⟩
                  refine ⟨_, rfl, rfl, (by first | (walk_at "o2")), fun B_21 h_B_21 h0_B_21 => ?_⟩
                  refine ⟨_, _, rfl, rfl, ?_⟩
                  refine ⟨_, rfl, ?_⟩
                  refine ⟨_, rfl, ?_⟩
                  refine ⟨_, rfl, ?_⟩
                  refine Or.inr (Or.inl ?_)
                  refine ⟨_, _, _, _, _, _, _, _, rfl, (by first | (walk_at "o2")), (by first | (walk_at "o2")), (by first | (walk_at "o2")), (by first | (walk_at "o2")), h269, (by first | (walk_at "o2")), (by first | (walk_at "o2")), (by first | (walk_at "o2")), (by first | (walk_at "o2")), (by first | (walk_at "o2")), (by first | (walk_at "o2")), (by first | (walk_at "o2")), (by first | (walk_at "o2")), (by first | (walk_at "o2")), fun l_due_11 h296 Hn_75 h297 => ?_⟩
                  refine Ow.gnmS (σ' := [_, _, _, _, _, _, _, _, _, _, _, _]) rfl ?_
                  refine ⟨_, rfl, ?_⟩
                  refine ⟨_, rfl, ?_⟩
                  refine ⟨_, rfl, ?_⟩
                  refine ⟨_, rfl, ?_⟩
                  refine Or.inr (Or.inl ?_)
                  refine ⟨_, _, _, _, fm, _, rfl, (by first | (walk_at "o2")), (by first | (walk_at "o2")), (by first | (walk_at "o2")), (by first | (walk_at "o2")), (h297 _ _ h270), (by first | (walk_at "o2")), (by first | (walk_at "o2")), fun l_found_11 h298 Hn_76 h299 => ?_⟩
                  refine Ow.gnmS (σ' := [_, _, _, _, _, _, _, _, _, _, _, _]) rfl ?_
                  refine ⟨_, rfl, ?_⟩
                  refine ⟨_, _, _, _, true, rfl, .ty _, .base (.bl _), kit_ty (by decide +kernel), ?_⟩
                  refine ⟨_, rfl, ?_⟩
                  refine iteF ?_
                  refine ⟨_, rfl, ?_⟩
                  refine ⟨_, rfl, ?_⟩
                  refine ⟨rfl, ?_⟩
                  refine ⟨_, rfl, ?_⟩
                  refine Ow.ifneb (fun h300 => ?_) (fun h300 => ?_)
                  · try simp only [decide_eq_true_eq, V.int.injEq] at h300
                    exact ((by (subst_vars; first | exact h300 Iff.rfl | exact h300 trivial | exact h300 (Iff.trans (by assumption : _ = true ↔ Ow.Right _ _ _) (Iff.symm (by assumption : _ = true ↔ Ow.AllR _ _ _ _ _ _))) | exact Ow.no_T h300 (by assumption) (by assumption) | exact Ow.no_a h300 (by assumption) (by assumption) | exact Ow.no_b h300 (by assumption) (by assumption) | exact Ow.no_c h300 (by assumption) (by assumption) | exact h300 (Iff.trans (by assumption : _ = true ↔ Ow.WrongF _ _ _ _) (Iff.symm (by assumption : _ = true ↔ Ow.LwR _ _ _ _ _ _ _))))) : False).elim
                  · try simp only [decide_eq_true_eq, V.int.injEq] at h300
                    refine ⟨_, rfl, ?_⟩
                    refine ⟨_, _, rfl, rfl, ?_⟩
                    refine ⟨_, rfl, ?_⟩
                    refine Ow.ifd (fun h301 => ?_) (fun h301 => ?_)
                    · refine ⟨_, rfl, ?_⟩
                      refine ⟨rfl, ?_⟩
                      refine ⟨_, rfl, ?_⟩
                      refine iteF ?_
                      refine ⟨_, rfl, ?_⟩
                      refine Or.inl ?_
                      refine ⟨_, rfl, ?_⟩
                      refine ⟨_, rfl, ?_⟩
                      refine iteT ?_
                      refine ⟨_, rfl, ?_⟩
                      refine ⟨_, rfl, ?_⟩
                      refine ⟨_, rfl, ?_⟩
                      refine ⟨_, rfl, ?_⟩
                      refine ⟨_, rfl, ?_⟩
                      refine ⟨_, _, _, _, _, _, _, rfl, (by first | (walk_at "o2")), (by first | (walk_at "o2")), (by first | (walk_at "o2")), (by first | (walk_at "o2")), (h299 _ _ (h297 _ _ h269)), (by first | (walk_at "o2")), (by first | (walk_at "o2")), (by first | (walk_at "o2")), (by first | (walk_at "o2")), (by first | (walk_at "o2")), (by first | (walk_at "o2")), (by first | (walk_at "o2")), (by first | (walk_at "o2")), (by first | (walk_at "o2")), ?_, ?_⟩
                      · refine fun h302 Hn_77 h303 => ?_
                        refine ⟨rfl, ?_⟩
                        refine ⟨rfl, ?_⟩
                        refine ⟨_, rfl, ?_⟩
                        refine Ow.ifneb (fun h304 => ?_) (fun h304 => ?_)
                        · try simp only [decide_eq_true_eq, V.int.injEq] at h304
                          exact ((by (subst_vars; first | exact h304 Iff.rfl | exact h304 trivial | exact h304 (Iff.trans (by assumption : _ = true ↔ Ow.Right _ _ _) (Iff.symm (by assumption : _ = true ↔ Ow.AllR _ _ _ _ _ _))) | exact Ow.no_T h304 (by assumption) (by assumption) | exact Ow.no_a h304 (by assumption) (by assumption) | exact Ow.no_b h304 (by assumption) (by assumption) | exact Ow.no_c h304 (by assumption) (by assumption) | exact h304 (Iff.trans (by assumption : _ = true ↔ Ow.WrongF _ _ _ _) (Iff.symm (by assumption : _ = true ↔ Ow.LwR _ _ _ _ _ _ _))))) : False).elim
                        · try simp only [decide_eq_true_eq, V.int.injEq] at h304
                          exact ⟨_, _, _, _, _, rfl, ((((Ow.Fm.refl.trans h266).same h297).same h299).same h303), (h303 _ _ (h299 _ _ (h297 _ _ h267))), (h303 _ _ (h299 _ _ (h297 _ _ h268))), (h303 _ _ (h299 _ _ (h297 _ _ h269))), (h303 _ _ (h299 _ _ (h297 _ _ h270))), (h303 _ _ (h299 _ _ (h297 _ _ h271))), (h303 _ _ (h299 _ _ (h297 _ _ h272))), (h303 _ _ (h299 _ _ (h297 _ _ h273))), (h303 _ _ (h299 _ _ (h297 _ _ h274))), (h303 _ _ (h299 _ _ (h297 _ _ h275))), trivial⟩
                      · refine fun t_18 h305 Hn_78 h306 => ?_
                        refine ⟨rfl, ?_⟩
                        refine ⟨rfl, ?_⟩
                        refine ⟨_, rfl, ?_⟩
                        refine Ow.ifneb (fun h307 => ?_) (fun h307 => ?_)
                        · try simp only [decide_eq_true_eq, V.int.injEq] at h307
                          exact ((by (subst_vars; first | exact h307 Iff.rfl | exact h307 trivial | exact h307 (Iff.trans (by assumption : _ = true ↔ Ow.Right _ _ _) (Iff.symm (by assumption : _ = true ↔ Ow.AllR _ _ _ _ _ _))) | exact Ow.no_T h307 (by assumption) (by assumption) | exact Ow.no_a h307 (by assumption) (by assumption) | exact Ow.no_b h307 (by assumption) (by assumption) | exact Ow.no_c h307 (by assumption) (by assumption) | exact h307 (Iff.trans (by assumption : _ = true ↔ Ow.WrongF _ _ _ _) (Iff.symm (by assumption : _ = true ↔ Ow.LwR _ _ _ _ _ _ _))))) : False).elim
                        · try simp only [decide_eq_true_eq, V.int.injEq] at h307
                          exact ⟨_, _, _, _, _, rfl, ((((Ow.Fm.refl.trans h266).same h297).same h299).same h306), (h306 _ _ (h299 _ _ (h297 _ _ h267))), (h306 _ _ (h299 _ _ (h297 _ _ h268))), (h306 _ _ (h299 _ _ (h297 _ _ h269))), (h306 _ _ (h299 _ _ (h297 _ _ h270))), (h306 _ _ (h299 _ _ (h297 _ _ h271))), (h306 _ _ (h299 _ _ (h297 _ _ h272))), (h306 _ _ (h299 _ _ (h297 _ _ h273))), (h306 _ _ (h299 _ _ (h297 _ _ h274))), (h306 _ _ (h299 _ _ (h297 _ _ h275))), trivial⟩
                    · refine iteF ?_
                      exact ⟨_, _, _, _, _, rfl, (((Ow.Fm.refl.trans h266).same h297).same h299), (h299 _ _ (h297 _ _ h267)), (h299 _ _ (h297 _ _ h268)), (h299 _ _ (h297 _ _ h269)), (h299 _ _ (h297 _ _ h270)), (h299 _ _ (h297 _ _ h271)), (h299 _ _ (h297 _ _ h272)), (h299 _ _ (h297 _ _ h273)), (h299 _ _ (h297 _ _ h274)), (h299 _ _ (h297 _ _ h275)), trivial⟩
                · refine ⟨_, rfl, ?_⟩
                  refine ⟨_, rfl, rfl, (by first | (walk_at "o2")), fun B_22 h_B_22 h0_B_22 => ?_⟩
                  refine ⟨_, _, rfl, rfl, ?_⟩
                  refine ⟨_, rfl, ?_⟩
                  refine ⟨_, rfl, ?_⟩
                  refine ⟨_, rfl, ?_⟩
                  refine Or.inr (Or.inl ?_)
                  refine ⟨_, _, _, _, _, _, _, _, rfl, (by first | (walk_at "o2")), (by first | (walk_at "o2")), (by first | (walk_at "o2")), (by first | (walk_at "o2")), h269, (by first | (walk_at "o2")), (by first | (walk_at "o2")), (by first | (walk_at "o2")), (by first | (walk_at "o2")), (by first | (walk_at "o2")), (by first | (walk_at "o2")), (by first | (walk_at "o2")), (by first | (walk_at "o2")), (by first | (walk_at "o2")), fun l_due_12 h308 Hn_79 h309 => ?_⟩
                  refine Ow.gnmS (σ' := [_, _, _, _, _, _, _, _, _, _, _, _]) rfl ?_
                  refine ⟨_, rfl, ?_⟩
                  refine ⟨_, rfl, ?_⟩
                  refine ⟨_, rfl, ?_⟩
                  refine ⟨_, rfl, ?_⟩
                  refine Or.inr (Or.inl ?_)
                  refine ⟨_, _, _, _, fm, _, rfl, (by first | (walk_at "o2")), (by first | (walk_at "o2")), (by first | (walk_at "o2")), (by first | (walk_at "o2")), (h309 _ _ h270), (by first | (walk_at "o2")), (by first | (walk_at "o2")), fun l_found_12 h310 Hn_80 h311 => ?_⟩
                  refine Ow.gnmS (σ' := [_, _, _, _, _, _, _, _, _, _, _, _]) rfl ?_
                  refine ⟨_, rfl, ?_⟩
                  refine ⟨_, _, _, _, true, rfl, .ty _, .base (.bl _), kit_ty (by decide +kernel), ?_⟩
                  refine ⟨_, rfl, ?_⟩
                  refine iteF ?_
                  refine ⟨_, rfl, ?_⟩
                  refine ⟨_, rfl, ?_⟩
                  refine ⟨rfl, ?_⟩
                  refine ⟨_, rfl, ?_⟩
                  refine Ow.ifneb (fun h312 => ?_) (fun h312 => ?_)
                  · try simp only [decide_eq_true_eq, V.int.injEq] at h312
                    exact ((by (subst_vars; first | exact h312 Iff.rfl | exact h312 trivial | exact h312 (Iff.trans (by assumption : _ = true ↔ Ow.Right _ _ _) (Iff.symm (by assumption : _ = true ↔ Ow.AllR _ _ _ _ _ _))) | exact Ow.no_T h312 (by assumption) (by assumption) | exact Ow.no_a h312 (by assumption) (by assumption) | exact Ow.no_b h312 (by assumption) (by assumption) | exact Ow.no_c h312 (by assumption) (by assumption) | exact h312 (Iff.trans (by assumption : _ = true ↔ Ow.WrongF _ _ _ _) (Iff.symm (by assumption : _ = true ↔ Ow.LwR _ _ _ _ _ _ _))))) : False).elim
                  · try simp only [decide_eq_true_eq, V.int.injEq] at h312
                    refine ⟨_, rfl, ?_⟩
                    refine ⟨_, _, rfl, rfl, ?_⟩
                    refine ⟨_, rfl, ?_⟩
                    refine Ow.ifd (fun h313 => ?_) (fun h313 => ?_)
                    · refine ⟨_, rfl, ?_⟩
                      refine ⟨rfl, ?_⟩
                      refine ⟨_, rfl, ?_⟩
                      refine iteF ?_
                      refine ⟨_, rfl, ?_⟩
                      refine Or.inl ?_
                      refine ⟨_, rfl, ?_⟩
                      refine ⟨_, rfl, ?_⟩
                      refine iteT ?_
                      refine ⟨_, rfl, ?_⟩
                      refine ⟨_, rfl, ?_⟩
                      refine ⟨_, rfl, ?_⟩
                      refine ⟨_, rfl, ?_⟩
                      refine ⟨_, rfl, ?_⟩
                      refine ⟨_, _, _, _, _, _, _, rfl, (by first | (walk_at "o2")), (by first | (walk_at "o2")), (by first | (walk_at "o2")), (by first | (walk_at "o2")), (h311 _ _ (h309 _ _ h269)), (by first | (walk_at "o2")), (by first | (walk_at "o2")), (by first | (walk_at "o2")), (by first | (walk_at "o2")), (by first | (walk_at "o2")), (by first | (walk_at "o2")), (by first | (walk_at "o2")), (by first | (walk_at "o2")), (by first | (walk_at "o2")), ?_, ?_⟩
                      · refine fun h314 Hn_81 h315 => ?_
                        refine ⟨rfl, ?_⟩
                        refine ⟨rfl, ?_⟩
                        refine ⟨_, rfl, ?_⟩
                        refine Ow.ifneb (fun h316 => ?_) (fun h316 => ?_)
                        · try simp only [decide_eq_true_eq, V.int.injEq] at h316
                          exact ((by (subst_vars; first | exact h316 Iff.rfl | exact h316 trivial | exact h316 (Iff.trans (by assumption : _ = true ↔ Ow.Right _ _ _) (Iff.symm (by assumption : _ = true ↔ Ow.AllR _ _ _ _ _ _))) | exact Ow.no_T h316 (by assumption) (by assumption) | exact Ow.no_a h316 (by assumption) (by assumption) | exact Ow.no_b h316 (by assumption) (by assumption) | exact Ow.no_c h316 (by assumption) (by assumption) | exact h316 (Iff.trans (by assumption : _ = true ↔ Ow.WrongF _ _ _ _) (Iff.symm (by assumption : _ = true ↔ Ow.LwR _ _ _ _ _ _ _))))) : False).elim
                        · try simp only [decide_eq_true_eq, V.int.injEq] at h316
                          exact ⟨_, _, _, _, _, rfl, ((((Ow.Fm.refl.trans h266).same h309).same h311).same h315), (h315 _ _ (h311 _ _ (h309 _ _ h267))), (h315 _ _ (h311 _ _ (h309 _ _ h268))), (h315 _ _ (h311 _ _ (h309 _ _ h269))), (h315 _ _ (h311 _ _ (h309 _ _ h270))), (h315 _ _ (h311 _ _ (h309 _ _ h271))), (h315 _ _ (h311 _ _ (h309 _ _ h272))), (h315 _ _ (h311 _ _ (h309 _ _ h273))), (h315 _ _ (h311 _ _ (h309 _ _ h274))), (h315 _ _ (h311 _ _ (h309 _ _ h275))), trivial⟩
                      · refine fun t_19 h317 Hn_82 h318 => ?_
                        refine ⟨rfl, ?_⟩
                        refine ⟨rfl, ?_⟩
                        refine ⟨_, rfl, ?_⟩
                        refine Ow.ifneb (fun h319 => ?_) (fun h319 => ?_)
                        · try simp only [decide_eq_true_eq, V.int.injEq] at h319
                          exact ((by (subst_vars; first | exact h319 Iff.rfl | exact h319 trivial | exact h319 (Iff.trans (by assumption : _ = true ↔ Ow.Right _ _ _) (Iff.symm (by assumption : _ = true ↔ Ow.AllR _ _ _ _ _ _))) | exact Ow.no_T h319 (by assumption) (by assumption) | exact Ow.no_a h319 (by assumption) (by assumption) | exact Ow.no_b h319 (by assumption) (by assumption) | exact Ow.no_c h319 (by assumption) (by assumption) | exact h319 (Iff.trans (by assumption : _ = true ↔ Ow.WrongF _ _ _ _) (Iff.symm (by assumption : _ = true ↔ Ow.LwR _ _ _ _ _ _ _))))) : False).elim
                        · try simp only [decide_eq_true_eq, V.int.injEq] at h319
                          exact ⟨_, _, _, _, _, rfl, ((((Ow.Fm.refl.trans h266).same h309).same h311).same h318), (h318 _ _ (h311 _ _ (h309 _ _ h267))), (h318 _ _ (h311 _ _ (h309 _ _ h268))), (h318 _ _ (h311 _ _ (h309 _ _ h269))), (h318 _ _ (h311 _ _ (h309 _ _ h270))), (h318 _ _ (h311 _ _ (h309 _ _ h271))), (h318 _ _ (h311 _ _ (h309 _ _ h272))), (h318 _ _ (h311 _ _ (h309 _ _ h273))), (h318 _ _ (h311 _ _ (h309 _ _ h274))), (h318 _ _ (h311 _ _ (h309 _ _ h275))), trivial⟩
                    · refine iteF ?_
                      exact ⟨_, _, _, _, _, rfl, (((Ow.Fm.refl.trans h266).same h309).same h311), (h311 _ _ (h309 _ _ h267)), (h311 _ _ (h309 _ _ h268)), (h311 _ _ (h309 _ _ h269)), (h311 _ _ (h309 _ _ h270)), (h311 _ _ (h309 _ _ h271)), (h311 _ _ (h309 _ _ h272)), (h311 _ _ (h309 _ _ h273)), (h311 _ _ (h309 _ _ h274)), (h311 _ _ (h309 _ _ h275)), trivial⟩
                · refine ⟨_, rfl, ?_⟩
                  refine ⟨_, rfl, rfl, (by first | (walk_at "o2")), fun B_23 h_B_23 h0_B_23 => ?_⟩
                  refine ⟨_, _, rfl, rfl, ?_⟩
                  refine ⟨_, rfl, ?_⟩
                  refine ⟨_, rfl, ?_⟩
                  refine ⟨_, rfl, ?_⟩
                  refine Or.inr (Or.inl ?_)
                  refine ⟨_, _, _, _, _, _, _, _, rfl, (by first | (walk_at "o2")), (by first | (walk_at "o2")), (by first | (walk_at "o2")), (by first | (walk_at "o2")), h269, (by first | (walk_at "o2")), (by first | (walk_at "o2")), (by first | (walk_at "o2")), (by first | (walk_at "o2")), (by first | (walk_at "o2")), (by first | (walk_at "o2")), (by first | (walk_at "o2")), (by first | (walk_at "o2")), (by first | (walk_at "o2")), fun l_due_13 h320 Hn_83 h321 => ?_⟩
                  refine Ow.gnmS (σ' := [_, _, _, _, _, _, _, _, _, _, _, _]) rfl ?_
                  refine ⟨_, rfl, ?_⟩
                  refine ⟨_, rfl, ?_⟩
                  refine ⟨_, rfl, ?_⟩
                  refine ⟨_, rfl, ?_⟩
                  refine Or.inr (Or.inl ?_)
                  refine ⟨_, _, _, _, fm, _, rfl, (by first | (walk_at "o2")), (by first | (walk_at "o2")), (by first | (walk_at "o2")), (by first | (walk_at "o2")), (h321 _ _ h270), (by first | (walk_at "o2")), (by first | (walk_at "o2")), fun l_found_13 h322 Hn_84 h323 => ?_⟩
                  refine Ow.gnmS (σ' := [_, _, _, _, _, _, _, _, _, _, _, _]) rfl ?_
                  refine ⟨_, rfl, ?_⟩
                  refine ⟨_, _, _, _, true, rfl, .ty _, .base (.bl _), kit_ty (by decide +kernel), ?_⟩
                  refine ⟨_, rfl, ?_⟩
                  refine iteF ?_
                  refine ⟨_, rfl, ?_⟩
                  refine ⟨_, rfl, ?_⟩
                  refine ⟨rfl, ?_⟩
                  refine ⟨_, rfl, ?_⟩
                  refine Ow.ifneb (fun h324 => ?_) (fun h324 => ?_)
                  · try simp only [decide_eq_true_eq, V.int.injEq] at h324
                    exact ((by (subst_vars; first | exact h324 Iff.rfl | exact h324 trivial | exact h324 (Iff.trans (by assumption : _ = true ↔ Ow.Right _ _ _) (Iff.symm (by assumption : _ = true ↔ Ow.AllR _ _ _ _ _ _))) | exact Ow.no_T h324 (by assumption) (by assumption) | exact Ow.no_a h324 (by assumption) (by assumption) | exact Ow.no_b h324 (by assumption) (by assumption) | exact Ow.no_c h324 (by assumption) (by assumption) | exact h324 (Iff.trans (by assumption : _ = true ↔ Ow.WrongF _ _ _ _) (Iff.symm (by assumption : _ = true ↔ Ow.LwR _ _ _ _ _ _ _))))) : False).elim
                  · try simp only [decide_eq_true_eq, V.int.injEq] at h324
                    refine ⟨_, rfl, ?_⟩
                    refine ⟨_, _, rfl, rfl, ?_⟩
                    refine ⟨_, rfl, ?_⟩
                    refine Ow.ifd (fun h325 => ?_) (fun h325 => ?_)
                    · refine ⟨_, rfl, ?_⟩
                      refine ⟨rfl, ?_⟩
                      refine ⟨_, rfl, ?_⟩
                      refine iteF ?_
                      refine ⟨_, rfl, ?_⟩
                      refine Or.inl ?_
                      refine ⟨_, rfl, ?_⟩
                      refine ⟨_, rfl, ?_⟩
                      refine iteT ?_
                      refine ⟨_, rfl, ?_⟩
                      refine ⟨_, rfl, ?_⟩
                      refine ⟨_, rfl, ?_⟩
                      refine ⟨_, rfl, ?_⟩
                      refine ⟨_, rfl, ?_⟩
                      refine ⟨_, _, _, _, _, _, _, rfl, (by first | (walk_at "o2")), (by first | (walk_at "o2")), (by first | (walk_at "o2")), (by first | (walk_at "o2")), (h323 _ _ (h321 _ _ h269)), (by first | (walk_at "o2")), (by first | (walk_at "o2")), (by first | (walk_at "o2")), (by first | (walk_at "o2")), (by first | (walk_at "o2")), (by first | (walk_at "o2")), (by first | (walk_at "o2")), (by first | (walk_at "o2")), (by first | (walk_at "o2")), ?_, ?_⟩
                      · refine fun h326 Hn_85 h327 => ?_
                        refine ⟨rfl, ?_⟩
                        refine ⟨rfl, ?_⟩
                        refine ⟨_, rfl, ?_⟩
                        refine Ow.ifneb (fun h328 => ?_) (fun h328 => ?_)
                        · try simp only [decide_eq_true_eq, V.int.injEq] at h328
                          exact ((by (subst_vars; first | exact h328 Iff.rfl | exact h328 trivial | exact h328 (Iff.trans (by assumption : _ = true ↔ Ow.Right _ _ _) (Iff.symm (by assumption : _ = true ↔ Ow.AllR _ _ _ _ _ _))) | exact Ow.no_T h328 (by assumption) (by assumption) | exact Ow.no_a h328 (by assumption) (by assumption) | exact Ow.no_b h328 (by assumption) (by assumption) | exact Ow.no_c h328 (by assumption) (by assumption) | exact h328 (Iff.trans (by assumption : _ = true ↔ Ow.WrongF _ _ _ _) (Iff.symm (by assumption : _ = true ↔ Ow.LwR _ _ _ _ _ _ _))))) : False).elim
                        · try simp only [decide_eq_true_eq, V.int.injEq] at h328
                          exact ⟨_, _, _, _, _, rfl, ((((Ow.Fm.refl.trans h266).same h321).same h323).same h327), (h327 _ _ (h323 _ _ (h321 _ _ h267))), (h327 _ _ (h323 _ _ (h321 _ _ h268))), (h327 _ _ (h323 _ _ (h321 _ _ h269))), (h327 _ _ (h323 _ _ (h321 _ _ h270))), (h327 _ _ (h323 _ _ (h321 _ _ h271))), (h327 _ _ (h323 _ _ (h321 _ _ h272))), (h327 _ _ (h323 _ _ (h321 _ _ h273))), (h327 _ _ (h323 _ _ (h321 _ _ h274))), (h327 _ _ (h323 _ _ (h321 _ _ h275))), trivial⟩
                      · refine fun t_20 h329 Hn_86 h330 => ?_
                        refine ⟨rfl, ?_⟩
                        refine ⟨rfl, ?_⟩
                        refine ⟨_, rfl, ?_⟩
                        refine Ow.ifneb (fun h331 => ?_) (fun h331 => ?_)
                        · try simp only [decide_eq_true_eq, V.int.injEq] at h331
                          exact ((by (subst_vars; first | exact h331 Iff.rfl | exact h331 trivial | exact h331 (Iff.trans (by assumption : _ = true ↔ Ow.Right _ _ _) (Iff.symm (by assumption : _ = true ↔ Ow.AllR _ _ _ _ _ _))) | exact Ow.no_T h331 (by assumption) (by assumption) | exact Ow.no_a h331 (by assumption) (by assumption) | exact Ow.no_b h331 (by assumption) (by assumption) | exact Ow.no_c h331 (by assumption) (by assumption) | exact h331 (Iff.trans (by assumption : _ = true ↔ Ow.WrongF _ _ _ _) (Iff.symm (by assumption : _ = true ↔ Ow.LwR _ _ _ _ _ _ _))))) : False).elim
                        · try simp only [decide_eq_true_eq, V.int.injEq] at h331
                          exact ⟨_, _, _, _, _, rfl, ((((Ow.Fm.refl.trans h266).same h321).same h323).same h330), (h330 _ _ (h323 _ _ (h321 _ _ h267))), (h330 _ _ (h323 _ _ (h321 _ _ h268))), (h330 _ _ (h323 _ _ (h321 _ _ h269))), (h330 _ _ (h323 _ _ (h321 _ _ h270))), (h330 _ _ (h323 _ _ (h321 _ _ h271))), (h330 _ _ (h323 _ _ (h321 _ _ h272))), (h330 _ _ (h323 _ _ (h321 _ _ h273))), (h330 _ _ (h323 _ _ (h321 _ _ h274))), (h330 _ _ (h323 _ _ (h321 _ _ h275))), trivial⟩
                    · refine iteF ?_
                      exact ⟨_, _, _, _, _, rfl, (((Ow.Fm.refl.trans h266).same h321).same h323), (h323 _ _ (h321 _ _ h267)), (h323 _ _ (h321 _ _ h268)), (h323 _ _ (h321 _ _ h269)), (h323 _ _ (h321 _ _ h270)), (h323 _ _ (h321 _ _ h271)), (h323 _ _ (h321 _ _ h272)), (h323 _ _ (h321 _ _ h273)), (h323 _ _ (h321 _ _ h274)), (h323 _ _ (h321 _ _ h275)), trivial⟩
                · refine ⟨_, rfl, ?_⟩
                  refine ⟨_, rfl, rfl, (by first | (walk_at "o2")), fun B_24 h_B_24 h0_B_24 => ?_⟩
                  refine ⟨_, _, rfl, rfl, ?_⟩
                  refine ⟨_, rfl, ?_⟩
                  refine ⟨_, rfl, ?_⟩
                  refine ⟨_, rfl, ?_⟩
                  refine Or.inr (Or.inl ?_)
                  refine ⟨_, _, _, _, _, _, _, _, rfl, (by first | (walk_at "o2")), (by first | (walk_at "o2")), (by first | (walk_at "o2")), (by first | (walk_at "o2")), h269, (by first | (walk_at "o2")), (by first | (walk_at "o2")), (by first | (walk_at "o2")), (by first | (walk_at "o2")), (by first | (walk_at "o2")), (by first | (walk_at "o2")), (by first | (walk_at "o2")), (by first | (walk_at "o2")), (by first | (walk_at "o2")), fun l_due_14 h332 Hn_87 h333 => ?_⟩
                  refine Ow.gnmS (σ' := [_, _, _, _, _, _, _, _, _, _, _, _]) rfl ?_
                  refine ⟨_, rfl, ?_⟩
                  refine ⟨_, rfl, ?_⟩
                  refine ⟨_, rfl, ?_⟩
                  refine ⟨_, rfl, ?_⟩
                  refine Or.inr (Or.inl ?_)
                  refine ⟨_, _, _, _, fm, _, rfl, (by first | (walk_at "o2")), (by first | (walk_at "o2")), (by first | (walk_at "o2")), (by first | (walk_at "o2")), (h333 _ _ h270), (by first | (walk_at "o2")), (by first | (walk_at "o2")), fun l_found_14 h334 Hn_88 h335 => ?_⟩
                  refine Ow.gnmS (σ' := [_, _, _, _, _, _, _, _, _, _, _, _]) rfl ?_
                  refine ⟨_, rfl, ?_⟩
                  refine ⟨_, _, _, _, true, rfl, .ty _, .base (.bl _), kit_ty (by decide +kernel), ?_⟩
                  refine ⟨_, rfl, ?_⟩
                  refine iteF ?_
                  refine ⟨_, rfl, ?_⟩
                  refine ⟨_, rfl, ?_⟩
                  refine ⟨rfl, ?_⟩
                  refine ⟨_, rfl, ?_⟩
                  refine Ow.ifneb (fun h336 => ?_) (fun h336 => ?_)
                  · try simp only [decide_eq_true_eq, V.int.injEq] at h336
                    exact ((by (subst_vars; first | exact h336 Iff.rfl | exact h336 trivial | exact h336 (Iff.trans (by assumption : _ = true ↔ Ow.Right _ _ _) (Iff.symm (by assumption : _ = true ↔ Ow.AllR _ _ _ _ _ _))) | exact Ow.no_T h336 (by assumption) (by assumption) | exact Ow.no_a h336 (by assumption) (by assumption) | exact Ow.no_b h336 (by assumption) (by assumption) | exact Ow.no_c h336 (by assumption) (by assumption) | exact h336 (Iff.trans (by assumption : _ = true ↔ Ow.WrongF _ _ _ _) (Iff.symm (by assumption : _ = true ↔ Ow.LwR _ _ _ _ _ _ _))))) : False).elim
                  · try simp only [decide_eq_true_eq, V.int.injEq] at h336
                    refine ⟨_, rfl, ?_⟩
                    refine ⟨_, _, rfl, rfl, ?_⟩
                    refine ⟨_, rfl, ?_⟩
                    refine Ow.ifd (fun h337 => ?_) (fun h337 => ?_)
                    · refine ⟨_, rfl, ?_⟩
                      refine ⟨rfl, ?_⟩
                      refine ⟨_, rfl, ?_⟩
                      refine iteF ?_
                      refine ⟨_, rfl, ?_⟩
                      refine Or.inl ?_
                      refine ⟨_, rfl, ?_⟩
                      refine ⟨_, rfl, ?_⟩
                      refine iteT ?_
                      refine ⟨_, rfl, ?_⟩
                      refine ⟨_, rfl, ?_⟩
                      refine ⟨_, rfl, ?_⟩
                      refine ⟨_, rfl, ?_⟩
                      refine ⟨_, rfl, ?_⟩
                      refine ⟨_, _, _, _, _, _, _, rfl, (by first | (walk_at "o2")), (by first | (walk_at "o2")), (by first | (walk_at "o2")), (by first | (walk_at "o2")), (h335 _ _ (h333 _ _ h269)), (by first | (walk_at "o2")), (by first | (walk_at "o2")), (by first | (walk_at "o2")), (by first | (walk_at "o2")), (by first | (walk_at "o2")), (by first | (walk_at "o2")), (by first | (walk_at "o2")), (by first | (walk_at "o2")), (by first | (walk_at "o2")), ?_, ?_⟩
                      · refine fun h338 Hn_89 h339 => ?_
                        refine ⟨rfl, ?_⟩
                        refine ⟨rfl, ?_⟩
                        refine ⟨_, rfl, ?_⟩
                        refine Ow.ifneb (fun h340 => ?_) (fun h340 => ?_)
                        · try simp only [decide_eq_true_eq, V.int.injEq] at h340
                          exact ((by (subst_vars; first | exact h340 Iff.rfl | exact h340 trivial | exact h340 (Iff.trans (by assumption : _ = true ↔ Ow.Right _ _ _) (Iff.symm (by assumption : _ = true ↔ Ow.AllR _ _ _ _ _ _))) | exact Ow.no_T h340 (by assumption) (by assumption) | exact Ow.no_a h340 (by assumption) (by assumption) | exact Ow.no_b h340 (by assumption) (by assumption) | exact Ow.no_c h340 (by assumption) (by assumption) | exact h340 (Iff.trans (by assumption : _ = true ↔ Ow.WrongF _ _ _ _) (Iff.symm (by assumption : _ = true ↔ Ow.LwR _ _ _ _ _ _ _))))) : False).elim
                        · try simp only [decide_eq_true_eq, V.int.injEq] at h340
                          exact ⟨_, _, _, _, _, rfl, ((((Ow.Fm.refl.trans h266).same h333).same h335).same h339), (h339 _ _ (h335 _ _ (h333 _ _ h267))), (h339 _ _ (h335 _ _ (h333 _ _ h268))), (h339 _ _ (h335 _ _ (h333 _ _ h269))), (h339 _ _ (h335 _ _ (h333 _ _ h270))), (h339 _ _ (h335 _ _ (h333 _ _ h271))), (h339 _ _ (h335 _ _ (h333 _ _ h272))), (h339 _ _ (h335 _ _ (h333 _ _ h273))), (h339 _ _ (h335 _ _ (h333 _ _ h274))), (h339 _ _ (h335 _ _ (h333 _ _ h275))), trivial⟩
                      · refine fun t_21 h341 Hn_90 h342 => ?_
                        refine ⟨rfl, ?_⟩
                        refine ⟨rfl, ?_⟩
                        refine ⟨_, rfl, ?_⟩
                        refine Ow.ifneb (fun h343 => ?_) (fun h343 => ?_)
                        · try simp only [decide_eq_true_eq, V.int.injEq] at h343
                          exact ((by (subst_vars; first | exact h343 Iff.rfl | exact h343 trivial | exact h343 (Iff.trans (by assumption : _ = true ↔ Ow.Right _ _ _) (Iff.symm (by assumption : _ = true ↔ Ow.AllR _ _ _ _ _ _))) | exact Ow.no_T h343 (by assumption) (by assumption) | exact Ow.no_a h343 (by assumption) (by assumption) | exact Ow.no_b h343 (by assumption) (by assumption) | exact Ow.no_c h343 (by assumption) (by assumption) | exact h343 (Iff.trans (by assumption : _ = true ↔ Ow.WrongF _ _ _ _) (Iff.symm (by assumption : _ = true ↔ Ow.LwR _ _ _ _ _ _ _))))) : False).elim
                        · try simp only [decide_eq_true_eq, V.int.injEq] at h343
                          exact ⟨_, _, _, _, _, rfl, ((((Ow.Fm.refl.trans h266).same h333).same h335).same h342), (h342 _ _ (h335 _ _ (h333 _ _ h267))), (h342 _ _ (h335 _ _ (h333 _ _ h268))), (h342 _ _ (h335 _ _ (h333 _ _ h269))), (h342 _ _ (h335 _ _ (h333 _ _ h270))), (h342 _ _ (h335 _ _ (h333 _ _ h271))), (h342 _ _ (h335 _ _ (h333 _ _ h272))), (h342 _ _ (h335 _ _ (h333 _ _ h273))), (h342 _ _ (h335 _ _ (h333 _ _ h274))), (h342 _ _ (h335 _ _ (h333 _ _ h275))), trivial⟩
                    · refine iteF ?_
                      exact ⟨_, _, _, _, _, rfl, (((Ow.Fm.refl.trans h266).same h333).same h335), (h335 _ _ (h333 _ _ h267)), (h335 _ _ (h333 _ _ h268)), (h335 _ _ (h333 _ _ h269)), (h335 _ _ (h333 _ _ h270)), (h335 _ _ (h333 _ _ h271)), (h335 _ _ (h333 _ _ h272)), (h335 _ _ (h333 _ _ h273)), (h335 _ _ (h333 _ _ h274)), (h335 _ _ (h333 _ _ h275)), trivial⟩
                · refine ⟨_, rfl, ?_⟩
                  refine ⟨_, rfl, rfl, (by first | (walk_at "o2")), fun B_25 h_B_25 h0_B_25 => ?_⟩
                  refine ⟨_, _, rfl, rfl, ?_⟩
                  refine ⟨_, rfl, ?_⟩
                  refine ⟨_, rfl, ?_⟩
                  refine ⟨_, rfl, ?_⟩
                  refine Or.inr (Or.inl ?_)
                  refine ⟨_, _, _, _, _, _, _, _, rfl, (by first | (walk_at "o2")), (by first | (walk_at "o2")), (by first | (walk_at "o2")), (by first | (walk_at "o2")), h269, (by first | (walk_at "o2")), (by first | (walk_at "o2")), (by first | (walk_at "o2")), (by first | (walk_at "o2")), (by first | (walk_at "o2")), (by first | (walk_at "o2")), (by first | (walk_at "o2")), (by first | (walk_at "o2")), (by first | (walk_at "o2")), fun l_due_15 h344 Hn_91 h345 => ?_⟩
                  refine Ow.gnmS (σ' := [_, _, _, _, _, _, _, _, _, _, _, _]) rfl ?_
                  refine ⟨_, rfl, ?_⟩
                  refine ⟨_, rfl, ?_⟩
                  refine ⟨_, rfl, ?_⟩
                  refine ⟨_, rfl, ?_⟩
                  refine Or.inr (Or.inl ?_)
                  refine ⟨_, _, _, _, fm, _, rfl, (by first | (walk_at "o2")), (by first | (walk_at "o2")), (by first | (walk_at "o2")), (by first | (walk_at "o2")), (h345 _ _ h270), (by first | (walk_at "o2")), (by first | (walk_at "o2")), fun l_found_15 h346 Hn_92 h347 => ?_⟩
                  refine Ow.gnmS (σ' := [_, _, _, _, _, _, _, _, _, _, _, _]) rfl ?_
                  refine ⟨_, rfl, ?_⟩
                  refine ⟨_, _, _, _, true, rfl, .ty _, .base (.bl _), kit_ty (by decide +kernel), ?_⟩
                  refine ⟨_, rfl, ?_⟩
                  refine iteF ?_
                  refine ⟨_, rfl, ?_⟩
                  refine ⟨_, rfl, ?_⟩
                  refine ⟨rfl, ?_⟩
                  refine ⟨_, rfl, ?_⟩
                  refine Ow.ifneb (fun h348 => ?_) (fun h348 => ?_)
                  · try simp only [decide_eq_true_eq, V.int.injEq] at h348
                    exact ((by (subst_vars; first | exact h348 Iff.rfl | exact h348 trivial | exact h348 (Iff.trans (by assumption : _ = true ↔ Ow.Right _ _ _) (Iff.symm (by assumption : _ = true ↔ Ow.AllR _ _ _ _ _ _))) | exact Ow.no_T h348 (by assumption) (by assumption) | exact Ow.no_a h348 (by assumption) (by assumption) | exact Ow.no_b h348 (by assumption) (by assumption) | exact Ow.no_c h348 (by assumption) (by assumption) | exact h348 (Iff.trans (by assumption : _ = true ↔ Ow.WrongF _ _ _ _) (Iff.symm (by assumption : _ = true ↔ Ow.LwR _ _ _ _ _ _ _))))) : False).elim
                  · try simp only [decide_eq_true_eq, V.int.injEq] at h348
                    refine ⟨_, rfl, ?_⟩
                    refine ⟨_, _, rfl, rfl, ?_⟩
                    refine ⟨_, rfl, ?_⟩
                    refine Ow.ifd (fun h349 => ?_) (fun h349 => ?_)
                    · refine ⟨_, rfl, ?_⟩
                      refine ⟨rfl, ?_⟩
                      refine ⟨_, rfl, ?_⟩
                      refine iteF ?_
                      refine ⟨_, rfl, ?_⟩
                      refine Or.inl ?_
                      refine ⟨_, rfl, ?_⟩
                      refine ⟨_, rfl, ?_⟩
                      refine iteT ?_
                      refine ⟨_, rfl, ?_⟩
                      refine ⟨_, rfl, ?_⟩
                      refine ⟨_, rfl, ?_⟩
                      refine ⟨_, rfl, ?_⟩
                      refine ⟨_, rfl, ?_⟩
                      refine ⟨_, _, _, _, _, _, _, rfl, (by first | (walk_at "o2")), (by first | (walk_at "o2")), (by first | (walk_at "o2")), (by first | (walk_at "o2")), (h347 _ _ (h345 _ _ h269)), (by first | (walk_at "o2")), (by first | (walk_at "o2")), (by first | (walk_at "o2")), (by first | (walk_at "o2")), (by first | (walk_at "o2")), (by first | (walk_at "o2")), (by first | (walk_at "o2")), (by first | (walk_at "o2")), (by first | (walk_at "o2")), ?_, ?_⟩
                      · refine fun h350 Hn_93 h351 => ?_
                        refine ⟨rfl, ?_⟩
                        refine ⟨rfl, ?_⟩
                        refine ⟨_, rfl, ?_⟩
                        refine Ow.ifneb (fun h352 => ?_) (fun h352 => ?_)
                        · try simp only [decide_eq_true_eq, V.int.injEq] at h352
                          exact ((by (subst_vars; first | exact h352 Iff.rfl | exact h352 trivial | exact h352 (Iff.trans (by assumption : _ = true ↔ Ow.Right _ _ _) (Iff.symm (by assumption : _ = true ↔ Ow.AllR _ _ _ _ _ _))) | exact Ow.no_T h352 (by assumption) (by assumption) | exact Ow.no_a h352 (by assumption) (by assumption) | exact Ow.no_b h352 (by assumption) (by assumption) | exact Ow.no_c h352 (by assumption) (by assumption) | exact h352 (Iff.trans (by assumption : _ = true ↔ Ow.WrongF _ _ _ _) (Iff.symm (by assumption : _ = true ↔ Ow.LwR _ _ _ _ _ _ _))))) : False).elim
                        · try simp only [decide_eq_true_eq, V.int.injEq] at h352
                          exact ⟨_, _, _, _, _, rfl, ((((Ow.Fm.refl.trans h266).same h345).same h347).same h351), (h351 _ _ (h347 _ _ (h345 _ _ h267))), (h351 _ _ (h347 _ _ (h345 _ _ h268))), (h351 _ _ (h347 _ _ (h345 _ _ h269))), (h351 _ _ (h347 _ _ (h345 _ _ h270))), (h351 _ _ (h347 _ _ (h345 _ _ h271))), (h351 _ _ (h347 _ _ (h345 _ _ h272))), (h351 _ _ (h347 _ _ (h345 _ _ h273))), (h351 _ _ (h347 _ _ (h345 _ _ h274))), (h351 _ _ (h347 _ _ (h345 _ _ h275))), trivial⟩
                      · refine fun t_22 h353 Hn_94 h354 => ?_
                        refine ⟨rfl, ?_⟩
                        refine ⟨rfl, ?_⟩
                        refine ⟨_, rfl, ?_⟩
                        refine Ow.ifneb (fun h355 => ?_) (fun h355 => ?_)
                        · try simp only [decide_eq_true_eq, V.int.injEq] at h355
                          exact ((by (subst_vars; first | exact h355 Iff.rfl | exact h355 trivial | exact h355 (Iff.trans (by assumption : _ = true ↔ Ow.Right _ _ _) (Iff.symm (by assumption : _ = true ↔ Ow.AllR _ _ _ _ _ _))) | exact Ow.no_T h355 (by assumption) (by assumption) | exact Ow.no_a h355 (by assumption) (by assumption) | exact Ow.no_b h355 (by assumption) (by assumption) | exact Ow.no_c h355 (by assumption) (by assumption) | exact h355 (Iff.trans (by assumption : _ = true ↔ Ow.WrongF _ _ _ _) (Iff.symm (by assumption : _ = true ↔ Ow.LwR _ _ _ _ _ _ _))))) : False).elim
                        · try simp only [decide_eq_true_eq, V.int.injEq] at h355
                          exact ⟨_, _, _, _, _, rfl, ((((Ow.Fm.refl.trans h266).same h345).same h347).same h354), (h354 _ _ (h347 _ _ (h345 _ _ h267))), (h354 _ _ (h347 _ _ (h345 _ _ h268))), (h354 _ _ (h347 _ _ (h345 _ _ h269))), (h354 _ _ (h347 _ _ (h345 _ _ h270))), (h354 _ _ (h347 _ _ (h345 _ _ h271))), (h354 _ _ (h347 _ _ (h345 _ _ h272))), (h354 _ _ (h347 _ _ (h345 _ _ h273))), (h354 _ _ (h347 _ _ (h345 _ _ h274))), (h354 _ _ (h347 _ _ (h345 _ _ h275))), trivial⟩
                    · refine iteF ?_
                      exact ⟨_, _, _, _, _, rfl, (((Ow.Fm.refl.trans h266).same h345).same h347), (h347 _ _ (h345 _ _ h267)), (h347 _ _ (h345 _ _ h268)), (h347 _ _ (h345 _ _ h269)), (h347 _ _ (h345 _ _ h270)), (h347 _ _ (h345 _ _ h271)), (h347 _ _ (h345 _ _ h272)), (h347 _ _ (h345 _ _ h273)), (h347 _ _ (h345 _ _ h274)), (h347 _ _ (h345 _ _ h275)), trivial⟩
                · refine ⟨_, rfl, ?_⟩
                  refine ⟨_, rfl, rfl, (by first | (walk_at "o2")), fun B_26 h_B_26 h0_B_26 => ?_⟩
                  refine ⟨_, _, rfl, rfl, ?_⟩
                  refine ⟨_, rfl, ?_⟩
                  refine ⟨_, rfl, ?_⟩
                  refine ⟨_, rfl, ?_⟩
                  refine Or.inr (Or.inl ?_)
                  refine ⟨_, _, _, _, _, _, _, _, rfl, (by first | (walk_at "o2")), (by first | (walk_at "o2")), (by first | (walk_at "o2")), (by first | (walk_at "o2")), h269, (by first | (walk_at "o2")), (by first | (walk_at "o2")), (by first | (walk_at "o2")), (by first | (walk_at "o2")), (by first | (walk_at "o2")), (by first | (walk_at "o2")), (by first | (walk_at "o2")), (by first | (walk_at "o2")), (by first | (walk_at "o2")), fun l_due_16 h356 Hn_95 h357 => ?_⟩
                  refine Ow.gnmS (σ' := [_, _, _, _, _, _, _, _, _, _, _, _]) rfl ?_
                  refine ⟨_, rfl, ?_⟩
                  refine ⟨_, rfl, ?_⟩
                  refine ⟨_, rfl, ?_⟩
                  refine ⟨_, rfl, ?_⟩
                  refine Or.inr (Or.inl ?_)
                  refine ⟨_, _, _, _, fm, _, rfl, (by first | (walk_at "o2")), (by first | (walk_at "o2")), (by first | (walk_at "o2")), (by first | (walk_at "o2")), (h357 _ _ h270), (by first | (walk_at "o2")), (by first | (walk_at "o2")), fun l_found_16 h358 Hn_96 h359 => ?_⟩
                  refine Ow.gnmS (σ' := [_, _, _, _, _, _, _, _, _, _, _, _]) rfl ?_
                  refine ⟨_, rfl, ?_⟩
                  refine ⟨_, _, _, _, true, rfl, .ty _, .base (.bl _), kit_ty (by decide +kernel), ?_⟩
                  refine ⟨_, rfl, ?_⟩
                  refine iteF ?_
                  refine ⟨_, rfl, ?_⟩
                  refine ⟨_, rfl, ?_⟩
                  refine ⟨rfl, ?_⟩
                  refine ⟨_, rfl, ?_⟩
                  refine Ow.ifneb (fun h360 => ?_) (fun h360 => ?_)
                  · try simp only [decide_eq_true_eq, V.int.injEq] at h360
                    exact ((by (subst_vars; first | exact h360 Iff.rfl | exact h360 trivial | exact h360 (Iff.trans (by assumption : _ = true ↔ Ow.Right _ _ _) (Iff.symm (by assumption : _ = true ↔ Ow.AllR _ _ _ _ _ _))) | exact Ow.no_T h360 (by assumption) (by assumption) | exact Ow.no_a h360 (by assumption) (by assumption) | exact Ow.no_b h360 (by assumption) (by assumption) | exact Ow.no_c h360 (by assumption) (by assumption) | exact h360 (Iff.trans (by assumption : _ = true ↔ Ow.WrongF _ _ _ _) (Iff.symm (by assumption : _ = true ↔ Ow.LwR _ _ _ _ _ _ _))))) : False).elim
                  · try simp only [decide_eq_true_eq, V.int.injEq] at h360
                    refine ⟨_, rfl, ?_⟩
                    refine ⟨_, _, rfl, rfl, ?_⟩
                    refine ⟨_, rfl, ?_⟩
                    refine Ow.ifd (fun h361 => ?_) (fun h361 => ?_)
                    · refine ⟨_, rfl, ?_⟩
                      refine ⟨rfl, ?_⟩
                      refine ⟨_, rfl, ?_⟩
                      refine iteF ?_
                      refine ⟨_, rfl, ?_⟩
                      refine Or.inl ?_
                      refine ⟨_, rfl, ?_⟩
                      refine ⟨_, rfl, ?_⟩
                      refine iteT ?_
                      refine ⟨_, rfl, ?_⟩
                      refine ⟨_, rfl, ?_⟩
                      refine ⟨_, rfl, ?_⟩
                      refine ⟨_, rfl, ?_⟩
                      refine ⟨_, rfl, ?_⟩
                      refine ⟨_, _, _, _, _, _, _, rfl, (by first | (walk_at "o2")), (by first | (walk_at "o2")), (by first | (walk_at "o2")), (by first | (walk_at "o2")), (h359 _ _ (h357 _ _ h269)), (by first | (walk_at "o2")), (by first | (walk_at "o2")), (by first | (walk_at "o2")), (by first | (walk_at "o2")), (by first | (walk_at "o2")), (by first | (walk_at "o2")), (by first | (walk_at "o2")), (by first | (walk_at "o2")), (by first | (walk_at "o2")), ?_, ?_⟩
                      · refine fun h362 Hn_97 h363 => ?_
                        refine ⟨rfl, ?_⟩
                        refine ⟨rfl, ?_⟩
                        refine ⟨_, rfl, ?_⟩
                        refine Ow.ifneb (fun h364 => ?_) (fun h364 => ?_)
                        · try simp only [decide_eq_true_eq, V.int.injEq] at h364
                          exact ((by (subst_vars; first | exact h364 Iff.rfl | exact h364 trivial | exact h364 (Iff.trans (by assumption : _ = true ↔ Ow.Right _ _ _) (Iff.symm (by assumption : _ = true ↔ Ow.AllR _ _ _ _ _ _))) | exact Ow.no_T h364 (by assumption) (by assumption) | exact Ow.no_a h364 (by assumption) (by assumption) | exact Ow.no_b h364 (by assumption) (by assumption) | exact Ow.no_c h364 (by assumption) (by assumption) | exact h364 (Iff.trans (by assumption : _ = true ↔ Ow.WrongF _ _ _ _) (Iff.symm (by assumption : _ = true ↔ Ow.LwR _ _ _ _ _ _ _))))) : False).elim
                        · try simp only [decide_eq_true_eq, V.int.injEq] at h364
                          exact ⟨_, _, _, _, _, rfl, ((((Ow.Fm.refl.trans h266).same h357).same h359).same h363), (h363 _ _ (h359 _ _ (h357 _ _ h267))), (h363 _ _ (h359 _ _ (h357 _ _ h268))), (h363 _ _ (h359 _ _ (h357 _ _ h269))), (h363 _ _ (h359 _ _ (h357 _ _ h270))), (h363 _ _ (h359 _ _ (h357 _ _ h271))), (h363 _ _ (h359 _ _ (h357 _ _ h272))), (h363 _ _ (h359 _ _ (h357 _ _ h273))), (h363 _ _ (h359 _ _ (h357 _ _ h274))), (h363 _ _ (h359 _ _ (h357 _ _ h275))), trivial⟩
                      · refine fun t_23 h365 Hn_98 h366 => ?_
                        refine ⟨rfl, ?_⟩
                        refine ⟨rfl, ?_⟩
                        refine ⟨_, rfl, ?_⟩
                        refine Ow.ifneb (fun h367 => ?_) (fun h367 => ?_)
                        · try simp only [decide_eq_true_eq, V.int.injEq] at h367
                          exact ((by (subst_vars; first | exact h367 Iff.rfl | exact h367 trivial | exact h367 (Iff.trans (by assumption : _ = true ↔ Ow.Right _ _ _) (Iff.symm (by assumption : _ = true ↔ Ow.AllR _ _ _ _ _ _))) | exact Ow.no_T h367 (by assumption) (by assumption) | exact Ow.no_a h367 (by assumption) (by assumption) | exact Ow.no_b h367 (by assumption) (by assumption) | exact Ow.no_c h367 (by assumption) (by assumption) | exact h367 (Iff.trans (by assumption : _ = true ↔ Ow.WrongF _ _ _ _) (Iff.symm (by assumption : _ = true ↔ Ow.LwR _ _ _ _ _ _ _))))) : False).elim
                        · try simp only [decide_eq_true_eq, V.int.injEq] at h367
                          exact ⟨_, _, _, _, _, rfl, ((((Ow.Fm.refl.trans h266).same h357).same h359).same h366), (h366 _ _ (h359 _ _ (h357 _ _ h267))), (h366 _ _ (h359 _ _ (h357 _ _ h268))), (h366 _ _ (h359 _ _ (h357 _ _ h269))), (h366 _ _ (h359 _ _ (h357 _ _ h270))), (h366 _ _ (h359 _ _ (h357 _ _ h271))), (h366 _ _ (h359 _ _ (h357 _ _ h272))), (h366 _ _ (h359 _ _ (h357 _ _ h273))), (h366 _ _ (h359 _ _ (h357 _ _ h274))), (h366 _ _ (h359 _ _ (h357 _ _ h275))), trivial⟩
                    · refine iteF ?_
                      exact ⟨_, _, _, _, _, rfl, (((Ow.Fm.refl.trans h266).same h357).same h359), (h359 _ _ (h357 _ _ h267)), (h359 _ _ (h357 _ _ h268)), (h359 _ _ (h357 _ _ h269)), (h359 _ _ (h357 _ _ h270)), (h359 _ _ (h357 _ _ h271)), (h359 _ _ (h357 _ _ h272)), (h359 _ _ (h357 _ _ h273)), (h359 _ _ (h357 _ _ h274)), (h359 _ _ (h357 _ _ h275)), trivial⟩
                · refine ⟨_, rfl, ?_⟩
                  refine ⟨_, rfl, rfl, (by first | (walk_at "o2")), fun B_27 h_B_27 h0_B_27 => ?_⟩
                  refine ⟨_, _, rfl, rfl, ?_⟩
                  refine ⟨_, rfl, ?_⟩
                  refine ⟨_, rfl, ?_⟩
                  refine ⟨_, rfl, ?_⟩
                  refine Or.inr (Or.inr (Or.inr (Or.inl ?_)))
                  refine ⟨_, _, _, _, _, _, _, _, rfl, (by first | (walk_at "o2")), (by first | (walk_at "o2")), (by first | (walk_at "o2")), (by first | (walk_at "o2")), h269, (by first | (walk_at "o2")), (by first | (walk_at "o2")), (by first | (walk_at "o2")), (by first | (walk_at "o2")), (by first | (walk_at "o2")), (by first | (walk_at "o2")), (by first | (walk_at "o2")), (by first | (walk_at "o2")), (by first | (walk_at "o2")), fun Hn_99 h368 => ?_⟩
                  refine Ow.gnmS (σ' := [_, _, _, _, _, _, _, _, _, _, _, _]) rfl ?_
                  refine ⟨_, rfl, ?_⟩
                  refine ⟨_, rfl, ?_⟩
                  refine ⟨_, rfl, ?_⟩
                  refine ⟨_, rfl, ?_⟩
                  refine Or.inr (Or.inr (Or.inr (Or.inl ?_)))
                  refine ⟨_, _, _, _, fm, _, rfl, (by first | (walk_at "o2")), (by first | (walk_at "o2")), (by first | (walk_at "o2")), (by first | (walk_at "o2")), (h368 _ _ h270), (by first | (walk_at "o2")), (by first | (walk_at "o2")), fun Hn_100 h369 => ?_⟩
                  refine Ow.gnmS (σ' := [_, _, _, _, _, _, _, _, _, _, _, _]) rfl ?_
                  refine ⟨_, rfl, ?_⟩
                  refine ⟨_, _, _, _, true, rfl, .ty _, .base (.bl _), kit_ty (by decide +kernel), ?_⟩
                  refine ⟨_, rfl, ?_⟩
                  refine iteF ?_
                  refine ⟨_, rfl, ?_⟩
                  refine ⟨_, rfl, ?_⟩
                  refine ⟨rfl, ?_⟩
                  refine ⟨_, rfl, ?_⟩
                  refine Ow.ifneb (fun h370 => ?_) (fun h370 => ?_)
                  · try simp only [decide_eq_true_eq, V.int.injEq] at h370
                    exact ((by (subst_vars; first | exact h370 Iff.rfl | exact h370 trivial | exact h370 (Iff.trans (by assumption : _ = true ↔ Ow.Right _ _ _) (Iff.symm (by assumption : _ = true ↔ Ow.AllR _ _ _ _ _ _))) | exact Ow.no_T h370 (by assumption) (by assumption) | exact Ow.no_a h370 (by assumption) (by assumption) | exact Ow.no_b h370 (by assumption) (by assumption) | exact Ow.no_c h370 (by assumption) (by assumption) | exact h370 (Iff.trans (by assumption : _ = true ↔ Ow.WrongF _ _ _ _) (Iff.symm (by assumption : _ = true ↔ Ow.LwR _ _ _ _ _ _ _))))) : False).elim
                  · try simp only [decide_eq_true_eq, V.int.injEq] at h370
                    refine ⟨_, rfl, ?_⟩
                    refine ⟨_, _, rfl, rfl, ?_⟩
                    refine ⟨_, rfl, ?_⟩
                    refine Ow.ifd (fun h371 => ?_) (fun h371 => ?_)
                    · refine ⟨_, rfl, ?_⟩
                      refine ⟨rfl, ?_⟩
                      refine ⟨_, rfl, ?_⟩
                      refine iteF ?_
                      refine ⟨_, rfl, ?_⟩
                      refine Or.inr (Or.inr (Or.inr (Or.inl ?_)))
                      refine ⟨_, rfl, ?_⟩
                      refine ⟨_, rfl, ?_⟩
                      refine iteF ?_
                      refine iteF ?_
                      exact ⟨_, _, _, _, _, rfl, (((Ow.Fm.refl.trans h266).same h368).same h369), (h369 _ _ (h368 _ _ h267)), (h369 _ _ (h368 _ _ h268)), (h369 _ _ (h368 _ _ h269)), (h369 _ _ (h368 _ _ h270)), (h369 _ _ (h368 _ _ h271)), (h369 _ _ (h368 _ _ h272)), (h369 _ _ (h368 _ _ h273)), (h369 _ _ (h368 _ _ h274)), (h369 _ _ (h368 _ _ h275)), trivial⟩
                    · refine iteF ?_
                      exact ⟨_, _, _, _, _, rfl, (((Ow.Fm.refl.trans h266).same h368).same h369), (h369 _ _ (h368 _ _ h267)), (h369 _ _ (h368 _ _ h268)), (h369 _ _ (h368 _ _ h269)), (h369 _ _ (h368 _ _ h270)), (h369 _ _ (h368 _ _ h271)), (h369 _ _ (h368 _ _ h272)), (h369 _ _ (h368 _ _ h273)), (h369 _ _ (h368 _ _ h274)), (h369 _ _ (h368 _ _ h275)), trivial⟩
                · refine ⟨_, rfl, ?_⟩
                  refine ⟨_, rfl, rfl, (by first | (walk_at "o2")), fun B_28 h_B_28 h0_B_28 => ?_⟩
                  refine ⟨_, _, rfl, rfl, ?_⟩
                  refine ⟨_, rfl, ?_⟩
                  refine ⟨_, rfl, ?_⟩
                  refine ⟨_, rfl, ?_⟩
                  refine Or.inr (Or.inr (Or.inr (Or.inr (Or.inl ?_))))
                  refine ⟨_, _, _, _, _, _, _, _, _, rfl, (by first | (walk_at "o2")), (by first | (walk_at "o2")), (by first | (walk_at "o2")), (by first | (walk_at "o2")), h269, (by first | (walk_at "o2")), (by first | (walk_at "o2")), (by first | (walk_at "o2")), (by first | (walk_at "o2")), (by first | (walk_at "o2")), (by first | (walk_at "o2")), (by first | (walk_at "o2")), (by first | (walk_at "o2")), (by first | (walk_at "o2")), h272, fun Hn_101 h372 => ?_⟩
                  refine Ow.gnmS (σ' := [_, _, _, _, _, _, _, _, _, _, _, _]) rfl ?_
                  refine ⟨_, rfl, ?_⟩
                  refine ⟨_, rfl, ?_⟩
                  refine ⟨_, rfl, ?_⟩
                  refine ⟨_, rfl, ?_⟩
                  refine Or.inr (Or.inr (Or.inr (Or.inr (Or.inl ?_))))
                  refine ⟨_, _, _, _, fm, _, _, rfl, (by first | (walk_at "o2")), (by first | (walk_at "o2")), (by first | (walk_at "o2")), (by first | (walk_at "o2")), (h372 _ _ h270), (by first | (walk_at "o2")), (by first | (walk_at "o2")), (h372 _ _ h272), fun Hn_102 h373 => ?_⟩
                  refine Ow.gnmS (σ' := [_, _, _, _, _, _, _, _, _, _, _, _]) rfl ?_
                  refine ⟨_, rfl, ?_⟩
                  refine ⟨_, _, _, _, true, rfl, .ty _, .base (.bl _), kit_ty (by decide +kernel), ?_⟩
                  refine ⟨_, rfl, ?_⟩
                  refine iteF ?_
                  refine ⟨_, rfl, ?_⟩
                  refine ⟨_, rfl, ?_⟩
                  refine ⟨rfl, ?_⟩
                  refine ⟨_, rfl, ?_⟩
                  refine Ow.ifneb (fun h374 => ?_) (fun h374 => ?_)
                  · try simp only [decide_eq_true_eq, V.int.injEq] at h374
                    exact ((by (subst_vars; first | exact h374 Iff.rfl | exact h374 trivial | exact h374 (Iff.trans (by assumption : _ = true ↔ Ow.Right _ _ _) (Iff.symm (by assumption : _ = true ↔ Ow.AllR _ _ _ _ _ _))) | exact Ow.no_T h374 (by assumption) (by assumption) | exact Ow.no_a h374 (by assumption) (by assumption) | exact Ow.no_b h374 (by assumption) (by assumption) | exact Ow.no_c h374 (by assumption) (by assumption) | exact h374 (Iff.trans (by assumption : _ = true ↔ Ow.WrongF _ _ _ _) (Iff.symm (by assumption : _ = true ↔ Ow.LwR _ _ _ _ _ _ _))))) : False).elim
                  · try simp only [decide_eq_true_eq, V.int.injEq] at h374
                    refine ⟨_, rfl, ?_⟩
                    refine ⟨_, _, rfl, rfl, ?_⟩
                    refine ⟨_, rfl, ?_⟩
                    refine Ow.ifd (fun h375 => ?_) (fun h375 => ?_)
                    · refine ⟨_, rfl, ?_⟩
                      refine ⟨rfl, ?_⟩
                      refine ⟨_, rfl, ?_⟩
                      refine iteF ?_
                      refine ⟨_, rfl, ?_⟩
                      refine Or.inr (Or.inr (Or.inr (Or.inr (Or.inl ?_))))
                      refine ⟨_, _, rfl, (h373 _ _ (h372 _ _ h272)), ?_⟩
                      refine ⟨_, rfl, ?_⟩
                      refine iteF ?_
                      refine iteF ?_
                      exact ⟨_, _, _, _, _, rfl, (((Ow.Fm.refl.trans h266).same h372).same h373), (h373 _ _ (h372 _ _ h267)), (h373 _ _ (h372 _ _ h268)), (h373 _ _ (h372 _ _ h269)), (h373 _ _ (h372 _ _ h270)), (h373 _ _ (h372 _ _ h271)), (h373 _ _ (h372 _ _ h272)), (h373 _ _ (h372 _ _ h273)), (h373 _ _ (h372 _ _ h274)), (h373 _ _ (h372 _ _ h275)), trivial⟩
                    · refine iteF ?_
                      exact ⟨_, _, _, _, _, rfl, (((Ow.Fm.refl.trans h266).same h372).same h373), (h373 _ _ (h372 _ _ h267)), (h373 _ _ (h372 _ _ h268)), (h373 _ _ (h372 _ _ h269)), (h373 _ _ (h372 _ _ h270)), (h373 _ _ (h372 _ _ h271)), (h373 _ _ (h372 _ _ h272)), (h373 _ _ (h372 _ _ h273)), (h373 _ _ (h372 _ _ h274)), (h373 _ _ (h372 _ _ h275)), trivial⟩
                · refine ⟨_, rfl, ?_⟩
                  refine ⟨_, rfl, rfl, (by first | (walk_at "o2")), fun B_29 h_B_29 h0_B_29 => ?_⟩
                  refine ⟨_, _, rfl, rfl, ?_⟩
                  refine ⟨_, rfl, ?_⟩
                  refine ⟨_, rfl, ?_⟩
                  refine ⟨_, rfl, ?_⟩
                  refine Or.inr (Or.inr (Or.inr (Or.inr (Or.inr (Or.inl ?_)))))
                  refine ⟨_, _, _, _, _, _, _, _, _, rfl, (by first | (walk_at "o2")), (by first | (walk_at "o2")), (by first | (walk_at "o2")), (by first | (walk_at "o2")), h269, (by first | (walk_at "o2")), (by first | (walk_at "o2")), (by first | (walk_at "o2")), (by first | (walk_at "o2")), (by first | (walk_at "o2")), (by first | (walk_at "o2")), (by first | (walk_at "o2")), (by first | (walk_at "o2")), (by first | (walk_at "o2")), h273, fun Hn_103 h376 => ?_⟩
                  refine Ow.gnmS (σ' := [_, _, _, _, _, _, _, _, _, _, _, _]) rfl ?_
                  refine ⟨_, rfl, ?_⟩
                  refine ⟨_, rfl, ?_⟩
                  refine ⟨_, rfl, ?_⟩
                  refine ⟨_, rfl, ?_⟩
                  refine Or.inr (Or.inr (Or.inr (Or.inr (Or.inr (Or.inl ?_)))))
                  refine ⟨_, _, _, _, fm, _, _, rfl, (by first | (walk_at "o2")), (by first | (walk_at "o2")), (by first | (walk_at "o2")), (by first | (walk_at "o2")), (h376 _ _ h270), (by first | (walk_at "o2")), (by first | (walk_at "o2")), (h376 _ _ h273), fun Hn_104 h377 => ?_⟩
                  refine Ow.gnmS (σ' := [_, _, _, _, _, _, _, _, _, _, _, _]) rfl ?_
                  refine ⟨_, rfl, ?_⟩
                  refine ⟨_, _, _, _, true, rfl, .ty _, .base (.bl _), kit_ty (by decide +kernel), ?_⟩
                  refine ⟨_, rfl, ?_⟩
                  refine iteF ?_
                  refine ⟨_, rfl, ?_⟩
                  refine ⟨_, rfl, ?_⟩
                  refine ⟨rfl, ?_⟩
                  refine ⟨_, rfl, ?_⟩
                  refine Ow.ifneb (fun h378 => ?_) (fun h378 => ?_)
                  · try simp only [decide_eq_true_eq, V.int.injEq] at h378
                    exact ((by (subst_vars; first | exact h378 Iff.rfl | exact h378 trivial | exact h378 (Iff.trans (by assumption : _ = true ↔ Ow.Right _ _ _) (Iff.symm (by assumption : _ = true ↔ Ow.AllR _ _ _ _ _ _))) | exact Ow.no_T h378 (by assumption) (by assumption) | exact Ow.no_a h378 (by assumption) (by assumption) | exact Ow.no_b h378 (by assumption) (by assumption) | exact Ow.no_c h378 (by assumption) (by assumption) | exact h378 (Iff.trans (by assumption : _ = true ↔ Ow.WrongF _ _ _ _) (Iff.symm (by assumption : _ = true ↔ Ow.LwR _ _ _ _ _ _ _))))) : False).elim
                  · try simp only [decide_eq_true_eq, V.int.injEq] at h378
                    refine ⟨_, rfl, ?_⟩
                    refine ⟨_, _, rfl, rfl, ?_⟩
                    refine ⟨_, rfl, ?_⟩
                    refine Ow.ifd (fun h379 => ?_) (fun h379 => ?_)
                    · refine ⟨_, rfl, ?_⟩
                      refine ⟨rfl, ?_⟩
                      refine ⟨_, rfl, ?_⟩
                      refine iteF ?_
                      refine ⟨_, rfl, ?_⟩
                      refine Or.inr (Or.inr (Or.inr (Or.inr (Or.inr (Or.inl ?_)))))
                      refine ⟨_, _, rfl, (h377 _ _ (h376 _ _ h273)), ?_⟩
                      refine ⟨_, rfl, ?_⟩
                      refine iteF ?_
                      refine iteF ?_
                      exact ⟨_, _, _, _, _, rfl, (((Ow.Fm.refl.trans h266).same h376).same h377), (h377 _ _ (h376 _ _ h267)), (h377 _ _ (h376 _ _ h268)), (h377 _ _ (h376 _ _ h269)), (h377 _ _ (h376 _ _ h270)), (h377 _ _ (h376 _ _ h271)), (h377 _ _ (h376 _ _ h272)), (h377 _ _ (h376 _ _ h273)), (h377 _ _ (h376 _ _ h274)), (h377 _ _ (h376 _ _ h275)), trivial⟩
                    · refine iteF ?_
                      exact ⟨_, _, _, _, _, rfl, (((Ow.Fm.refl.trans h266).same h376).same h377), (h377 _ _ (h376 _ _ h267)), (h377 _ _ (h376 _ _ h268)), (h377 _ _ (h376 _ _ h269)), (h377 _ _ (h376 _ _ h270)), (h377 _ _ (h376 _ _ h271)), (h377 _ _ (h376 _ _ h272)), (h377 _ _ (h376 _ _ h273)), (h377 _ _ (h376 _ _ h274)), (h377 _ _ (h376 _ _ h275)), trivial⟩
                · refine ⟨_, rfl, ?_⟩
                  refine ⟨_, rfl, rfl, (by first | (walk_at "o2")), fun B_30 h_B_30 h0_B_30 => ?_⟩
                  refine ⟨_, _, rfl, rfl, ?_⟩
                  refine ⟨_, rfl, ?_⟩
                  refine ⟨_, rfl, ?_⟩
                  refine ⟨_, rfl, ?_⟩
                  refine Or.inr (Or.inr (Or.inr (Or.inr (Or.inr (Or.inr (?_))))))
                  refine ⟨_, _, _, _, _, _, _, _, rfl, (by first | (walk_at "o2")), (by first | (walk_at "o2")), (by first | (walk_at "o2")), (by first | (walk_at "o2")), h269, (by first | (walk_at "o2")), (by first | (walk_at "o2")), (by first | (walk_at "o2")), (by first | (walk_at "o2")), (by first | (walk_at "o2")), (by first | (walk_at "o2")), (by first | (walk_at "o2")), (by first | (walk_at "o2")), (by first | (walk_at "o2")), h274, fun Hn_105 h380 => ?_⟩
                  refine Ow.gnmS (σ' := [_, _, _, _, _, _, _, _, _, _, _, _]) rfl ?_
                  refine ⟨_, rfl, ?_⟩
                  refine ⟨_, rfl, ?_⟩
                  refine ⟨_, rfl, ?_⟩
                  refine ⟨_, rfl, ?_⟩
                  refine Or.inr (Or.inr (Or.inr (Or.inr (Or.inr (Or.inr (?_))))))
                  refine ⟨_, _, _, _, fm, _, rfl, (by first | (walk_at "o2")), (by first | (walk_at "o2")), (by first | (walk_at "o2")), (by first | (walk_at "o2")), (h380 _ _ h270), (by first | (walk_at "o2")), (by first | (walk_at "o2")), (h380 _ _ h274), fun Hn_106 h381 => ?_⟩
                  refine Ow.gnmS (σ' := [_, _, _, _, _, _, _, _, _, _, _, _]) rfl ?_
                  refine ⟨_, rfl, ?_⟩
                  refine ⟨_, _, _, _, true, rfl, .ty _, .base (.bl _), kit_ty (by decide +kernel), ?_⟩
                  refine ⟨_, rfl, ?_⟩
                  refine iteF ?_
                  refine ⟨_, rfl, ?_⟩
                  refine ⟨_, rfl, ?_⟩
                  refine ⟨rfl, ?_⟩
                  refine ⟨_, rfl, ?_⟩
                  refine Ow.ifneb (fun h382 => ?_) (fun h382 => ?_)
                  · try simp only [decide_eq_true_eq, V.int.injEq] at h382
                    exact ((by (subst_vars; first | exact h382 Iff.rfl | exact h382 trivial | exact h382 (Iff.trans (by assumption : _ = true ↔ Ow.Right _ _ _) (Iff.symm (by assumption : _ = true ↔ Ow.AllR _ _ _ _ _ _))) | exact Ow.no_T h382 (by assumption) (by assumption) | exact Ow.no_a h382 (by assumption) (by assumption) | exact Ow.no_b h382 (by assumption) (by assumption) | exact Ow.no_c h382 (by assumption) (by assumption) | exact h382 (Iff.trans (by assumption : _ = true ↔ Ow.WrongF _ _ _ _) (Iff.symm (by assumption : _ = true ↔ Ow.LwR _ _ _ _ _ _ _))))) : False).elim
                  · try simp only [decide_eq_true_eq, V.int.injEq] at h382
                    refine ⟨_, rfl, ?_⟩
                    refine ⟨_, _, rfl, rfl, ?_⟩
                    refine ⟨_, rfl, ?_⟩
                    refine Ow.ifd (fun h383 => ?_) (fun h383 => ?_)
                    · refine ⟨_, rfl, ?_⟩
                      refine ⟨rfl, ?_⟩
                      refine ⟨_, rfl, ?_⟩
                      refine iteF ?_
                      refine ⟨_, rfl, ?_⟩
                      refine Or.inr (Or.inr (Or.inr (Or.inr (Or.inr (Or.inr (?_))))))
                      refine ⟨_, rfl, (h381 _ _ (h380 _ _ h274)), ?_⟩
                      refine ⟨_, rfl, ?_⟩
                      refine iteF ?_
                      refine iteF ?_
                      exact ⟨_, _, _, _, _, rfl, (((Ow.Fm.refl.trans h266).same h380).same h381), (h381 _ _ (h380 _ _ h267)), (h381 _ _ (h380 _ _ h268)), (h381 _ _ (h380 _ _ h269)), (h381 _ _ (h380 _ _ h270)), (h381 _ _ (h380 _ _ h271)), (h381 _ _ (h380 _ _ h272)), (h381 _ _ (h380 _ _ h273)), (h381 _ _ (h380 _ _ h274)), (h381 _ _ (h380 _ _ h275)), trivial⟩
                    · refine iteF ?_
                      exact ⟨_, _, _, _, _, rfl, (((Ow.Fm.refl.trans h266).same h380).same h381), (h381 _ _ (h380 _ _ h267)), (h381 _ _ (h380 _ _ h268)), (h381 _ _ (h380 _ _ h269)), (h381 _ _ (h380 _ _ h270)), (h381 _ _ (h380 _ _ h271)), (h381 _ _ (h380 _ _ h272)), (h381 _ _ (h380 _ _ h273)), (h381 _ _ (h380 _ _ h274)), (h381 _ _ (h380 _ _ h275)), trivial⟩
                · refine ⟨_, rfl, ?_⟩
                  refine ⟨_, rfl, rfl, (by first | (walk_at "o2")), fun B_31 h_B_31 h0_B_31 => ?_⟩
                  refine ⟨_, _, rfl, rfl, ?_⟩
                  refine ⟨_, rfl, ?_⟩
                  refine ⟨_, rfl, ?_⟩
                  refine ⟨_, rfl, ?_⟩
                  refine Or.inr (Or.inl ?_)
                  refine ⟨_, _, _, _, _, _, _, _, rfl, (by first | (walk_at "o2")), (by first | (walk_at "o2")), (by first | (walk_at "o2")), (by first | (walk_at "o2")), h269, (by first | (walk_at "o2")), (by first | (walk_at "o2")), (by first | (walk_at "o2")), (by first | (walk_at "o2")), (by first | (walk_at "o2")), (by first | (walk_at "o2")), (by first | (walk_at "o2")), (by first | (walk_at "o2")), (by first | (walk_at "o2")), fun l_due_17 h384 Hn_107 h385 => ?_⟩
                  refine Ow.gnmS (σ' := [_, _, _, _, _, _, _, _, _, _, _, _]) rfl ?_
                  refine ⟨_, rfl, ?_⟩
                  refine ⟨_, rfl, ?_⟩
                  refine ⟨_, rfl, ?_⟩
                  refine ⟨_, rfl, ?_⟩
                  refine Or.inr (Or.inl ?_)
                  refine ⟨_, _, _, _, fm, _, rfl, (by first | (walk_at "o2")), (by first | (walk_at "o2")), (by first | (walk_at "o2")), (by first | (walk_at "o2")), (h385 _ _ h270), (by first | (walk_at "o2")), (by first | (walk_at "o2")), fun l_found_17 h386 Hn_108 h387 => ?_⟩
                  refine Ow.gnmS (σ' := [_, _, _, _, _, _, _, _, _, _, _, _]) rfl ?_
                  refine ⟨_, rfl, ?_⟩
                  refine ⟨_, _, _, _, true, rfl, .ty _, .base (.bl _), kit_ty (by decide +kernel), ?_⟩
                  refine ⟨_, rfl, ?_⟩
                  refine iteF ?_
                  refine ⟨_, rfl, ?_⟩
                  refine ⟨_, rfl, ?_⟩
                  refine ⟨rfl, ?_⟩
                  refine ⟨_, rfl, ?_⟩
                  refine Ow.ifneb (fun h388 => ?_) (fun h388 => ?_)
                  · try simp only [decide_eq_true_eq, V.int.injEq] at h388
                    exact ((by (subst_vars; first | exact h388 Iff.rfl | exact h388 trivial | exact h388 (Iff.trans (by assumption : _ = true ↔ Ow.Right _ _ _) (Iff.symm (by assumption : _ = true ↔ Ow.AllR _ _ _ _ _ _))) | exact Ow.no_T h388 (by assumption) (by assumption) | exact Ow.no_a h388 (by assumption) (by assumption) | exact Ow.no_b h388 (by assumption) (by assumption) | exact Ow.no_c h388 (by assumption) (by assumption) | exact h388 (Iff.trans (by assumption : _ = true ↔ Ow.WrongF _ _ _ _) (Iff.symm (by assumption : _ = true ↔ Ow.LwR _ _ _ _ _ _ _))))) : False).elim
                  · try simp only [decide_eq_true_eq, V.int.injEq] at h388
                    refine ⟨_, rfl, ?_⟩
                    refine ⟨_, _, rfl, rfl, ?_⟩
                    refine ⟨_, rfl, ?_⟩
                    refine Ow.ifd (fun h389 => ?_) (fun h389 => ?_)
                    · refine ⟨_, rfl, ?_⟩
                      refine ⟨rfl, ?_⟩
                      refine ⟨_, rfl, ?_⟩
                      refine iteF ?_
                      refine ⟨_, rfl, ?_⟩
                      refine Or.inl ?_
                      refine ⟨_, rfl, ?_⟩
                      refine ⟨_, rfl, ?_⟩
                      refine iteT ?_
                      refine ⟨_, rfl, ?_⟩
                      refine ⟨_, rfl, ?_⟩
                      refine ⟨_, rfl, ?_⟩
                      refine ⟨_, rfl, ?_⟩
                      refine ⟨_, rfl, ?_⟩
                      refine ⟨_, _, _, _, _, _, _, rfl, (by first | (walk_at "o2")), (by first | (walk_at "o2")), (by first | (walk_at "o2")), (by first | (walk_at "o2")), (h387 _ _ (h385 _ _ h269)), (by first | (walk_at "o2")), (by first | (walk_at "o2")), (by first | (walk_at "o2")), (by first | (walk_at "o2")), (by first | (walk_at "o2")), (by first | (walk_at "o2")), (by first | (walk_at "o2")), (by first | (walk_at "o2")), (by first | (walk_at "o2")), ?_, ?_⟩
                      · refine fun h390 Hn_109 h391 => ?_
                        refine ⟨rfl, ?_⟩
                        refine ⟨rfl, ?_⟩
                        refine ⟨_, rfl, ?_⟩
                        refine Ow.ifneb (fun h392 => ?_) (fun h392 => ?_)
                        · try simp only [decide_eq_true_eq, V.int.injEq] at h392
                          exact ((by (subst_vars; first | exact h392 Iff.rfl | exact h392 trivial | exact h392 (Iff.trans (by assumption : _ = true ↔ Ow.Right _ _ _) (Iff.symm (by assumption : _ = true ↔ Ow.AllR _ _ _ _ _ _))) | exact Ow.no_T h392 (by assumption) (by assumption) | exact Ow.no_a h392 (by assumption) (by assumption) | exact Ow.no_b h392 (by assumption) (by assumption) | exact Ow.no_c h392 (by assumption) (by assumption) | exact h392 (Iff.trans (by assumption : _ = true ↔ Ow.WrongF _ _ _ _) (Iff.symm (by assumption : _ = true ↔ Ow.LwR _ _ _ _ _ _ _))))) : False).elim
                        · try simp only [decide_eq_true_eq, V.int.injEq] at h392
                          exact ⟨_, _, _, _, _, rfl, ((((Ow.Fm.refl.trans h266).same h385).same h387).same h391), (h391 _ _ (h387 _ _ (h385 _ _ h267))), (h391 _ _ (h387 _ _ (h385 _ _ h268))), (h391 _ _ (h387 _ _ (h385 _ _ h269))), (h391 _ _ (h387 _ _ (h385 _ _ h270))), (h391 _ _ (h387 _ _ (h385 _ _ h271))), (h391 _ _ (h387 _ _ (h385 _ _ h272))), (h391 _ _ (h387 _ _ (h385 _ _ h273))), (h391 _ _ (h387 _ _ (h385 _ _ h274))), (h391 _ _ (h387 _ _ (h385 _ _ h275))), trivial⟩
                      · refine fun t_24 h393 Hn_110 h394 => ?_
                        refine ⟨rfl, ?_⟩
                        refine ⟨rfl, ?_⟩
                        refine ⟨_, rfl, ?_⟩
                        refine Ow.ifneb (fun h395 => ?_) (fun h395 => ?_)
                        · try simp only [decide_eq_true_eq, V.int.injEq] at h395
                          exact ((by (subst_vars; first | exact h395 Iff.rfl | exact h395 trivial | exact h395 (Iff.trans (by assumption : _ = true ↔ Ow.Right _ _ _) (Iff.symm (by assumption : _ = true ↔ Ow.AllR _ _ _ _ _ _))) | exact Ow.no_T h395 (by assumption) (by assumption) | exact Ow.no_a h395 (by assumption) (by assumption) | exact Ow.no_b h395 (by assumption) (by assumption) | exact Ow.no_c h395 (by assumption) (by assumption) | exact h395 (Iff.trans (by assumption : _ = true ↔ Ow.WrongF _ _ _ _) (Iff.symm (by assumption : _ = true ↔ Ow.LwR _ _ _ _ _ _ _))))) : False).elim
                        · try simp only [decide_eq_true_eq, V.int.injEq] at h395
                          exact ⟨_, _, _, _, _, rfl, ((((Ow.Fm.refl.trans h266).same h385).same h387).same h394), (h394 _ _ (h387 _ _ (h385 _ _ h267))), (h394 _ _ (h387 _ _ (h385 _ _ h268))), (h394 _ _ (h387 _ _ (h385 _ _ h269))), (h394 _ _ (h387 _ _ (h385 _ _ h270))), (h394 _ _ (h387 _ _ (h385 _ _ h271))), (h394 _ _ (h387 _ _ (h385 _ _ h272))), (h394 _ _ (h387 _ _ (h385 _ _ h273))), (h394 _ _ (h387 _ _ (h385 _ _ h274))), (h394 _ _ (h387 _ _ (h385 _ _ h275))), trivial⟩
                    · refine iteF ?_
                      exact ⟨_, _, _, _, _, rfl, (((Ow.Fm.refl.trans h266).same h385).same h387), (h387 _ _ (h385 _ _ h267)), (h387 _ _ (h385 _ _ h268)), (h387 _ _ (h385 _ _ h269)), (h387 _ _ (h385 _ _ h270)), (h387 _ _ (h385 _ _ h271)), (h387 _ _ (h385 _ _ h272)), (h387 _ _ (h385 _ _ h273)), (h387 _ _ (h385 _ _ h274)), (h387 _ _ (h385 _ _ h275)), trivial⟩
                · refine ⟨_, rfl, ?_⟩
                  refine ⟨_, rfl, rfl, (by first | (walk_at "o2")), fun B_32 h_B_32 h0_B_32 => ?_⟩
                  refine ⟨_, _, rfl, rfl, ?_⟩
                  refine ⟨_, rfl, ?_⟩
                  refine ⟨_, rfl, ?_⟩
                  refine ⟨_, rfl, ?_⟩
                  refine Or.inr (Or.inl ?_)
                  refine ⟨_, _, _, _, _, _, _, _, rfl, (by first | (walk_at "o2")), (by first | (walk_at "o2")), (by first | (walk_at "o2")), (by first | (walk_at "o2")), h269, (by first | (walk_at "o2")), (by first | (walk_at "o2")), (by first | (walk_at "o2")), (by first | (walk_at "o2")), (by first | (walk_at "o2")), (by first | (walk_at "o2")), (by first | (walk_at "o2")), (by first | (walk_at "o2")), (by first | (walk_at "o2")), fun l_due_18 h396 Hn_111 h397 => ?_⟩
                  refine Ow.gnmS (σ' := [_, _, _, _, _, _, _, _, _, _, _, _]) rfl ?_
                  refine ⟨_, rfl, ?_⟩
                  refine ⟨_, rfl, ?_⟩
                  refine ⟨_, rfl, ?_⟩
                  refine ⟨_, rfl, ?_⟩
                  refine Or.inr (Or.inl ?_)
                  refine ⟨_, _, _, _, fm, _, rfl, (by first | (walk_at "o2")), (by first | (walk_at "o2")), (by first | (walk_at "o2")), (by first | (walk_at "o2")), (h397 _ _ h270), (by first | (walk_at "o2")), (by first | (walk_at "o2")), fun l_found_18 h398 Hn_112 h399 => ?_⟩
                  refine Ow.gnmS (σ' := [_, _, _, _, _, _, _, _, _, _, _, _]) rfl ?_
                  refine ⟨_, rfl, ?_⟩
                  refine ⟨_, _, _, _, true, rfl, .ty _, .base (.bl _), kit_ty (by decide +kernel), ?_⟩
                  refine ⟨_, rfl, ?_⟩
                  refine iteF ?_
                  refine ⟨_, rfl, ?_⟩
                  refine ⟨_, rfl, ?_⟩
                  refine ⟨rfl, ?_⟩
                  refine ⟨_, rfl, ?_⟩
                  refine Ow.ifneb (fun h400 => ?_) (fun h400 => ?_)
                  · try simp only [decide_eq_true_eq, V.int.injEq] at h400
                    exact ((by (subst_vars; first | exact h400 Iff.rfl | exact h400 trivial | exact h400 (Iff.trans (by assumption : _ = true ↔ Ow.Right _ _ _) (Iff.symm (by assumption : _ = true ↔ Ow.AllR _ _ _ _ _ _))) | exact Ow.no_T h400 (by assumption) (by assumption) | exact Ow.no_a h400 (by assumption) (by assumption) | exact Ow.no_b h400 (by assumption) (by assumption) | exact Ow.no_c h400 (by assumption) (by assumption) | exact h400 (Iff.trans (by assumption : _ = true ↔ Ow.WrongF _ _ _ _) (Iff.symm (by assumption : _ = true ↔ Ow.LwR _ _ _ _ _ _ _))))) : False).elim
                  · try simp only [decide_eq_true_eq, V.int.injEq] at h400
                    refine ⟨_, rfl, ?_⟩
                    refine ⟨_, _, rfl, rfl, ?_⟩
                    refine ⟨_, rfl, ?_⟩
                    refine Ow.ifd (fun h401 => ?_) (fun h401 => ?_)
                    · refine ⟨_, rfl, ?_⟩
                      refine ⟨rfl, ?_⟩
                      refine ⟨_, rfl, ?_⟩
                      refine iteF ?_
                      refine ⟨_, rfl, ?_⟩
                      refine Or.inl ?_
                      refine ⟨_, rfl, ?_⟩
                      refine ⟨_, rfl, ?_⟩
                      refine iteT ?_
                      refine ⟨_, rfl, ?_⟩
                      refine ⟨_, rfl, ?_⟩
                      refine ⟨_, rfl, ?_⟩
                      refine ⟨_, rfl, ?_⟩
                      refine ⟨_, rfl, ?_⟩
                      refine ⟨_, _, _, _, _, _, _, rfl, (by first | (walk_at "o2")), (by first | (walk_at "o2")), (by first | (walk_at "o2")), (by first | (walk_at "o2")), (h399 _ _ (h397 _ _ h269)), (by first | (walk_at "o2")), (by first | (walk_at "o2")), (by first | (walk_at "o2")), (by first | (walk_at "o2")), (by first | (walk_at "o2")), (by first | (walk_at "o2")), (by first | (walk_at "o2")), (by first | (walk_at "o2")), (by first | (walk_at "o2")), ?_, ?_⟩
                      · refine fun h402 Hn_113 h403 => ?_
                        refine ⟨rfl, ?_⟩
                        refine ⟨rfl, ?_⟩
                        refine ⟨_, rfl, ?_⟩
                        refine Ow.ifneb (fun h404 => ?_) (fun h404 => ?_)
                        · try simp only [decide_eq_true_eq, V.int.injEq] at h404
                          exact ((by (subst_vars; first | exact h404 Iff.rfl | exact h404 trivial | exact h404 (Iff.trans (by assumption : _ = true ↔ Ow.Right _ _ _) (Iff.symm (by assumption : _ = true ↔ Ow.AllR _ _ _ _ _ _))) | exact Ow.no_T h404 (by assumption) (by assumption) | exact Ow.no_a h404 (by assumption) (by assumption) | exact Ow.no_b h404 (by assumption) (by assumption) | exact Ow.no_c h404 (by assumption) (by assumption) | exact h404 (Iff.trans (by assumption : _ = true ↔ Ow.WrongF _ _ _ _) (Iff.symm (by assumption : _ = true ↔ Ow.LwR _ _ _ _ _ _ _))))) : False).elim
                        · try simp only [decide_eq_true_eq, V.int.injEq] at h404
                          exact ⟨_, _, _, _, _, rfl, ((((Ow.Fm.refl.trans h266).same h397).same h399).same h403), (h403 _ _ (h399 _ _ (h397 _ _ h267))), (h403 _ _ (h399 _ _ (h397 _ _ h268))), (h403 _ _ (h399 _ _ (h397 _ _ h269))), (h403 _ _ (h399 _ _ (h397 _ _ h270))), (h403 _ _ (h399 _ _ (h397 _ _ h271))), (h403 _ _ (h399 _ _ (h397 _ _ h272))), (h403 _ _ (h399 _ _ (h397 _ _ h273))), (h403 _ _ (h399 _ _ (h397 _ _ h274))), (h403 _ _ (h399 _ _ (h397 _ _ h275))), trivial⟩
                      · refine fun t_25 h405 Hn_114 h406 => ?_
                        refine ⟨rfl, ?_⟩
                        refine ⟨rfl, ?_⟩
                        refine ⟨_, rfl, ?_⟩
                        refine Ow.ifneb (fun h407 => ?_) (fun h407 => ?_)
                        · try simp only [decide_eq_true_eq, V.int.injEq] at h407
                          exact ((by (subst_vars; first | exact h407 Iff.rfl | exact h407 trivial | exact h407 (Iff.trans (by assumption : _ = true ↔ Ow.Right _ _ _) (Iff.symm (by assumption : _ = true ↔ Ow.AllR _ _ _ _ _ _))) | exact Ow.no_T h407 (by assumption) (by assumption) | exact Ow.no_a h407 (by assumption) (by assumption) | exact Ow.no_b h407 (by assumption) (by assumption) | exact Ow.no_c h407 (by assumption) (by assumption) | exact h407 (Iff.trans (by assumption : _ = true ↔ Ow.WrongF _ _ _ _) (Iff.symm (by assumption : _ = true ↔ Ow.LwR _ _ _ _ _ _ _))))) : False).elim
                        · try simp only [decide_eq_true_eq, V.int.injEq] at h407
                          exact ⟨_, _, _, _, _, rfl, ((((Ow.Fm.refl.trans h266).same h397).same h399).same h406), (h406 _ _ (h399 _ _ (h397 _ _ h267))), (h406 _ _ (h399 _ _ (h397 _ _ h268))), (h406 _ _ (h399 _ _ (h397 _ _ h269))), (h406 _ _ (h399 _ _ (h397 _ _ h270))), (h406 _ _ (h399 _ _ (h397 _ _ h271))), (h406 _ _ (h399 _ _ (h397 _ _ h272))), (h406 _ _ (h399 _ _ (h397 _ _ h273))), (h406 _ _ (h399 _ _ (h397 _ _ h274))), (h406 _ _ (h399 _ _ (h397 _ _ h275))), trivial⟩
                    · refine iteF ?_
                      exact ⟨_, _, _, _, _, rfl, (((Ow.Fm.refl.trans h266).same h397).same h399), (h399 _ _ (h397 _ _ h267)), (h399 _ _ (h397 _ _ h268)), (h399 _ _ (h397 _ _ h269)), (h399 _ _ (h397 _ _ h270)), (h399 _ _ (h397 _ _ h271)), (h399 _ _ (h397 _ _ h272)), (h399 _ _ (h397 _ _ h273)), (h399 _ _ (h397 _ _ h274)), (h399 _ _ (h397 _ _ h275)), trivial⟩
                · refine ⟨_, rfl, ?_⟩
                  refine ⟨_, rfl, rfl, (by first | (walk_at "o2")), fun B_33 h_B_33 h0_B_33 => ?_⟩
                  refine ⟨_, _, rfl, rfl, ?_⟩
                  refine ⟨_, rfl, ?_⟩
                  refine ⟨_, rfl, ?_⟩
                  refine ⟨_, rfl, ?_⟩
                  refine Or.inr (Or.inl ?_)
                  refine ⟨_, _, _, _, _, _, _, _, rfl, (by first | (walk_at "o2")), (by first | (walk_at "o2")), (by first | (walk_at "o2")), (by first | (walk_at "o2")), h269, (by first | (walk_at "o2")), (by first | (walk_at "o2")), (by first | (walk_at "o2")), (by first | (walk_at "o2")), (by first | (walk_at "o2")), (by first | (walk_at "o2")), (by first | (walk_at "o2")), (by first | (walk_at "o2")), (by first | (walk_at "o2")), fun l_due_19 h408 Hn_115 h409 => ?_⟩
                  refine Ow.gnmS (σ' := [_, _, _, _, _, _, _, _, _, _, _, _]) rfl ?_
                  refine ⟨_, rfl, ?_⟩
                  refine ⟨_, rfl, ?_⟩
                  refine ⟨_, rfl, ?_⟩
                  refine ⟨_, rfl, ?_⟩
                  refine Or.inr (Or.inl ?_)
                  refine ⟨_, _, _, _, fm, _, rfl, (by first | (walk_at "o2")), (by first | (walk_at "o2")), (by first | (walk_at "o2")), (by first | (walk_at "o2")), (h409 _ _ h270), (by first | (walk_at "o2")), (by first | (walk_at "o2")), fun l_found_19 h410 Hn_116 h411 => ?_⟩
                  refine Ow.gnmS (σ' := [_, _, _, _, _, _, _, _, _, _, _, _]) rfl ?_
                  refine ⟨_, rfl, ?_⟩
                  refine ⟨_, _, _, _, true, rfl, .ty _, .base (.bl _), kit_ty (by decide +kernel), ?_⟩
                  refine ⟨_, rfl, ?_⟩
                  refine iteF ?_
                  refine ⟨_, rfl, ?_⟩
                  refine ⟨_, rfl, ?_⟩
                  refine ⟨rfl, ?_⟩
                  refine ⟨_, rfl, ?_⟩
                  refine Ow.ifneb (fun h412 => ?_) (fun h412 => ?_)
                  · try simp only [decide_eq_true_eq, V.int.injEq] at h412
                    exact ((by (subst_vars; first | exact h412 Iff.rfl | exact h412 trivial | exact h412 (Iff.trans (by assumption : _ = true ↔ Ow.Right _ _ _) (Iff.symm (by assumption : _ = true ↔ Ow.AllR _ _ _ _ _ _))) | exact Ow.no_T h412 (by assumption) (by assumption) | exact Ow.no_a h412 (by assumption) (by assumption) | exact Ow.no_b h412 (by assumption) (by assumption) | exact Ow.no_c h412 (by assumption) (by assumption) | exact h412 (Iff.trans (by assumption : _ = true ↔ Ow.WrongF _ _ _ _) (Iff.symm (by assumption : _ = true ↔ Ow.LwR _ _ _ _ _ _ _))))) : False).elim
                  · try simp only [decide_eq_true_eq, V.int.injEq] at h412
                    refine ⟨_, rfl, ?_⟩
                    refine ⟨_, _, rfl, rfl, ?_⟩
                    refine ⟨_, rfl, ?_⟩
                    refine Ow.ifd (fun h413 => ?_) (fun h413 => ?_)
                    · refine ⟨_, rfl, ?_⟩
                      refine ⟨rfl, ?_⟩
                      refine ⟨_, rfl, ?_⟩
                      refine iteF ?_
                      refine ⟨_, rfl, ?_⟩
                      refine Or.inl ?_
                      refine ⟨_, rfl, ?_⟩
                      refine ⟨_, rfl, ?_⟩
                      refine iteT ?_
                      refine ⟨_, rfl, ?_⟩
                      refine ⟨_, rfl, ?_⟩
                      refine ⟨_, rfl, ?_⟩
                      refine ⟨_, rfl, ?_⟩
                      refine ⟨_, rfl, ?_⟩
                      refine ⟨_, _, _, _, _, _, _, rfl, (by first | (walk_at "o2")), (by first | (walk_at "o2")), (by first | (walk_at "o2")), (by first | (walk_at "o2")), (h411 _ _ (h409 _ _ h269)), (by first | (walk_at "o2")), (by first | (walk_at "o2")), (by first | (walk_at "o2")), (by first | (walk_at "o2")), (by first | (walk_at "o2")), (by first | (walk_at "o2")), (by first | (walk_at "o2")), (by first | (walk_at "o2")), (by first | (walk_at "o2")), ?_, ?_⟩
                      · refine fun h414 Hn_117 h415 => ?_
                        refine ⟨rfl, ?_⟩
                        refine ⟨rfl, ?_⟩
                        refine ⟨_, rfl, ?_⟩
                        refine Ow.ifneb (fun h416 => ?_) (fun h416 => ?_)
                        · try simp only [decide_eq_true_eq, V.int.injEq] at h416
                          exact ((by (subst_vars; first | exact h416 Iff.rfl | exact h416 trivial | exact h416 (Iff.trans (by assumption : _ = true ↔ Ow.Right _ _ _) (Iff.symm (by assumption : _ = true ↔ Ow.AllR _ _ _ _ _ _))) | exact Ow.no_T h416 (by assumption) (by assumption) | exact Ow.no_a h416 (by assumption) (by assumption) | exact Ow.no_b h416 (by assumption) (by assumption) | exact Ow.no_c h416 (by assumption) (by assumption) | exact h416 (Iff.trans (by assumption : _ = true ↔ Ow.WrongF _ _ _ _) (Iff.symm (by assumption : _ = true ↔ Ow.LwR _ _ _ _ _ _ _))))) : False).elim
                        · try simp only [decide_eq_true_eq, V.int.injEq] at h416
                          exact ⟨_, _, _, _, _, rfl, ((((Ow.Fm.refl.trans h266).same h409).same h411).same h415), (h415 _ _ (h411 _ _ (h409 _ _ h267))), (h415 _ _ (h411 _ _ (h409 _ _ h268))), (h415 _ _ (h411 _ _ (h409 _ _ h269))), (h415 _ _ (h411 _ _ (h409 _ _ h270))), (h415 _ _ (h411 _ _ (h409 _ _ h271))), (h415 _ _ (h411 _ _ (h409 _ _ h272))), (h415 _ _ (h411 _ _ (h409 _ _ h273))), (h415 _ _ (h411 _ _ (h409 _ _ h274))), (h415 _ _ (h411 _ _ (h409 _ _ h275))), trivial⟩
                      · refine fun t_26 h417 Hn_118 h418 => ?_
                        refine ⟨rfl, ?_⟩
                        refine ⟨rfl, ?_⟩
                        refine ⟨_, rfl, ?_⟩
                        refine Ow.ifneb (fun h419 => ?_) (fun h419 => ?_)
                        · try simp only [decide_eq_true_eq, V.int.injEq] at h419
                          exact ((by (subst_vars; first | exact h419 Iff.rfl | exact h419 trivial | exact h419 (Iff.trans (by assumption : _ = true ↔ Ow.Right _ _ _) (Iff.symm (by assumption : _ = true ↔ Ow.AllR _ _ _ _ _ _))) | exact Ow.no_T h419 (by assumption) (by assumption) | exact Ow.no_a h419 (by assumption) (by assumption) | exact Ow.no_b h419 (by assumption) (by assumption) | exact Ow.no_c h419 (by assumption) (by assumption) | exact h419 (Iff.trans (by assumption : _ = true ↔ Ow.WrongF _ _ _ _) (Iff.symm (by assumption : _ = true ↔ Ow.LwR _ _ _ _ _ _ _))))) : False).elim
                        · try simp only [decide_eq_true_eq, V.int.injEq] at h419
                          exact ⟨_, _, _, _, _, rfl, ((((Ow.Fm.refl.trans h266).same h409).same h411).same h418), (h418 _ _ (h411 _ _ (h409 _ _ h267))), (h418 _ _ (h411 _ _ (h409 _ _ h268))), (h418 _ _ (h411 _ _ (h409 _ _ h269))), (h418 _ _ (h411 _ _ (h409 _ _ h270))), (h418 _ _ (h411 _ _ (h409 _ _ h271))), (h418 _ _ (h411 _ _ (h409 _ _ h272))), (h418 _ _ (h411 _ _ (h409 _ _ h273))), (h418 _ _ (h411 _ _ (h409 _ _ h274))), (h418 _ _ (h411 _ _ (h409 _ _ h275))), trivial⟩
                    · refine iteF ?_
                      exact ⟨_, _, _, _, _, rfl, (((Ow.Fm.refl.trans h266).same h409).same h411), (h411 _ _ (h409 _ _ h267)), (h411 _ _ (h409 _ _ h268)), (h411 _ _ (h409 _ _ h269)), (h411 _ _ (h409 _ _ h270)), (h411 _ _ (h409 _ _ h271)), (h411 _ _ (h409 _ _ h272)), (h411 _ _ (h409 _ _ h273)), (h411 _ _ (h409 _ _ h274)), (h411 _ _ (h409 _ _ h275)), trivial⟩
                · refine ⟨_, rfl, ?_⟩
                  refine ⟨_, rfl, rfl, (by first | (walk_at "o2")), fun B_34 h_B_34 h0_B_34 => ?_⟩
                  refine ⟨_, _, rfl, rfl, ?_⟩
                  refine ⟨_, rfl, ?_⟩
                  refine ⟨_, rfl, ?_⟩
                  refine ⟨_, rfl, ?_⟩
                  refine Or.inr (Or.inl ?_)
                  refine ⟨_, _, _, _, _, _, _, _, rfl, (by first | (walk_at "o2")), (by first | (walk_at "o2")), (by first | (walk_at "o2")), (by first | (walk_at "o2")), h269, (by first | (walk_at "o2")), (by first | (walk_at "o2")), (by first | (walk_at "o2")), (by first | (walk_at "o2")), (by first | (walk_at "o2")), (by first | (walk_at "o2")), (by first | (walk_at "o2")), (by first | (walk_at "o2")), (by first | (walk_at "o2")), fun l_due_20 h420 Hn_119 h421 => ?_⟩
                  refine Ow.gnmS (σ' := [_, _, _, _, _, _, _, _, _, _, _, _]) rfl ?_
                  refine ⟨_, rfl, ?_⟩
                  refine ⟨_, rfl, ?_⟩
                  refine ⟨_, rfl, ?_⟩
                  refine ⟨_, rfl, ?_⟩
                  refine Or.inr (Or.inl ?_)
                  refine ⟨_, _, _, _, fm, _, rfl, (by first | (walk_at "o2")), (by first | (walk_at "o2")), (by first | (walk_at "o2")), (by first | (walk_at "o2")), (h421 _ _ h270), (by first | (walk_at "o2")), (by first | (walk_at "o2")), fun l_found_20 h422 Hn_120 h423 => ?_⟩
                  refine Ow.gnmS (σ' := [_, _, _, _, _, _, _, _, _, _, _, _]) rfl ?_
                  refine ⟨_, rfl, ?_⟩
                  refine ⟨_, _, _, _, true, rfl, .ty _, .base (.bl _), kit_ty (by decide +kernel), ?_⟩
                  refine ⟨_, rfl, ?_⟩
                  refine iteF ?_
                  refine ⟨_, rfl, ?_⟩
                  refine ⟨_, rfl, ?_⟩
                  refine ⟨rfl, ?_⟩
                  refine ⟨_, rfl, ?_⟩
                  refine Ow.ifneb (fun h424 => ?_) (fun h424 => ?_)
                  · try simp only [decide_eq_true_eq, V.int.injEq] at h424
                    exact ((by (subst_vars; first | exact h424 Iff.rfl | exact h424 trivial | exact h424 (Iff.trans (by assumption : _ = true ↔ Ow.Right _ _ _) (Iff.symm (by assumption : _ = true ↔ Ow.AllR _ _ _ _ _ _))) | exact Ow.no_T h424 (by assumption) (by assumption) | exact Ow.no_a h424 (by assumption) (by assumption) | exact Ow.no_b h424 (by assumption) (by assumption) | exact Ow.no_c h424 (by assumption) (by assumption) | exact h424 (Iff.trans (by assumption : _ = true ↔ Ow.WrongF _ _ _ _) (Iff.symm (by assumption : _ = true ↔ Ow.LwR _ _ _ _ _ _ _))))) : False).elim
                  · try simp only [decide_eq_true_eq, V.int.injEq] at h424
                    refine ⟨_, rfl, ?_⟩
                    refine ⟨_, _, rfl, rfl, ?_⟩
                    refine ⟨_, rfl, ?_⟩
                    refine Ow.ifd (fun h425 => ?_) (fun h425 => ?_)
                    · refine ⟨_, rfl, ?_⟩
                      refine ⟨rfl, ?_⟩
                      refine ⟨_, rfl, ?_⟩
                      refine iteF ?_
                      refine ⟨_, rfl, ?_⟩
                      refine Or.inl ?_
                      refine ⟨_, rfl, ?_⟩
                      refine ⟨_, rfl, ?_⟩
                      refine iteT ?_
                      refine ⟨_, rfl, ?_⟩
                      refine ⟨_, rfl, ?_⟩
                      refine ⟨_, rfl, ?_⟩
                      refine ⟨_, rfl, ?_⟩
                      refine ⟨_, rfl, ?_⟩
                      refine ⟨_, _, _, _, _, _, _, rfl, (by first | (walk_at "o2")), (by first | (walk_at "o2")), (by first | (walk_at "o2")), (by first | (walk_at "o2")), (h423 _ _ (h421 _ _ h269)), (by first | (walk_at "o2")), (by first | (walk_at "o2")), (by first | (walk_at "o2")), (by first | (walk_at "o2")), (by first | (walk_at "o2")), (by first | (walk_at "o2")), (by first | (walk_at "o2")), (by first | (walk_at "o2")), (by first | (walk_at "o2")), ?_, ?_⟩
                      · refine fun h426 Hn_121 h427 => ?_
                        refine ⟨rfl, ?_⟩
                        refine ⟨rfl, ?_⟩
                        refine ⟨_, rfl, ?_⟩
                        refine Ow.ifneb (fun h428 => ?_) (fun h428 => ?_)
                        · try simp only [decide_eq_true_eq, V.int.injEq] at h428
                          exact ((by (subst_vars; first | exact h428 Iff.rfl | exact h428 trivial | exact h428 (Iff.trans (by assumption : _ = true ↔ Ow.Right _ _ _) (Iff.symm (by assumption : _ = true ↔ Ow.AllR _ _ _ _ _ _))) | exact Ow.no_T h428 (by assumption) (by assumption) | exact Ow.no_a h428 (by assumption) (by assumption) | exact Ow.no_b h428 (by assumption) (by assumption) | exact Ow.no_c h428 (by assumption) (by assumption) | exact h428 (Iff.trans (by assumption : _ = true ↔ Ow.WrongF _ _ _ _) (Iff.symm (by assumption : _ = true ↔ Ow.LwR _ _ _ _ _ _ _))))) : False).elim
                        · try simp only [decide_eq_true_eq, V.int.injEq] at h428
                          exact ⟨_, _, _, _, _, rfl, ((((Ow.Fm.refl.trans h266).same h421).same h423).same h427), (h427 _ _ (h423 _ _ (h421 _ _ h267))), (h427 _ _ (h423 _ _ (h421 _ _ h268))), (h427 _ _ (h423 _ _ (h421 _ _ h269))), (h427 _ _ (h423 _ _ (h421 _ _ h270))), (h427 _ _ (h423 _ _ (h421 _ _ h271))), (h427 _ _ (h423 _ _ (h421 _ _ h272))), (h427 _ _ (h423 _ _ (h421 _ _ h273))), (h427 _ _ (h423 _ _ (h421 _ _ h274))), (h427 _ _ (h423 _ _ (h421 _ _ h275))), trivial⟩
                      · refine fun t_27 h429 Hn_122 h430 => ?_
                        refine ⟨rfl, ?_⟩
                        refine ⟨rfl, ?_⟩
                        refine ⟨_, rfl, ?_⟩
                        refine Ow.ifneb (fun h431 => ?_) (fun h431 => ?_)
                        · try simp only [decide_eq_true_eq, V.int.injEq] at h431
                          exact ((by (subst_vars; first | exact h431 Iff.rfl | exact h431 trivial | exact h431 (Iff.trans (by assumption : _ = true ↔ Ow.Right _ _ _) (Iff.symm (by assumption : _ = true ↔ Ow.AllR _ _ _ _ _ _))) | exact Ow.no_T h431 (by assumption) (by assumption) | exact Ow.no_a h431 (by assumption) (by assumption) | exact Ow.no_b h431 (by assumption) (by assumption) | exact Ow.no_c h431 (by assumption) (by assumption) | exact h431 (Iff.trans (by assumption : _ = true ↔ Ow.WrongF _ _ _ _) (Iff.symm (by assumption : _ = true ↔ Ow.LwR _ _ _ _ _ _ _))))) : False).elim
                        · try simp only [decide_eq_true_eq, V.int.injEq] at h431
                          exact ⟨_, _, _, _, _, rfl, ((((Ow.Fm.refl.trans h266).same h421).same h423).same h430), (h430 _ _ (h423 _ _ (h421 _ _ h267))), (h430 _ _ (h423 _ _ (h421 _ _ h268))), (h430 _ _ (h423 _ _ (h421 _ _ h269))), (h430 _ _ (h423 _ _ (h421 _ _ h270))), (h430 _ _ (h423 _ _ (h421 _ _ h271))), (h430 _ _ (h423 _ _ (h421 _ _ h272))), (h430 _ _ (h423 _ _ (h421 _ _ h273))), (h430 _ _ (h423 _ _ (h421 _ _ h274))), (h430 _ _ (h423 _ _ (h421 _ _ h275))), trivial⟩
                    · refine iteF ?_
                      exact ⟨_, _, _, _, _, rfl, (((Ow.Fm.refl.trans h266).same h421).same h423), (h423 _ _ (h421 _ _ h267)), (h423 _ _ (h421 _ _ h268)), (h423 _ _ (h421 _ _ h269)), (h423 _ _ (h421 _ _ h270)), (h423 _ _ (h421 _ _ h271)), (h423 _ _ (h421 _ _ h272)), (h423 _ _ (h421 _ _ h273)), (h423 _ _ (h421 _ _ h274)), (h423 _ _ (h421 _ _ h275)), trivial⟩
                · refine ⟨_, rfl, ?_⟩
                  refine ⟨_, rfl, rfl, (by first | (walk_at "o2")), fun B_35 h_B_35 h0_B_35 => ?_⟩
                  refine ⟨_, _, rfl, rfl, ?_⟩
                  refine ⟨_, rfl, ?_⟩
                  refine ⟨_, rfl, ?_⟩
                  refine ⟨_, rfl, ?_⟩
                  refine Or.inr (Or.inl ?_)
                  refine ⟨_, _, _, _, _, _, _, _, rfl, (by first | (walk_at "o2")), (by first | (walk_at "o2")), (by first | (walk_at "o2")), (by first | (walk_at "o2")), h269, (by first | (walk_at "o2")), (by first | (walk_at "o2")), (by first | (walk_at "o2")), (by first | (walk_at "o2")), (by first | (walk_at "o2")), (by first | (walk_at "o2")), (by first | (walk_at "o2")), (by first | (walk_at "o2")), (by first | (walk_at "o2")), fun l_due_21 h432 Hn_123 h433 => ?_⟩
                  refine Ow.gnmS (σ' := [_, _, _, _, _, _, _, _, _, _, _, _]) rfl ?_
                  refine ⟨_, rfl, ?_⟩
                  refine ⟨_, rfl, ?_⟩
                  refine ⟨_, rfl, ?_⟩
                  refine ⟨_, rfl, ?_⟩
                  refine Or.inr (Or.inl ?_)
                  refine ⟨_, _, _, _, fm, _, rfl, (by first | (walk_at "o2")), (by first | (walk_at "o2")), (by first | (walk_at "o2")), (by first | (walk_at "o2")), (h433 _ _ h270), (by first | (walk_at "o2")), (by first | (walk_at "o2")), fun l_found_21 h434 Hn_124 h435 => ?_⟩
                  refine Ow.gnmS (σ' := [_, _, _, _, _, _, _, _, _, _, _, _]) rfl ?_
                  refine ⟨_, rfl, ?_⟩
                  refine ⟨_, _, _, _, true, rfl, .ty _, .base (.bl _), kit_ty (by decide +kernel), ?_⟩
                  refine ⟨_, rfl, ?_⟩
                  refine iteF ?_
                  refine ⟨_, rfl, ?_⟩
                  refine ⟨_, rfl, ?_⟩
                  refine ⟨rfl, ?_⟩
                  refine ⟨_, rfl, ?_⟩
                  refine Ow.ifneb (fun h436 => ?_) (fun h436 => ?_)
                  · try simp only [decide_eq_true_eq, V.int.injEq] at h436
                    exact ((by (subst_vars; first | exact h436 Iff.rfl | exact h436 trivial | exact h436 (Iff.trans (by assumption : _ = true ↔ Ow.Right _ _ _) (Iff.symm (by assumption : _ = true ↔ Ow.AllR _ _ _ _ _ _))) | exact Ow.no_T h436 (by assumption) (by assumption) | exact Ow.no_a h436 (by assumption) (by assumption) | exact Ow.no_b h436 (by assumption) (by assumption) | exact Ow.no_c h436 (by assumption) (by assumption) | exact h436 (Iff.trans (by assumption : _ = true ↔ Ow.WrongF _ _ _ _) (Iff.symm (by assumption : _ = true ↔ Ow.LwR _ _ _ _ _ _ _))))) : False).elim
                  · try simp only [decide_eq_true_eq, V.int.injEq] at h436
                    refine ⟨_, rfl, ?_⟩
                    refine ⟨_, _, rfl, rfl, ?_⟩
                    refine ⟨_, rfl, ?_⟩
                    refine Ow.ifd (fun h437 => ?_) (fun h437 => ?_)
                    · refine ⟨_, rfl, ?_⟩
                      refine ⟨rfl, ?_⟩
                      refine ⟨_, rfl, ?_⟩
                      refine iteF ?_
                      refine ⟨_, rfl, ?_⟩
                      refine Or.inl ?_
                      refine ⟨_, rfl, ?_⟩
                      refine ⟨_, rfl, ?_⟩
                      refine iteT ?_
                      refine ⟨_, rfl, ?_⟩
                      refine ⟨_, rfl, ?_⟩
                      refine ⟨_, rfl, ?_⟩
                      refine ⟨_, rfl, ?_⟩
                      refine ⟨_, rfl, ?_⟩
                      refine ⟨_, _, _, _, _, _, _, rfl, (by first | (walk_at "o2")), (by first | (walk_at "o2")), (by first | (walk_at "o2")), (by first | (walk_at "o2")), (h435 _ _ (h433 _ _ h269)), (by first | (walk_at "o2")), (by first | (walk_at "o2")), (by first | (walk_at "o2")), (by first | (walk_at "o2")), (by first | (walk_at "o2")), (by first | (walk_at "o2")), (by first | (walk_at "o2")), (by first | (walk_at "o2")), (by first | (walk_at "o2")), ?_, ?_⟩
                      · refine fun h438 Hn_125 h439 => ?_
                        refine ⟨rfl, ?_⟩
                        refine ⟨rfl, ?_⟩
                        refine ⟨_, rfl, ?_⟩
                        refine Ow.ifneb (fun h440 => ?_) (fun h440 => ?_)
                        · try simp only [decide_eq_true_eq, V.int.injEq] at h440
                          exact ((by (subst_vars; first | exact h440 Iff.rfl | exact h440 trivial | exact h440 (Iff.trans (by assumption : _ = true ↔ Ow.Right _ _ _) (Iff.symm (by assumption : _ = true ↔ Ow.AllR _ _ _ _ _ _))) | exact Ow.no_T h440 (by assumption) (by assumption) | exact Ow.no_a h440 (by assumption) (by assumption) | exact Ow.no_b h440 (by assumption) (by assumption) | exact Ow.no_c h440 (by assumption) (by assumption) | exact h440 (Iff.trans (by assumption : _ = true ↔ Ow.WrongF _ _ _ _) (Iff.symm (by assumption : _ = true ↔ Ow.LwR _ _ _ _ _ _ _))))) : False).elim
                        · try simp only [decide_eq_true_eq, V.int.injEq] at h440
                          exact ⟨_, _, _, _, _, rfl, ((((Ow.Fm.refl.trans h266).same h433).same h435).same h439), (h439 _ _ (h435 _ _ (h433 _ _ h267))), (h439 _ _ (h435 _ _ (h433 _ _ h268))), (h439 _ _ (h435 _ _ (h433 _ _ h269))), (h439 _ _ (h435 _ _ (h433 _ _ h270))), (h439 _ _ (h435 _ _ (h433 _ _ h271))), (h439 _ _ (h435 _ _ (h433 _ _ h272))), (h439 _ _ (h435 _ _ (h433 _ _ h273))), (h439 _ _ (h435 _ _ (h433 _ _ h274))), (h439 _ _ (h435 _ _ (h433 _ _ h275))), trivial⟩
                      · refine fun t_28 h441 Hn_126 h442 => ?_
                        refine ⟨rfl, ?_⟩
                        refine ⟨rfl, ?_⟩
                        refine ⟨_, rfl, ?_⟩
                        refine Ow.ifneb (fun h443 => ?_) (fun h443 => ?_)
                        · try simp only [decide_eq_true_eq, V.int.injEq] at h443
                          exact ((by (subst_vars; first | exact h443 Iff.rfl | exact h443 trivial | exact h443 (Iff.trans (by assumption : _ = true ↔ Ow.Right _ _ _) (Iff.symm (by assumption : _ = true ↔ Ow.AllR _ _ _ _ _ _))) | exact Ow.no_T h443 (by assumption) (by assumption) | exact Ow.no_a h443 (by assumption) (by assumption) | exact Ow.no_b h443 (by assumption) (by assumption) | exact Ow.no_c h443 (by assumption) (by assumption) | exact h443 (Iff.trans (by assumption : _ = true ↔ Ow.WrongF _ _ _ _) (Iff.symm (by assumption : _ = true ↔ Ow.LwR _ _ _ _ _ _ _))))) : False).elim
                        · try simp only [decide_eq_true_eq, V.int.injEq] at h443
                          exact ⟨_, _, _, _, _, rfl, ((((Ow.Fm.refl.trans h266).same h433).same h435).same h442), (h442 _ _ (h435 _ _ (h433 _ _ h267))), (h442 _ _ (h435 _ _ (h433 _ _ h268))), (h442 _ _ (h435 _ _ (h433 _ _ h269))), (h442 _ _ (h435 _ _ (h433 _ _ h270))), (h442 _ _ (h435 _ _ (h433 _ _ h271))), (h442 _ _ (h435 _ _ (h433 _ _ h272))), (h442 _ _ (h435 _ _ (h433 _ _ h273))), (h442 _ _ (h435 _ _ (h433 _ _ h274))), (h442 _ _ (h435 _ _ (h433 _ _ h275))), trivial⟩
                    · refine iteF ?_
                      exact ⟨_, _, _, _, _, rfl, (((Ow.Fm.refl.trans h266).same h433).same h435), (h435 _ _ (h433 _ _ h267)), (h435 _ _ (h433 _ _ h268)), (h435 _ _ (h433 _ _ h269)), (h435 _ _ (h433 _ _ h270)), (h435 _ _ (h433 _ _ h271)), (h435 _ _ (h433 _ _ h272)), (h435 _ _ (h433 _ _ h273)), (h435 _ _ (h433 _ _ h274)), (h435 _ _ (h433 _ _ h275)), trivial⟩
                · refine ⟨_, rfl, ?_⟩
                  refine ⟨_, rfl, rfl, (by first | (walk_at "o2")), fun B_36 h_B_36 h0_B_36 => ?_⟩
                  refine ⟨_, _, rfl, rfl, ?_⟩
                  refine ⟨_, rfl, ?_⟩
                  refine ⟨_, rfl, ?_⟩
                  refine ⟨_, rfl, ?_⟩
                  refine Or.inr (Or.inl ?_)
                  refine ⟨_, _, _, _, _, _, _, _, rfl, (by first | (walk_at "o2")), (by first | (walk_at "o2")), (by first | (walk_at "o2")), (by first | (walk_at "o2")), h269, (by first | (walk_at "o2")), (by first | (walk_at "o2")), (by first | (walk_at "o2")), (by first | (walk_at "o2")), (by first | (walk_at "o2")), (by first | (walk_at "o2")), (by first | (walk_at "o2")), (by first | (walk_at "o2")), (by first | (walk_at "o2")), fun l_due_22 h444 Hn_127 h445 => ?_⟩
                  refine Ow.gnmS (σ' := [_, _, _, _, _, _, _, _, _, _, _, _]) rfl ?_
                  refine ⟨_, rfl, ?_⟩
                  refine ⟨_, rfl, ?_⟩
                  refine ⟨_, rfl, ?_⟩
                  refine ⟨_, rfl, ?_⟩
                  refine Or.inr (Or.inl ?_)
                  refine ⟨_, _, _, _, fm, _, rfl, (by first | (walk_at "o2")), (by first | (walk_at "o2")), (by first | (walk_at "o2")), (by first | (walk_at "o2")), (h445 _ _ h270), (by first | (walk_at "o2")), (by first | (walk_at "o2")), fun l_found_22 h446 Hn_128 h447 => ?_⟩
                  refine Ow.gnmS (σ' := [_, _, _, _, _, _, _, _, _, _, _, _]) rfl ?_
                  refine ⟨_, rfl, ?_⟩
                  refine ⟨_, _, _, _, true, rfl, .ty _, .base (.bl _), kit_ty (by decide +kernel), ?_⟩
                  refine ⟨_, rfl, ?_⟩
                  refine iteF ?_
                  refine ⟨_, rfl, ?_⟩
                  refine ⟨_, rfl, ?_⟩
                  refine ⟨rfl, ?_⟩
                  refine ⟨_, rfl, ?_⟩
                  refine Ow.ifneb (fun h448 => ?_) (fun h448 => ?_)
                  · try simp only [decide_eq_true_eq, V.int.injEq] at h448
                    exact ((by (subst_vars; first | exact h448 Iff.rfl | exact h448 trivial | exact h448 (Iff.trans (by assumption : _ = true ↔ Ow.Right _ _ _) (Iff.symm (by assumption : _ = true ↔ Ow.AllR _ _ _ _ _ _))) | exact Ow.no_T h448 (by assumption) (by assumption) | exact Ow.no_a h448 (by assumption) (by assumption) | exact Ow.no_b h448 (by assumption) (by assumption) | exact Ow.no_c h448 (by assumption) (by assumption) | exact h448 (Iff.trans (by assumption : _ = true ↔ Ow.WrongF _ _ _ _) (Iff.symm (by assumption : _ = true ↔ Ow.LwR _ _ _ _ _ _ _))))) : False).elim
                  · try simp only [decide_eq_true_eq, V.int.injEq] at h448
                    refine ⟨_, rfl, ?_⟩
                    refine ⟨_, _, rfl, rfl, ?_⟩
                    refine ⟨_, rfl, ?_⟩
                    refine Ow.ifd (fun h449 => ?_) (fun h449 => ?_)
                    · refine ⟨_, rfl, ?_⟩
                      refine ⟨rfl, ?_⟩
                      refine ⟨_, rfl, ?_⟩
                      refine iteF ?_
                      refine ⟨_, rfl, ?_⟩
                      refine Or.inl ?_
                      refine ⟨_, rfl, ?_⟩
                      refine ⟨_, rfl, ?_⟩
                      refine iteT ?_
                      refine ⟨_, rfl, ?_⟩
                      refine ⟨_, rfl, ?_⟩
                      refine ⟨_, rfl, ?_⟩
                      refine ⟨_, rfl, ?_⟩
                      refine ⟨_, rfl, ?_⟩
                      refine ⟨_, _, _, _, _, _, _, rfl, (by first | (walk_at "o2")), (by first | (walk_at "o2")), (by first | (walk_at "o2")), (by first | (walk_at "o2")), (h447 _ _ (h445 _ _ h269)), (by first | (walk_at "o2")), (by first | (walk_at "o2")), (by first | (walk_at "o2")), (by first | (walk_at "o2")), (by first | (walk_at "o2")), (by first | (walk_at "o2")), (by first | (walk_at "o2")), (by first | (walk_at "o2")), (by first | (walk_at "o2")), ?_, ?_⟩
                      · refine fun h450 Hn_129 h451 => ?_
                        refine ⟨rfl, ?_⟩
                        refine ⟨rfl, ?_⟩
                        refine ⟨_, rfl, ?_⟩
                        refine Ow.ifneb (fun h452 => ?_) (fun h452 => ?_)
                        · try simp only [decide_eq_true_eq, V.int.injEq] at h452
                          exact ((by (subst_vars; first | exact h452 Iff.rfl | exact h452 trivial | exact h452 (Iff.trans (by assumption : _ = true ↔ Ow.Right _ _ _) (Iff.symm (by assumption : _ = true ↔ Ow.AllR _ _ _ _ _ _))) | exact Ow.no_T h452 (by assumption) (by assumption) | exact Ow.no_a h452 (by assumption) (by assumption) | exact Ow.no_b h452 (by assumption) (by assumption) | exact Ow.no_c h452 (by assumption) (by assumption) | exact h452 (Iff.trans (by assumption : _ = true ↔ Ow.WrongF _ _ _ _) (Iff.symm (by assumption : _ = true ↔ Ow.LwR _ _ _ _ _ _ _))))) : False).elim
                        · try simp only [decide_eq_true_eq, V.int.injEq] at h452
                          exact ⟨_, _, _, _, _, rfl, ((((Ow.Fm.refl.trans h266).same h445).same h447).same h451), (h451 _ _ (h447 _ _ (h445 _ _ h267))), (h451 _ _ (h447 _ _ (h445 _ _ h268))), (h451 _ _ (h447 _ _ (h445 _ _ h269))), (h451 _ _ (h447 _ _ (h445 _ _ h270))), (h451 _ _ (h447 _ _ (h445 _ _ h271))), (h451 _ _ (h447 _ _ (h445 _ _ h272))), (h451 _ _ (h447 _ _ (h445 _ _ h273))), (h451 _ _ (h447 _ _ (h445 _ _ h274))), (h451 _ _ (h447 _ _ (h445 _ _ h275))), trivial⟩
                      · refine fun t_29 h453 Hn_130 h454 => ?_
                        refine ⟨rfl, ?_⟩
                        refine ⟨rfl, ?_⟩
                        refine ⟨_, rfl, ?_⟩
                        refine Ow.ifneb (fun h455 => ?_) (fun h455 => ?_)
                        · try simp only [decide_eq_true_eq, V.int.injEq] at h455
                          exact ((by (subst_vars; first | exact h455 Iff.rfl | exact h455 trivial | exact h455 (Iff.trans (by assumption : _ = true ↔ Ow.Right _ _ _) (Iff.symm (by assumption : _ = true ↔ Ow.AllR _ _ _ _ _ _))) | exact Ow.no_T h455 (by assumption) (by assumption) | exact Ow.no_a h455 (by assumption) (by assumption) | exact Ow.no_b h455 (by assumption) (by assumption) | exact Ow.no_c h455 (by assumption) (by assumption) | exact h455 (Iff.trans (by assumption : _ = true ↔ Ow.WrongF _ _ _ _) (Iff.symm (by assumption : _ = true ↔ Ow.LwR _ _ _ _ _ _ _))))) : False).elim
                        · try simp only [decide_eq_true_eq, V.int.injEq] at h455
                          exact ⟨_, _, _, _, _, rfl, ((((Ow.Fm.refl.trans h266).same h445).same h447).same h454), (h454 _ _ (h447 _ _ (h445 _ _ h267))), (h454 _ _ (h447 _ _ (h445 _ _ h268))), (h454 _ _ (h447 _ _ (h445 _ _ h269))), (h454 _ _ (h447 _ _ (h445 _ _ h270))), (h454 _ _ (h447 _ _ (h445 _ _ h271))), (h454 _ _ (h447 _ _ (h445 _ _ h272))), (h454 _ _ (h447 _ _ (h445 _ _ h273))), (h454 _ _ (h447 _ _ (h445 _ _ h274))), (h454 _ _ (h447 _ _ (h445 _ _ h275))), trivial⟩
                    · refine iteF ?_
                      exact ⟨_, _, _, _, _, rfl, (((Ow.Fm.refl.trans h266).same h445).same h447), (h447 _ _ (h445 _ _ h267)), (h447 _ _ (h445 _ _ h268)), (h447 _ _ (h445 _ _ h269)), (h447 _ _ (h445 _ _ h270)), (h447 _ _ (h445 _ _ h271)), (h447 _ _ (h445 _ _ h272)), (h447 _ _ (h445 _ _ h273)), (h447 _ _ (h445 _ _ h274)), (h447 _ _ (h445 _ _ h275)), trivial⟩
                · refine ⟨_, rfl, ?_⟩
                  refine ⟨_, rfl, rfl, (by first | (walk_at "o2")), fun B_37 h_B_37 h0_B_37 => ?_⟩
                  refine ⟨_, _, rfl, rfl, ?_⟩
                  refine ⟨_, rfl, ?_⟩
                  refine ⟨_, rfl, ?_⟩
                  refine ⟨_, rfl, ?_⟩
                  refine Or.inr (Or.inl ?_)
                  refine ⟨_, _, _, _, _, _, _, _, rfl, (by first | (walk_at "o2")), (by first | (walk_at "o2")), (by first | (walk_at "o2")), (by first | (walk_at "o2")), h269, (by first | (walk_at "o2")), (by first | (walk_at "o2")), (by first | (walk_at "o2")), (by first | (walk_at "o2")), (by first | (walk_at "o2")), (by first | (walk_at "o2")), (by first | (walk_at "o2")), (by first | (walk_at "o2")), (by first | (walk_at "o2")), fun l_due_23 h456 Hn_131 h457 => ?_⟩
                  refine Ow.gnmS (σ' := [_, _, _, _, _, _, _, _, _, _, _, _]) rfl ?_
                  refine ⟨_, rfl, ?_⟩
                  refine ⟨_, rfl, ?_⟩
                  refine ⟨_, rfl, ?_⟩
                  refine ⟨_, rfl, ?_⟩
                  refine Or.inr (Or.inl ?_)
                  refine ⟨_, _, _, _, fm, _, rfl, (by first | (walk_at "o2")), (by first | (walk_at "o2")), (by first | (walk_at "o2")), (by first | (walk_at "o2")), (h457 _ _ h270), (by first | (walk_at "o2")), (by first | (walk_at "o2")), fun l_found_23 h458 Hn_132 h459 => ?_⟩
                  refine Ow.gnmS (σ' := [_, _, _, _, _, _, _, _, _, _, _, _]) rfl ?_
                  refine ⟨_, rfl, ?_⟩
                  refine ⟨_, _, _, _, true, rfl, .ty _, .base (.bl _), kit_ty (by decide +kernel), ?_⟩
                  refine ⟨_, rfl, ?_⟩
                  refine iteF ?_
                  refine ⟨_, rfl, ?_⟩
                  refine ⟨_, rfl, ?_⟩
                  refine ⟨rfl, ?_⟩
                  refine ⟨_, rfl, ?_⟩
                  refine Ow.ifneb (fun h460 => ?_) (fun h460 => ?_)
                  · try simp only [decide_eq_true_eq, V.int.injEq] at h460
                    exact ((by (subst_vars; first | exact h460 Iff.rfl | exact h460 trivial | exact h460 (Iff.trans (by assumption : _ = true ↔ Ow.Right _ _ _) (Iff.symm (by assumption : _ = true ↔ Ow.AllR _ _ _ _ _ _))) | exact Ow.no_T h460 (by assumption) (by assumption) | exact Ow.no_a h460 (by assumption) (by assumption) | exact Ow.no_b h460 (by assumption) (by assumption) | exact Ow.no_c h460 (by assumption) (by assumption) | exact h460 (Iff.trans (by assumption : _ = true ↔ Ow.WrongF _ _ _ _) (Iff.symm (by assumption : _ = true ↔ Ow.LwR _ _ _ _ _ _ _))))) : False).elim
                  · try simp only [decide_eq_true_eq, V.int.injEq] at h460
                    refine ⟨_, rfl, ?_⟩
                    refine ⟨_, _, rfl, rfl, ?_⟩
                    refine ⟨_, rfl, ?_⟩
                    refine Ow.ifd (fun h461 => ?_) (fun h461 => ?_)
                    · refine ⟨_, rfl, ?_⟩
                      refine ⟨rfl, ?_⟩
                      refine ⟨_, rfl, ?_⟩
                      refine iteF ?_
                      refine ⟨_, rfl, ?_⟩
                      refine Or.inl ?_
                      refine ⟨_, rfl, ?_⟩
                      refine ⟨_, rfl, ?_⟩
                      refine iteT ?_
                      refine ⟨_, rfl, ?_⟩
                      refine ⟨_, rfl, ?_⟩
                      refine ⟨_, rfl, ?_⟩
                      refine ⟨_, rfl, ?_⟩
                      refine ⟨_, rfl, ?_⟩
                      refine ⟨_, _, _, _, _, _, _, rfl, (by first | (walk_at "o2")), (by first | (walk_at "o2")), (by first | (walk_at "o2")), (by first | (walk_at "o2")), (h459 _ _ (h457 _ _ h269)), (by first | (walk_at "o2")), (by first | (walk_at "o2")), (by first | (walk_at "o2")), (by first | (walk_at "o2")), (by first | (walk_at "o2")), (by first | (walk_at "o2")), (by first | (walk_at "o2")), (by first | (walk_at "o2")), (by first | (walk_at "o2")), ?_, ?_⟩
                      · refine fun h462 Hn_133 h463 => ?_
                        refine ⟨rfl, ?_⟩
                        refine ⟨rfl, ?_⟩
                        refine ⟨_, rfl, ?_⟩
                        refine Ow.ifneb (fun h464 => ?_) (fun h464 => ?_)
                        · try simp only [decide_eq_true_eq, V.int.injEq] at h464
                          exact ((by (subst_vars; first | exact h464 Iff.rfl | exact h464 trivial | exact h464 (Iff.trans (by assumption : _ = true ↔ Ow.Right _ _ _) (Iff.symm (by assumption : _ = true ↔ Ow.AllR _ _ _ _ _ _))) | exact Ow.no_T h464 (by assumption) (by assumption) | exact Ow.no_a h464 (by assumption) (by assumption) | exact Ow.no_b h464 (by assumption) (by assumption) | exact Ow.no_c h464 (by assumption) (by assumption) | exact h464 (Iff.trans (by assumption : _ = true ↔ Ow.WrongF _ _ _ _) (Iff.symm (by assumption : _ = true ↔ Ow.LwR _ _ _ _ _ _ _))))) : False).elim
                        · try simp only [decide_eq_true_eq, V.int.injEq] at h464
                          exact ⟨_, _, _, _, _, rfl, ((((Ow.Fm.refl.trans h266).same h457).same h459).same h463), (h463 _ _ (h459 _ _ (h457 _ _ h267))), (h463 _ _ (h459 _ _ (h457 _ _ h268))), (h463 _ _ (h459 _ _ (h457 _ _ h269))), (h463 _ _ (h459 _ _ (h457 _ _ h270))), (h463 _ _ (h459 _ _ (h457 _ _ h271))), (h463 _ _ (h459 _ _ (h457 _ _ h272))), (h463 _ _ (h459 _ _ (h457 _ _ h273))), (h463 _ _ (h459 _ _ (h457 _ _ h274))), (h463 _ _ (h459 _ _ (h457 _ _ h275))), trivial⟩
                      · refine fun t_30 h465 Hn_134 h466 => ?_
                        refine ⟨rfl, ?_⟩
                        refine ⟨rfl, ?_⟩
                        refine ⟨_, rfl, ?_⟩
                        refine Ow.ifneb (fun h467 => ?_) (fun h467 => ?_)
                        · try simp only [decide_eq_true_eq, V.int.injEq] at h467
                          exact ((by (subst_vars; first | exact h467 Iff.rfl | exact h467 trivial | exact h467 (Iff.trans (by assumption : _ = true ↔ Ow.Right _ _ _) (Iff.symm (by assumption : _ = true ↔ Ow.AllR _ _ _ _ _ _))) | exact Ow.no_T h467 (by assumption) (by assumption) | exact Ow.no_a h467 (by assumption) (by assumption) | exact Ow.no_b h467 (by assumption) (by assumption) | exact Ow.no_c h467 (by assumption) (by assumption) | exact h467 (Iff.trans (by assumption : _ = true ↔ Ow.WrongF _ _ _ _) (Iff.symm (by assumption : _ = true ↔ Ow.LwR _ _ _ _ _ _ _))))) : False).elim
                        · try simp only [decide_eq_true_eq, V.int.injEq] at h467
                          exact ⟨_, _, _, _, _, rfl, ((((Ow.Fm.refl.trans h266).same h457).same h459).same h466), (h466 _ _ (h459 _ _ (h457 _ _ h267))), (h466 _ _ (h459 _ _ (h457 _ _ h268))), (h466 _ _ (h459 _ _ (h457 _ _ h269))), (h466 _ _ (h459 _ _ (h457 _ _ h270))), (h466 _ _ (h459 _ _ (h457 _ _ h271))), (h466 _ _ (h459 _ _ (h457 _ _ h272))), (h466 _ _ (h459 _ _ (h457 _ _ h273))), (h466 _ _ (h459 _ _ (h457 _ _ h274))), (h466 _ _ (h459 _ _ (h457 _ _ h275))), trivial⟩
                    · refine iteF ?_
                      exact ⟨_, _, _, _, _, rfl, (((Ow.Fm.refl.trans h266).same h457).same h459), (h459 _ _ (h457 _ _ h267)), (h459 _ _ (h457 _ _ h268)), (h459 _ _ (h457 _ _ h269)), (h459 _ _ (h457 _ _ h270)), (h459 _ _ (h457 _ _ h271)), (h459 _ _ (h457 _ _ h272)), (h459 _ _ (h457 _ _ h273)), (h459 _ _ (h457 _ _ h274)), (h459 _ _ (h457 _ _ h275)), trivial⟩
                · refine ⟨_, rfl, ?_⟩
                  refine ⟨_, rfl, rfl, (by first | (walk_at "o2")), fun B_38 h_B_38 h0_B_38 => ?_⟩
                  refine ⟨_, _, rfl, rfl, ?_⟩
                  refine ⟨_, rfl, ?_⟩
                  refine ⟨_, rfl, ?_⟩
                  refine ⟨_, rfl, ?_⟩
                  refine Or.inr (Or.inr (Or.inr (Or.inl ?_)))
                  refine ⟨_, _, _, _, _, _, _, _, rfl, (by first | (walk_at "o2")), (by first | (walk_at "o2")), (by first | (walk_at "o2")), (by first | (walk_at "o2")), h269, (by first | (walk_at "o2")), (by first | (walk_at "o2")), (by first | (walk_at "o2")), (by first | (walk_at "o2")), (by first | (walk_at "o2")), (by first | (walk_at "o2")), (by first | (walk_at "o2")), (by first | (walk_at "o2")), (by first | (walk_at "o2")), fun Hn_135 h468 => ?_⟩
                  refine Ow.gnmS (σ' := [_, _, _, _, _, _, _, _, _, _, _, _]) rfl ?_
                  refine ⟨_, rfl, ?_⟩
                  refine ⟨_, rfl, ?_⟩
                  refine ⟨_, rfl, ?_⟩
                  refine ⟨_, rfl, ?_⟩
                  refine Or.inr (Or.inr (Or.inr (Or.inl ?_)))
                  refine ⟨_, _, _, _, fm, _, rfl, (by first | (walk_at "o2")), (by first | (walk_at "o2")), (by first | (walk_at "o2")), (by first | (walk_at "o2")), (h468 _ _ h270), (by first | (walk_at "o2")), (by first | (walk_at "o2")), fun Hn_136 h469 => ?_⟩
                  refine Ow.gnmS (σ' := [_, _, _, _, _, _, _, _, _, _, _, _]) rfl ?_
                  refine ⟨_, rfl, ?_⟩
                  refine ⟨_, _, _, _, true, rfl, .ty _, .base (.bl _), kit_ty (by decide +kernel), ?_⟩
                  refine ⟨_, rfl, ?_⟩
                  refine iteF ?_
                  refine ⟨_, rfl, ?_⟩
                  refine ⟨_, rfl, ?_⟩
                  refine ⟨rfl, ?_⟩
                  refine ⟨_, rfl, ?_⟩
                  refine Ow.ifneb (fun h470 => ?_) (fun h470 => ?_)
                  · try simp only [decide_eq_true_eq, V.int.injEq] at h470
                    exact ((by (subst_vars; first | exact h470 Iff.rfl | exact h470 trivial | exact h470 (Iff.trans (by assumption : _ = true ↔ Ow.Right _ _ _) (Iff.symm (by assumption : _ = true ↔ Ow.AllR _ _ _ _ _ _))) | exact Ow.no_T h470 (by assumption) (by assumption) | exact Ow.no_a h470 (by assumption) (by assumption) | exact Ow.no_b h470 (by assumption) (by assumption) | exact Ow.no_c h470 (by assumption) (by assumption) | exact h470 (Iff.trans (by assumption : _ = true ↔ Ow.WrongF _ _ _ _) (Iff.symm (by assumption : _ = true ↔ Ow.LwR _ _ _ _ _ _ _))))) : False).elim
                  · try simp only [decide_eq_true_eq, V.int.injEq] at h470
                    refine ⟨_, rfl, ?_⟩
                    refine ⟨_, _, rfl, rfl, ?_⟩
                    refine ⟨_, rfl, ?_⟩
                    refine Ow.ifd (fun h471 => ?_) (fun h471 => ?_)
                    · refine ⟨_, rfl, ?_⟩
                      refine ⟨rfl, ?_⟩
                      refine ⟨_, rfl, ?_⟩
                      refine iteF ?_
                      refine ⟨_, rfl, ?_⟩
                      refine Or.inr (Or.inr (Or.inr (Or.inl ?_)))
                      refine ⟨_, rfl, ?_⟩
                      refine ⟨_, rfl, ?_⟩
                      refine iteF ?_
                      refine iteF ?_
                      exact ⟨_, _, _, _, _, rfl, (((Ow.Fm.refl.trans h266).same h468).same h469), (h469 _ _ (h468 _ _ h267)), (h469 _ _ (h468 _ _ h268)), (h469 _ _ (h468 _ _ h269)), (h469 _ _ (h468 _ _ h270)), (h469 _ _ (h468 _ _ h271)), (h469 _ _ (h468 _ _ h272)), (h469 _ _ (h468 _ _ h273)), (h469 _ _ (h468 _ _ h274)), (h469 _ _ (h468 _ _ h275)), trivial⟩
                    · refine iteF ?_
                      exact ⟨_, _, _, _, _, rfl, (((Ow.Fm.refl.trans h266).same h468).same h469), (h469 _ _ (h468 _ _ h267)), (h469 _ _ (h468 _ _ h268)), (h469 _ _ (h468 _ _ h269)), (h469 _ _ (h468 _ _ h270)), (h469 _ _ (h468 _ _ h271)), (h469 _ _ (h468 _ _ h272)), (h469 _ _ (h468 _ _ h273)), (h469 _ _ (h468 _ _ h274)), (h469 _ _ (h468 _ _ h275)), trivial⟩
                · refine ⟨_, rfl, ?_⟩
                  refine ⟨_, rfl, rfl, (by first | (walk_at "o2")), fun B_39 h_B_39 h0_B_39 => ?_⟩
                  refine ⟨_, _, rfl, rfl, ?_⟩
                  refine ⟨_, rfl, ?_⟩
                  refine ⟨_, rfl, ?_⟩
                  refine ⟨_, rfl, ?_⟩
                  refine Or.inr (Or.inr (Or.inr (Or.inr (Or.inl ?_))))
                  refine ⟨_, _, _, _, _, _, _, _, _, rfl, (by first | (walk_at "o2")), (by first | (walk_at "o2")), (by first | (walk_at "o2")), (by first | (walk_at "o2")), h269, (by first | (walk_at "o2")), (by first | (walk_at "o2")), (by first | (walk_at "o2")), (by first | (walk_at "o2")), (by first | (walk_at "o2")), (by first | (walk_at "o2")), (by first | (walk_at "o2")), (by first | (walk_at "o2")), (by first | (walk_at "o2")), h275, fun Hn_137 h472 => ?_⟩
                  refine Ow.gnmS (σ' := [_, _, _, _, _, _, _, _, _, _, _, _]) rfl ?_
                  refine ⟨_, rfl, ?_⟩
                  refine ⟨_, rfl, ?_⟩
                  refine ⟨_, rfl, ?_⟩
                  refine ⟨_, rfl, ?_⟩
                  refine Or.inr (Or.inr (Or.inr (Or.inr (Or.inl ?_))))
                  refine ⟨_, _, _, _, fm, _, _, rfl, (by first | (walk_at "o2")), (by first | (walk_at "o2")), (by first | (walk_at "o2")), (by first | (walk_at "o2")), (h472 _ _ h270), (by first | (walk_at "o2")), (by first | (walk_at "o2")), (h472 _ _ h275), fun Hn_138 h473 => ?_⟩
                  refine Ow.gnmS (σ' := [_, _, _, _, _, _, _, _, _, _, _, _]) rfl ?_
                  refine ⟨_, rfl, ?_⟩
                  refine ⟨_, _, _, _, true, rfl, .ty _, .base (.bl _), kit_ty (by decide +kernel), ?_⟩
                  refine ⟨_, rfl, ?_⟩
                  refine iteF ?_
                  refine ⟨_, rfl, ?_⟩
                  refine ⟨_, rfl, ?_⟩
                  refine ⟨rfl, ?_⟩
                  refine ⟨_, rfl, ?_⟩
                  refine Ow.ifneb (fun h474 => ?_) (fun h474 => ?_)
                  · try simp only [decide_eq_true_eq, V.int.injEq] at h474
                    exact ((by (subst_vars; first | exact h474 Iff.rfl | exact h474 trivial | exact h474 (Iff.trans (by assumption : _ = true ↔ Ow.Right _ _ _) (Iff.symm (by assumption : _ = true ↔ Ow.AllR _ _ _ _ _ _))) | exact Ow.no_T h474 (by assumption) (by assumption) | exact Ow.no_a h474 (by assumption) (by assumption) | exact Ow.no_b h474 (by assumption) (by assumption) | exact Ow.no_c h474 (by assumption) (by assumption) | exact h474 (Iff.trans (by assumption : _ = true ↔ Ow.WrongF _ _ _ _) (Iff.symm (by assumption : _ = true ↔ Ow.LwR _ _ _ _ _ _ _))))) : False).elim
                  · try simp only [decide_eq_true_eq, V.int.injEq] at h474
                    refine ⟨_, rfl, ?_⟩
                    refine ⟨_, _, rfl, rfl, ?_⟩
                    refine ⟨_, rfl, ?_⟩
                    refine Ow.ifd (fun h475 => ?_) (fun h475 => ?_)
                    · refine ⟨_, rfl, ?_⟩
                      refine ⟨rfl, ?_⟩
                      refine ⟨_, rfl, ?_⟩
                      refine iteF ?_
                      refine ⟨_, rfl, ?_⟩
                      refine Or.inr (Or.inr (Or.inr (Or.inr (Or.inl ?_))))
                      refine ⟨_, _, rfl, (h473 _ _ (h472 _ _ h275)), ?_⟩
                      refine ⟨_, rfl, ?_⟩
                      refine iteF ?_
                      refine iteF ?_
                      exact ⟨_, _, _, _, _, rfl, (((Ow.Fm.refl.trans h266).same h472).same h473), (h473 _ _ (h472 _ _ h267)), (h473 _ _ (h472 _ _ h268)), (h473 _ _ (h472 _ _ h269)), (h473 _ _ (h472 _ _ h270)), (h473 _ _ (h472 _ _ h271)), (h473 _ _ (h472 _ _ h272)), (h473 _ _ (h472 _ _ h273)), (h473 _ _ (h472 _ _ h274)), (h473 _ _ (h472 _ _ h275)), trivial⟩
                    · refine iteF ?_
                      exact ⟨_, _, _, _, _, rfl, (((Ow.Fm.refl.trans h266).same h472).same h473), (h473 _ _ (h472 _ _ h267)), (h473 _ _ (h472 _ _ h268)), (h473 _ _ (h472 _ _ h269)), (h473 _ _ (h472 _ _ h270)), (h473 _ _ (h472 _ _ h271)), (h473 _ _ (h472 _ _ h272)), (h473 _ _ (h472 _ _ h273)), (h473 _ _ (h472 _ _ h274)), (h473 _ _ (h472 _ _ h275)), trivial⟩
              · rintro _ Hn_139 ⟨a9_7, c9_7, _, _, _, rfl, h476, h477, h478, h479, h480, h481, h482, h483, h484, h485, _⟩
                exact kont a9_7 c9_7 _ (Ow.Fm.refl.trans h476) h477
      · refine fun t_31 h486 Hn_140 h487 => ?_
        refine ⟨by show 2 ≤ sizeLine; decide, fun p_9 h_p_9 => ?_⟩
        refine ⟨_, rfl, ⟨_, (SqL.of upd_same)⟩, ?_⟩
        refine Ow.un_start (K := K) (a := p_9) (xs := [.non, .int (t_31)]) ?_
        refine ⟨(SqL.of upd_same), ?_⟩
        refine ⟨_, rfl, ?_⟩
        refine ⟨_, rfl, ?_⟩
        refine ⟨_, rfl, ?_⟩
        refine ⟨_, rfl, ?_⟩
        refine Or.inl ?_
        refine ⟨_, _, _, fm, _, rfl, (by first | (walk_at "o2")), (by first | (walk_at "o2")), (by first | (walk_at "o2")), (by first | (walk_at "o2")), (Ow.at_new h_p_9 (h487 _ _ (h33 _ _ (Ow.ne_sym (ne_of_none (h22 _ _ h19) h26)) h27))), (by first | (walk_at "o2")), (by first | (walk_at "o2")), fun t_32 h488 Hn_141 h489 => ?_⟩
        refine ⟨_, rfl, ?_⟩
        refine ⟨_, rfl, rfl, (by first | (walk_at "o2")), fun B_40 h_B_40 h0_B_40 => ?_⟩
        refine ⟨_, _, rfl, rfl, ?_⟩
        refine ⟨_, rfl, ?_⟩
        refine ⟨_, rfl, ?_⟩
        refine ⟨_, rfl, ?_⟩
        refine ⟨_, _, fm, rfl, (by first | (walk_at "o2")), (by first | (walk_at "o2")), (h489 _ _ (Ow.at_new h_p_9 (h487 _ _ (Ow.at_fmT h33 (h25 _ _ (h22 _ _ h19)) (h25 _ _ (h22 _ _ h21)))))), (by first | (walk_at "o2")), fun p_10 Hn_142 h490 h491 h492 => ?_⟩
        refine ⟨_, rfl, ?_⟩
        refine Or.inl ?_
        refine ⟨_, _, _, _, _, _, _, rfl, (by first | (walk_at "o2")), (by first | (walk_at "o2")), (by first | (walk_at "o2")), (by first | (walk_at "o2")), h492, (by first | (walk_at "o2")), (by first | (walk_at "o2")), (by first | (walk_at "o2")), (by first | (walk_at "o2")), (by first | (walk_at "o2")), (by first | (walk_at "o2")), (by first | (walk_at "o2")), (by first | (walk_at "o2")), (by first | (walk_at "o2")), fun t_33 h493 Hn_143 h494 => ?_⟩
        refine ⟨rfl, ?_⟩
        refine ⟨_, rfl, ?_⟩
        refine Ow.ifneb (fun h495 => ?_) (fun h495 => ?_)
        · try simp only [decide_eq_true_eq, V.int.injEq] at h495
          exact ((by (subst_vars; first | exact h495 Iff.rfl | exact h495 trivial | exact h495 (Iff.trans (by assumption : _ = true ↔ Ow.Right _ _ _) (Iff.symm (by assumption : _ = true ↔ Ow.AllR _ _ _ _ _ _))) | exact Ow.no_T h495 (by assumption) (by assumption) | exact Ow.no_a h495 (by assumption) (by assumption) | exact Ow.no_b h495 (by assumption) (by assumption) | exact Ow.no_c h495 (by assumption) (by assumption) | exact h495 (Iff.trans (by assumption : _ = true ↔ Ow.WrongF _ _ _ _) (Iff.symm (by assumption : _ = true ↔ Ow.LwR _ _ _ _ _ _ _))))) : False).elim
        · try simp only [decide_eq_true_eq, V.int.injEq] at h495
          refine ⟨(SqL.of (h494 _ _ (h490 _ _ (h489 _ _ upd_same)))), ?_⟩
          refine ⟨_, rfl, ?_⟩
          refine ⟨_, rfl, ?_⟩
          refine ⟨_, rfl, ?_⟩
          refine ⟨_, rfl, ?_⟩
          refine Or.inr (Or.inl ?_)
          refine ⟨_, _, _, _, fm, _, rfl, (by first | (walk_at "o2")), (by first | (walk_at "o2")), (by first | (walk_at "o2")), (by first | (walk_at "o2")), (h494 _ _ (h490 _ _ (h489 _ _ (Ow.at_new h_p_9 (h487 _ _ (h33 _ _ (Ow.ne_sym (ne_of_none (h22 _ _ h19) h26)) h27)))))), (by first | (walk_at "o2")), (by first | (walk_at "o2")), fun t_34 h496 Hn_144 h497 => ?_⟩
          refine ⟨_, rfl, ?_⟩
          refine ⟨_, rfl, rfl, (by first | (walk_at "o2")), fun B_41 h_B_41 h0_B_41 => ?_⟩
          refine ⟨_, _, rfl, rfl, ?_⟩
          refine ⟨_, rfl, ?_⟩
          refine ⟨_, rfl, ?_⟩
          refine ⟨_, rfl, ?_⟩
          refine ⟨_, _, fm, rfl, (by first | (walk_at "o2")), (by first | (walk_at "o2")), (h497 _ _ (h494 _ _ (h490 _ _ (h489 _ _ (Ow.at_new h_p_9 (h487 _ _ (Ow.at_fmT h33 (h25 _ _ (h22 _ _ h19)) (h25 _ _ (h22 _ _ h21))))))))), (by first | (walk_at "o2")), fun p_11 Hn_145 h498 h499 h500 => ?_⟩
          refine ⟨_, rfl, ?_⟩
          refine Or.inr (Or.inl ?_)
          refine ⟨_, _, _, _, _, _, _, _, rfl, (by first | (walk_at "o2")), (by first | (walk_at "o2")), (by first | (walk_at "o2")), (by first | (walk_at "o2")), h500, (by first | (walk_at "o2")), (by first | (walk_at "o2")), (by first | (walk_at "o2")), (by first | (walk_at "o2")), (by first | (walk_at "o2")), (by first | (walk_at "o2")), (by first | (walk_at "o2")), (by first | (walk_at "o2")), (by first | (walk_at "o2")), fun t_35 h501 Hn_146 h502 => ?_⟩
          refine ⟨rfl, ?_⟩
          refine ⟨_, rfl, ?_⟩
          refine Ow.ifneb (fun h503 => ?_) (fun h503 => ?_)
          · try simp only [decide_eq_true_eq, V.int.injEq] at h503
            exact ((by (subst_vars; first | exact h503 Iff.rfl | exact h503 trivial | exact h503 (Iff.trans (by assumption : _ = true ↔ Ow.Right _ _ _) (Iff.symm (by assumption : _ = true ↔ Ow.AllR _ _ _ _ _ _))) | exact Ow.no_T h503 (by assumption) (by assumption) | exact Ow.no_a h503 (by assumption) (by assumption) | exact Ow.no_b h503 (by assumption) (by assumption) | exact Ow.no_c h503 (by assumption) (by assumption) | exact h503 (Iff.trans (by assumption : _ = true ↔ Ow.WrongF _ _ _ _) (Iff.symm (by assumption : _ = true ↔ Ow.LwR _ _ _ _ _ _ _))))) : False).elim
          · try simp only [decide_eq_true_eq, V.int.injEq] at h503
            refine ⟨(SqL.of (h502 _ _ (h498 _ _ (h497 _ _ (h494 _ _ (h490 _ _ (h489 _ _ upd_same))))))), ?_⟩
            refine ⟨_, rfl, ?_⟩
            refine ⟨_, rfl, ?_⟩
            refine ⟨_, rfl, ?_⟩
            refine ⟨_, _, _, fm, _, rfl, (by first | (walk_at "o2")), (by first | (walk_at "o2")), (by first | (walk_at "o2")), (by first | (walk_at "o2")), (h502 _ _ (h498 _ _ (h497 _ _ (h494 _ _ (h490 _ _ (h489 _ _ (Ow.at_new h_p_9 (h487 _ _ (h33 _ _ (Ow.ne_sym (ne_of_none (h22 _ _ h19) h26)) h27))))))))), (by first | (walk_at "o2")), (by first | (walk_at "o2")), ?_, ?_⟩
            · refine fun h504 Hn_147 h505 => ?_
              refine Ow.gnmS (σ' := [_, _, _, _, _, _, _, _, _, _, _, _]) rfl ?_
              try have wr := (by assumption : Ow.WrongF fm wi l_d _)
              try have wr1 := wr.1
              try have wr2 := wr.2.1
              refine ⟨_, rfl, ?_⟩
              refine ⟨_, rfl, ?_⟩
              refine ⟨_, rfl, ?_⟩
              refine ⟨_, rfl, ?_⟩
              refine Or.inl ?_
              refine ⟨_, _, _, _, _, rfl, (h505 _ _ (h502 _ _ (h498 _ _ (h497 _ _ (h494 _ _ (h490 _ _ (h489 _ _ (Ow.at_new h_p_9 (h487 _ _ h34))))))))), (by first | (walk_at "o2")), (by first | (walk_at "o2")), (by first | (walk_at "o2")), (by first | (walk_at "o2")), fun x1_3 x2_3 a2_9 c2_9 h506 h507 h508 h509 p_12 l1_3 t0_3 d0_3 Hn_148 h510 h511 h512 h513 h514 h515 h516 h517 h518 h519 h520 => ?_⟩
              refine ⟨_, rfl, ⟨_, (SqL.of h516)⟩, ?_⟩
              refine for_list (K := K) (a := p_12) (xs := [.non, .bl (true), .bl (false), .int (-1), .int (2 ^ wi.toNat), .int (2 ^ wi.toNat - 1), .int (0), .int (1), .int (l_d), .str ("1"), .ref l1_3, .ref t0_3, .ref d0_3, .int (x1_3), .int (x2_3)]) (fun ixv σ2 H2 => ∃ (a9 : Int) (c9 : Int) (v_8 : Option V) (v_10 : Option V) (v_11 : Option V), σ2 = [some (.ref box), some (.int (wi)), some (.int (l_d)), some (.ref p), some (.ref p_2), some (.ref o), some (.int (wi_2)), some (.int (dv)), v_8, some (.non), v_10, v_11] ∧ Ow.Fm box H H2 ∧ H2 box = some (.lst [.int (a9), .int (c9)]) ∧ H2 p = some (.tup (Ow.tl_Form fm)) ∧ H2 p_2 = some (.tup [.int (Ow.nE fm), .int (Ow.nF fm wi), .int (Ow.nA fm), .int (Ow.nT fm wi)]) ∧ H2 o = some (.ins (Ow.cls_Form T ((Ow.kn_Form fm))) dx (Ow.fl_Form fm)) ∧ H2 p_12 = some (.lst [.non, .bl (true), .bl (false), .int (-1), .int (2 ^ wi.toNat), .int (2 ^ wi.toNat - 1), .int (0), .int (1), .int (l_d), .str ("1"), .ref l1_3, .ref t0_3, .ref d0_3, .int (x1_3), .int (x2_3)]) ∧ H2 l1_3 = some (.lst [.int (1)]) ∧ H2 t0_3 = some (.tup [.int (0)]) ∧ H2 d0_3 = some (.dK []) ∧ True) ⟨_, _, _, _, _, rfl, ((((((((((((((((Ow.Fm.refl.trans h10).mut).trans h18).same h22).same h25).trans h33).same h487).same (Ow.same_new h_p_9)).same h489).same h490).same h494).same h497).same h498).same h502).same h505).trans h510), h511, (Ow.at_fmT h510 (h505 _ _ (h502 _ _ (h498 _ _ (h497 _ _ (h494 _ _ (h490 _ _ (h489 _ _ (Ow.at_new h_p_9 (h487 _ _ h34))))))))) (h505 _ _ (h502 _ _ (h498 _ _ (h497 _ _ (h494 _ _ (h490 _ _ (h489 _ _ (Ow.at_new h_p_9 (h487 _ _ (Ow.at_fmT h33 (h25 _ _ (h22 _ _ h19)) (h25 _ _ (h22 _ _ h21))))))))))))), (Ow.at_fmT h510 (h505 _ _ (h502 _ _ (h498 _ _ (h497 _ _ (h494 _ _ (h490 _ _ (h489 _ _ (Ow.at_new h_p_9 (h487 _ _ h34))))))))) (h505 _ _ (h502 _ _ (h498 _ _ (h497 _ _ (h494 _ _ (h490 _ _ (h489 _ _ (Ow.at_new h_p_9 (h487 _ _ (Ow.at_fmT h33 (h25 _ _ (h22 _ _ h19)) (h25 _ _ h24)))))))))))), (h510 _ _ (Ow.ne_sym (ne_of_none (h22 _ _ h19) h26)) (h505 _ _ (h502 _ _ (h498 _ _ (h497 _ _ (h494 _ _ (h490 _ _ (h489 _ _ (Ow.at_new h_p_9 (h487 _ _ (h33 _ _ (Ow.ne_sym (ne_of_none (h22 _ _ h19) h26)) h27))))))))))), h516, h517, h518, h519, trivial⟩ (fun i σ2 H2 _ hz => ?_) ?_ ?_
              · obtain ⟨a9_8, c9_8, _, _, _, rfl, h521, h522, h523, h524, h525, h526, h527, h528, h529, _⟩ := hz
                exact (SqL.of h526)
              · rintro i_3 xit _ Hn_149 h530 ⟨a9_9, c9_9, _, _, _, rfl, h531, h532, h533, h534, h535, h536, h537, h538, h539, _⟩
                have h530 := List.mem_of_getElem? h530
                simp only [List.mem_cons, List.not_mem_nil, or_false] at h530
                rcases h530 with rfl | rfl | rfl | rfl | rfl | rfl | rfl | rfl | rfl | rfl | rfl | rfl | rfl | rfl | rfl
                · refine ⟨_, rfl, ?_⟩
                  refine ⟨_, rfl, rfl, (by first | (walk_at "o2")), fun B_42 h_B_42 h0_B_42 => ?_⟩
                  refine ⟨_, _, rfl, rfl, ?_⟩
                  refine ⟨_, rfl, ?_⟩
                  refine ⟨_, rfl, ?_⟩
                  refine ⟨_, rfl, ?_⟩
                  refine Or.inl ?_
                  refine ⟨_, _, _, _, _, _, _, rfl, (by first | (walk_at "o2")), (by first | (walk_at "o2")), (by first | (walk_at "o2")), (by first | (walk_at "o2")), h534, (by first | (walk_at "o2")), (by first | (walk_at "o2")), (by first | (walk_at "o2")), (by first | (walk_at "o2")), (by first | (walk_at "o2")), (by first | (walk_at "o2")), (by first | (walk_at "o2")), (by first | (walk_at "o2")), (by first | (walk_at "o2")), fun l_due_24 h540 Hn_150 h541 => ?_⟩
                  refine Ow.gnmS (σ' := [_, _, _, _, _, _, _, _, _, _, _, _]) rfl ?_
                  refine ⟨_, rfl, ?_⟩
                  refine ⟨_, rfl, ?_⟩
                  refine ⟨_, rfl, ?_⟩
                  refine ⟨_, rfl, ?_⟩
                  refine Or.inl ?_
                  refine ⟨_, _, _, fm, _, rfl, (by first | (walk_at "o2")), (by first | (walk_at "o2")), (by first | (walk_at "o2")), (by first | (walk_at "o2")), (h541 _ _ h535), (by first | (walk_at "o2")), (by first | (walk_at "o2")), fun l_found_24 h542 Hn_151 h543 => ?_⟩
                  refine Ow.gnmS (σ' := [_, _, _, _, _, _, _, _, _, _, _, _]) rfl ?_
                  refine ⟨_, rfl, ?_⟩
                  refine ⟨_, _, _, _, true, rfl, .ty _, .base (.bl _), kit_ty (by decide +kernel), ?_⟩
                  refine ⟨_, rfl, ?_⟩
                  refine iteF ?_
                  refine ⟨_, rfl, ?_⟩
                  refine ⟨_, rfl, ?_⟩
                  refine ⟨rfl, ?_⟩
                  refine ⟨_, rfl, ?_⟩
                  refine Ow.ifneb (fun h544 => ?_) (fun h544 => ?_)
                  · try simp only [decide_eq_true_eq, V.int.injEq] at h544
                    exact ((by (subst_vars; first | exact h544 Iff.rfl | exact h544 trivial | exact h544 (Iff.trans (by assumption : _ = true ↔ Ow.Right _ _ _) (Iff.symm (by assumption : _ = true ↔ Ow.AllR _ _ _ _ _ _))) | exact Ow.no_T h544 (by assumption) (by assumption) | exact Ow.no_a h544 (by assumption) (by assumption) | exact Ow.no_b h544 (by assumption) (by assumption) | exact Ow.no_c h544 (by assumption) (by assumption) | exact h544 (Iff.trans (by assumption : _ = true ↔ Ow.WrongF _ _ _ _) (Iff.symm (by assumption : _ = true ↔ Ow.LwR _ _ _ _ _ _ _))))) : False).elim
                  · try simp only [decide_eq_true_eq, V.int.injEq] at h544
                    refine ⟨_, rfl, ?_⟩
                    refine ⟨_, _, rfl, rfl, ?_⟩
                    refine ⟨_, rfl, ?_⟩
                    refine Ow.ifd (fun h545 => ?_) (fun h545 => ?_)
                    · refine ⟨_, rfl, ?_⟩
                      refine ⟨rfl, ?_⟩
                      refine ⟨_, rfl, ?_⟩
                      refine iteT ?_
                      refine iteT ?_
                      refine ⟨_, rfl, ?_⟩
                      refine ⟨_, rfl, ?_⟩
                      refine ⟨_, rfl, ?_⟩
                      refine ⟨_, rfl, ?_⟩
                      refine ⟨_, rfl, ?_⟩
                      refine ⟨_, _, _, _, _, _, _, rfl, (by first | (walk_at "o2")), (by first | (walk_at "o2")), (by first | (walk_at "o2")), (by first | (walk_at "o2")), (h543 _ _ (h541 _ _ h534)), (by first | (walk_at "o2")), (by first | (walk_at "o2")), (by first | (walk_at "o2")), (by first | (walk_at "o2")), (by first | (walk_at "o2")), (by first | (walk_at "o2")), (by first | (walk_at "o2")), (by first | (walk_at "o2")), (by first | (walk_at "o2")), ?_, ?_⟩
                      · refine fun h546 Hn_152 h547 => ?_
                        refine ⟨rfl, ?_⟩
                        refine ⟨rfl, ?_⟩
                        refine ⟨_, rfl, ?_⟩
                        refine Ow.ifneb (fun h548 => ?_) (fun h548 => ?_)
                        · try simp only [decide_eq_true_eq, V.int.injEq] at h548
                          exact ((by (subst_vars; first | exact h548 Iff.rfl | exact h548 trivial | exact h548 (Iff.trans (by assumption : _ = true ↔ Ow.Right _ _ _) (Iff.symm (by assumption : _ = true ↔ Ow.AllR _ _ _ _ _ _))) | exact Ow.no_T h548 (by assumption) (by assumption) | exact Ow.no_a h548 (by assumption) (by assumption) | exact Ow.no_b h548 (by assumption) (by assumption) | exact Ow.no_c h548 (by assumption) (by assumption) | exact h548 (Iff.trans (by assumption : _ = true ↔ Ow.WrongF _ _ _ _) (Iff.symm (by assumption : _ = true ↔ Ow.LwR _ _ _ _ _ _ _))))) : False).elim
                        · try simp only [decide_eq_true_eq, V.int.injEq] at h548
                          exact ⟨_, _, _, _, _, rfl, ((((Ow.Fm.refl.trans h531).same h541).same h543).same h547), (h547 _ _ (h543 _ _ (h541 _ _ h532))), (h547 _ _ (h543 _ _ (h541 _ _ h533))), (h547 _ _ (h543 _ _ (h541 _ _ h534))), (h547 _ _ (h543 _ _ (h541 _ _ h535))), (h547 _ _ (h543 _ _ (h541 _ _ h536))), (h547 _ _ (h543 _ _ (h541 _ _ h537))), (h547 _ _ (h543 _ _ (h541 _ _ h538))), (h547 _ _ (h543 _ _ (h541 _ _ h539))), trivial⟩
                      · refine fun t_36 h549 Hn_153 h550 => ?_
                        refine ⟨rfl, ?_⟩
                        refine ⟨rfl, ?_⟩
                        refine ⟨_, rfl, ?_⟩
                        refine Ow.ifneb (fun h551 => ?_) (fun h551 => ?_)
                        · try simp only [decide_eq_true_eq, V.int.injEq] at h551
                          exact ((by (subst_vars; first | exact h551 Iff.rfl | exact h551 trivial | exact h551 (Iff.trans (by assumption : _ = true ↔ Ow.Right _ _ _) (Iff.symm (by assumption : _ = true ↔ Ow.AllR _ _ _ _ _ _))) | exact Ow.no_T h551 (by assumption) (by assumption) | exact Ow.no_a h551 (by assumption) (by assumption) | exact Ow.no_b h551 (by assumption) (by assumption) | exact Ow.no_c h551 (by assumption) (by assumption) | exact h551 (Iff.trans (by assumption : _ = true ↔ Ow.WrongF _ _ _ _) (Iff.symm (by assumption : _ = true ↔ Ow.LwR _ _ _ _ _ _ _))))) : False).elim
                        · try simp only [decide_eq_true_eq, V.int.injEq] at h551
                          exact ⟨_, _, _, _, _, rfl, ((((Ow.Fm.refl.trans h531).same h541).same h543).same h550), (h550 _ _ (h543 _ _ (h541 _ _ h532))), (h550 _ _ (h543 _ _ (h541 _ _ h533))), (h550 _ _ (h543 _ _ (h541 _ _ h534))), (h550 _ _ (h543 _ _ (h541 _ _ h535))), (h550 _ _ (h543 _ _ (h541 _ _ h536))), (h550 _ _ (h543 _ _ (h541 _ _ h537))), (h550 _ _ (h543 _ _ (h541 _ _ h538))), (h550 _ _ (h543 _ _ (h541 _ _ h539))), trivial⟩
                    · refine iteF ?_
                      exact ⟨_, _, _, _, _, rfl, (((Ow.Fm.refl.trans h531).same h541).same h543), (h543 _ _ (h541 _ _ h532)), (h543 _ _ (h541 _ _ h533)), (h543 _ _ (h541 _ _ h534)), (h543 _ _ (h541 _ _ h535)), (h543 _ _ (h541 _ _ h536)), (h543 _ _ (h541 _ _ h537)), (h543 _ _ (h541 _ _ h538)), (h543 _ _ (h541 _ _ h539)), trivial⟩
                · refine ⟨_, rfl, ?_⟩
                  refine ⟨_, rfl, rfl, (by first | (walk_at "o2")), fun B_43 h_B_43 h0_B_43 => ?_⟩
                  refine ⟨_, _, rfl, rfl, ?_⟩
                  refine ⟨_, rfl, ?_⟩
                  refine ⟨_, rfl, ?_⟩
                  refine ⟨_, rfl, ?_⟩
                  refine Or.inr (Or.inr (Or.inl ?_))
                  refine ⟨_, _, _, _, _, _, _, _, rfl, (by first | (walk_at "o2")), (by first | (walk_at "o2")), (by first | (walk_at "o2")), (by first | (walk_at "o2")), h534, (by first | (walk_at "o2")), (by first | (walk_at "o2")), (by first | (walk_at "o2")), (by first | (walk_at "o2")), (by first | (walk_at "o2")), (by first | (walk_at "o2")), (by first | (walk_at "o2")), (by first | (walk_at "o2")), (by first | (walk_at "o2")), fun Hn_154 h552 => ?_⟩
                  refine Ow.gnmS (σ' := [_, _, _, _, _, _, _, _, _, _, _, _]) rfl ?_
                  refine ⟨_, rfl, ?_⟩
                  refine ⟨_, rfl, ?_⟩
                  refine ⟨_, rfl, ?_⟩
                  refine ⟨_, rfl, ?_⟩
                  refine Or.inr (Or.inr (Or.inl ?_))
                  refine ⟨_, _, _, _, fm, _, rfl, (by first | (walk_at "o2")), (by first | (walk_at "o2")), (by first | (walk_at "o2")), (by first | (walk_at "o2")), (h552 _ _ h535), (by first | (walk_at "o2")), (by first | (walk_at "o2")), fun Hn_155 h553 => ?_⟩
                  refine Ow.gnmS (σ' := [_, _, _, _, _, _, _, _, _, _, _, _]) rfl ?_
                  refine ⟨_, rfl, ?_⟩
                  refine ⟨_, _, _, _, true, rfl, .ty _, .base (.bl _), kit_ty (by decide +kernel), ?_⟩
                  refine ⟨_, rfl, ?_⟩
                  refine iteF ?_
                  refine ⟨_, rfl, ?_⟩
                  refine ⟨_, rfl, ?_⟩
                  refine ⟨rfl, ?_⟩
                  refine ⟨_, rfl, ?_⟩
                  refine Ow.ifneb (fun h554 => ?_) (fun h554 => ?_)
                  · try simp only [decide_eq_true_eq, V.int.injEq] at h554
                    exact ((by (subst_vars; first | exact h554 Iff.rfl | exact h554 trivial | exact h554 (Iff.trans (by assumption : _ = true ↔ Ow.Right _ _ _) (Iff.symm (by assumption : _ = true ↔ Ow.AllR _ _ _ _ _ _))) | exact Ow.no_T h554 (by assumption) (by assumption) | exact Ow.no_a h554 (by assumption) (by assumption) | exact Ow.no_b h554 (by assumption) (by assumption) | exact Ow.no_c h554 (by assumption) (by assumption) | exact h554 (Iff.trans (by assumption : _ = true ↔ Ow.WrongF _ _ _ _) (Iff.symm (by assumption : _ = true ↔ Ow.LwR _ _ _ _ _ _ _))))) : False).elim
                  · try simp only [decide_eq_true_eq, V.int.injEq] at h554
                    refine ⟨_, rfl, ?_⟩
                    refine ⟨_, _, rfl, rfl, ?_⟩
                    refine ⟨_, rfl, ?_⟩
                    refine Ow.ifd (fun h555 => ?_) (fun h555 => ?_)
                    · refine ⟨_, rfl, ?_⟩
                      refine ⟨rfl, ?_⟩
                      refine ⟨_, rfl, ?_⟩
                      refine iteF ?_
                      refine ⟨_, rfl, ?_⟩
                      refine Or.inr (Or.inr (Or.inl ?_))
                      refine ⟨_, rfl, ?_⟩
                      refine ⟨_, rfl, ?_⟩
                      refine iteF ?_
                      refine iteF ?_
                      exact ⟨_, _, _, _, _, rfl, (((Ow.Fm.refl.trans h531).same h552).same h553), (h553 _ _ (h552 _ _ h532)), (h553 _ _ (h552 _ _ h533)), (h553 _ _ (h552 _ _ h534)), (h553 _ _ (h552 _ _ h535)), (h553 _ _ (h552 _ _ h536)), (h553 _ _ (h552 _ _ h537)), (h553 _ _ (h552 _ _ h538)), (h553 _ _ (h552 _ _ h539)), trivial⟩
                    · refine iteF ?_
                      exact ⟨_, _, _, _, _, rfl, (((Ow.Fm.refl.trans h531).same h552).same h553), (h553 _ _ (h552 _ _ h532)), (h553 _ _ (h552 _ _ h533)), (h553 _ _ (h552 _ _ h534)), (h553 _ _ (h552 _ _ h535)), (h553 _ _ (h552 _ _ h536)), (h553 _ _ (h552 _ _ h537)), (h553 _ _ (h552 _ _ h538)), (h553 _ _ (h552 _ _ h539)), trivial⟩
                · refine ⟨_, rfl, ?_⟩
                  refine ⟨_, rfl, rfl, (by first | (walk_at "o2")), fun B_44 h_B_44 h0_B_44 => ?_⟩
                  refine ⟨_, _, rfl, rfl, ?_⟩
                  refine ⟨_, rfl, ?_⟩
                  refine ⟨_, rfl, ?_⟩
                  refine ⟨_, rfl, ?_⟩
                  refine Or.inr (Or.inr (Or.inl ?_))
                  refine ⟨_, _, _, _, _, _, _, _, rfl, (by first | (walk_at "o2")), (by first | (walk_at "o2")), (by first | (walk_at "o2")), (by first | (walk_at "o2")), h534, (by first | (walk_at "o2")), (by first | (walk_at "o2")), (by first | (walk_at "o2")), (by first | (walk_at "o2")), (by first | (walk_at "o2")), (by first | (walk_at "o2")), (by first | (walk_at "o2")), (by first | (walk_at "o2")), (by first | (walk_at "o2")), fun Hn_156 h556 => ?_⟩
                  refine Ow.gnmS (σ' := [_, _, _, _, _, _, _, _, _, _, _, _]) rfl ?_
                  refine ⟨_, rfl, ?_⟩
                  refine ⟨_, rfl, ?_⟩
                  refine ⟨_, rfl, ?_⟩
                  refine ⟨_, rfl, ?_⟩
                  refine Or.inr (Or.inr (Or.inl ?_))
                  refine ⟨_, _, _, _, fm, _, rfl, (by first | (walk_at "o2")), (by first | (walk_at "o2")), (by first | (walk_at "o2")), (by first | (walk_at "o2")), (h556 _ _ h535), (by first | (walk_at "o2")), (by first | (walk_at "o2")), fun Hn_157 h557 => ?_⟩
                  refine Ow.gnmS (σ' := [_, _, _, _, _, _, _, _, _, _, _, _]) rfl ?_
                  refine ⟨_, rfl, ?_⟩
                  refine ⟨_, _, _, _, true, rfl, .ty _, .base (.bl _), kit_ty (by decide +kernel), ?_⟩
                  refine ⟨_, rfl, ?_⟩
                  refine iteF ?_
                  refine ⟨_, rfl, ?_⟩
                  refine ⟨_, rfl, ?_⟩
                  refine ⟨rfl, ?_⟩
                  refine ⟨_, rfl, ?_⟩
                  refine Ow.ifneb (fun h558 => ?_) (fun h558 => ?_)
                  · try simp only [decide_eq_true_eq, V.int.injEq] at h558
                    exact ((by (subst_vars; first | exact h558 Iff.rfl | exact h558 trivial | exact h558 (Iff.trans (by assumption : _ = true ↔ Ow.Right _ _ _) (Iff.symm (by assumption : _ = true ↔ Ow.AllR _ _ _ _ _ _))) | exact Ow.no_T h558 (by assumption) (by assumption) | exact Ow.no_a h558 (by assumption) (by assumption) | exact Ow.no_b h558 (by assumption) (by assumption) | exact Ow.no_c h558 (by assumption) (by assumption) | exact h558 (Iff.trans (by assumption : _ = true ↔ Ow.WrongF _ _ _ _) (Iff.symm (by assumption : _ = true ↔ Ow.LwR _ _ _ _ _ _ _))))) : False).elim
                  · try simp only [decide_eq_true_eq, V.int.injEq] at h558
                    refine ⟨_, rfl, ?_⟩
                    refine ⟨_, _, rfl, rfl, ?_⟩
                    refine ⟨_, rfl, ?_⟩
                    refine Ow.ifd (fun h559 => ?_) (fun h559 => ?_)
                    · refine ⟨_, rfl, ?_⟩
                      refine ⟨rfl, ?_⟩
                      refine ⟨_, rfl, ?_⟩
                      refine iteF ?_
                      refine ⟨_, rfl, ?_⟩
                      refine Or.inr (Or.inr (Or.inl ?_))
                      refine ⟨_, rfl, ?_⟩
                      refine ⟨_, rfl, ?_⟩
                      refine iteF ?_
                      refine iteF ?_
                      exact ⟨_, _, _, _, _, rfl, (((Ow.Fm.refl.trans h531).same h556).same h557), (h557 _ _ (h556 _ _ h532)), (h557 _ _ (h556 _ _ h533)), (h557 _ _ (h556 _ _ h534)), (h557 _ _ (h556 _ _ h535)), (h557 _ _ (h556 _ _ h536)), (h557 _ _ (h556 _ _ h537)), (h557 _ _ (h556 _ _ h538)), (h557 _ _ (h556 _ _ h539)), trivial⟩
                    · refine iteF ?_
                      exact ⟨_, _, _, _, _, rfl, (((Ow.Fm.refl.trans h531).same h556).same h557), (h557 _ _ (h556 _ _ h532)), (h557 _ _ (h556 _ _ h533)), (h557 _ _ (h556 _ _ h534)), (h557 _ _ (h556 _ _ h535)), (h557 _ _ (h556 _ _ h536)), (h557 _ _ (h556 _ _ h537)), (h557 _ _ (h556 _ _ h538)), (h557 _ _ (h556 _ _ h539)), trivial⟩
                · refine ⟨_, rfl, ?_⟩
                  refine ⟨_, rfl, rfl, (by first | (walk_at "o2")), fun B_45 h_B_45 h0_B_45 => ?_⟩
                  refine ⟨_, _, rfl, rfl, ?_⟩
                  refine ⟨_, rfl, ?_⟩
                  refine ⟨_, rfl, ?_⟩
                  refine ⟨_, rfl, ?_⟩
                  refine Or.inr (Or.inl ?_)
                  refine ⟨_, _, _, _, _, _, _, _, rfl, (by first | (walk_at "o2")), (by first | (walk_at "o2")), (by first | (walk_at "o2")), (by first | (walk_at "o2")), h534, (by first | (walk_at "o2")), (by first | (walk_at "o2")), (by first | (walk_at "o2")), (by first | (walk_at "o2")), (by first | (walk_at "o2")), (by first | (walk_at "o2")), (by first | (walk_at "o2")), (by first | (walk_at "o2")), (by first | (walk_at "o2")), fun l_due_25 h560 Hn_158 h561 => ?_⟩
                  refine Ow.gnmS (σ' := [_, _, _, _, _, _, _, _, _, _, _, _]) rfl ?_
                  refine ⟨_, rfl, ?_⟩
                  refine ⟨_, rfl, ?_⟩
                  refine ⟨_, rfl, ?_⟩
                  refine ⟨_, rfl, ?_⟩
                  refine Or.inr (Or.inl ?_)
                  refine ⟨_, _, _, _, fm, _, rfl, (by first | (walk_at "o2")), (by first | (walk_at "o2")), (by first | (walk_at "o2")), (by first | (walk_at "o2")), (h561 _ _ h535), (by first | (walk_at "o2")), (by first | (walk_at "o2")), fun l_found_25 h562 Hn_159 h563 => ?_⟩
                  refine Ow.gnmS (σ' := [_, _, _, _, _, _, _, _, _, _, _, _]) rfl ?_
                  refine ⟨_, rfl, ?_⟩
                  refine ⟨_, _, _, _, true, rfl, .ty _, .base (.bl _), kit_ty (by decide +kernel), ?_⟩
                  refine ⟨_, rfl, ?_⟩
                  refine iteF ?_
                  refine ⟨_, rfl, ?_⟩
                  refine ⟨_, rfl, ?_⟩
                  refine ⟨rfl, ?_⟩
                  refine ⟨_, rfl, ?_⟩
                  refine Ow.ifneb (fun h564 => ?_) (fun h564 => ?_)
                  · try simp only [decide_eq_true_eq, V.int.injEq] at h564
                    exact ((by (subst_vars; first | exact h564 Iff.rfl | exact h564 trivial | exact h564 (Iff.trans (by assumption : _ = true ↔ Ow.Right _ _ _) (Iff.symm (by assumption : _ = true ↔ Ow.AllR _ _ _ _ _ _))) | exact Ow.no_T h564 (by assumption) (by assumption) | exact Ow.no_a h564 (by assumption) (by assumption) | exact Ow.no_b h564 (by assumption) (by assumption) | exact Ow.no_c h564 (by assumption) (by assumption) | exact h564 (Iff.trans (by assumption : _ = true ↔ Ow.WrongF _ _ _ _) (Iff.symm (by assumption : _ = true ↔ Ow.LwR _ _ _ _ _ _ _))))) : False).elim
                  · try simp only [decide_eq_true_eq, V.int.injEq] at h564
                    refine ⟨_, rfl, ?_⟩
                    refine ⟨_, _, rfl, rfl, ?_⟩
                    refine ⟨_, rfl, ?_⟩
                    refine Ow.ifd (fun h565 => ?_) (fun h565 => ?_)
                    · refine ⟨_, rfl, ?_⟩
                      refine ⟨rfl, ?_⟩
                      refine ⟨_, rfl, ?_⟩
                      refine iteF ?_
                      refine ⟨_, rfl, ?_⟩
                      refine Or.inl ?_
                      refine ⟨_, rfl, ?_⟩
                      refine ⟨_, rfl, ?_⟩
                      refine iteT ?_
                      refine ⟨_, rfl, ?_⟩
                      refine ⟨_, rfl, ?_⟩
                      refine ⟨_, rfl, ?_⟩
                      refine ⟨_, rfl, ?_⟩
                      refine ⟨_, rfl, ?_⟩
                      refine ⟨_, _, _, _, _, _, _, rfl, (by first | (walk_at "o2")), (by first | (walk_at "o2")), (by first | (walk_at "o2")), (by first | (walk_at "o2")), (h563 _ _ (h561 _ _ h534)), (by first | (walk_at "o2")), (by first | (walk_at "o2")), (by first | (walk_at "o2")), (by first | (walk_at "o2")), (by first | (walk_at "o2")), (by first | (walk_at "o2")), (by first | (walk_at "o2")), (by first | (walk_at "o2")), (by first | (walk_at "o2")), ?_, ?_⟩
                      · refine fun h566 Hn_160 h567 => ?_
                        refine ⟨rfl, ?_⟩
                        refine ⟨rfl, ?_⟩
                        refine ⟨_, rfl, ?_⟩
                        refine Ow.ifneb (fun h568 => ?_) (fun h568 => ?_)
                        · try simp only [decide_eq_true_eq, V.int.injEq] at h568
                          exact ((by (subst_vars; first | exact h568 Iff.rfl | exact h568 trivial | exact h568 (Iff.trans (by assumption : _ = true ↔ Ow.Right _ _ _) (Iff.symm (by assumption : _ = true ↔ Ow.AllR _ _ _ _ _ _))) | exact Ow.no_T h568 (by assumption) (by assumption) | exact Ow.no_a h568 (by assumption) (by assumption) | exact Ow.no_b h568 (by assumption) (by assumption) | exact Ow.no_c h568 (by assumption) (by assumption) | exact h568 (Iff.trans (by assumption : _ = true ↔ Ow.WrongF _ _ _ _) (Iff.symm (by assumption : _ = true ↔ Ow.LwR _ _ _ _ _ _ _))))) : False).elim
                        · try simp only [decide_eq_true_eq, V.int.injEq] at h568
                          exact ⟨_, _, _, _, _, rfl, ((((Ow.Fm.refl.trans h531).same h561).same h563).same h567), (h567 _ _ (h563 _ _ (h561 _ _ h532))), (h567 _ _ (h563 _ _ (h561 _ _ h533))), (h567 _ _ (h563 _ _ (h561 _ _ h534))), (h567 _ _ (h563 _ _ (h561 _ _ h535))), (h567 _ _ (h563 _ _ (h561 _ _ h536))), (h567 _ _ (h563 _ _ (h561 _ _ h537))), (h567 _ _ (h563 _ _ (h561 _ _ h538))), (h567 _ _ (h563 _ _ (h561 _ _ h539))), trivial⟩
                      · refine fun t_37 h569 Hn_161 h570 => ?_
                        refine ⟨rfl, ?_⟩
                        refine ⟨rfl, ?_⟩
                        refine ⟨_, rfl, ?_⟩
                        refine Ow.ifneb (fun h571 => ?_) (fun h571 => ?_)
                        · try simp only [decide_eq_true_eq, V.int.injEq] at h571
                          exact ((by (subst_vars; first | exact h571 Iff.rfl | exact h571 trivial | exact h571 (Iff.trans (by assumption : _ = true ↔ Ow.Right _ _ _) (Iff.symm (by assumption : _ = true ↔ Ow.AllR _ _ _ _ _ _))) | exact Ow.no_T h571 (by assumption) (by assumption) | exact Ow.no_a h571 (by assumption) (by assumption) | exact Ow.no_b h571 (by assumption) (by assumption) | exact Ow.no_c h571 (by assumption) (by assumption) | exact h571 (Iff.trans (by assumption : _ = true ↔ Ow.WrongF _ _ _ _) (Iff.symm (by assumption : _ = true ↔ Ow.LwR _ _ _ _ _ _ _))))) : False).elim
                        · try simp only [decide_eq_true_eq, V.int.injEq] at h571
                          exact ⟨_, _, _, _, _, rfl, ((((Ow.Fm.refl.trans h531).same h561).same h563).same h570), (h570 _ _ (h563 _ _ (h561 _ _ h532))), (h570 _ _ (h563 _ _ (h561 _ _ h533))), (h570 _ _ (h563 _ _ (h561 _ _ h534))), (h570 _ _ (h563 _ _ (h561 _ _ h535))), (h570 _ _ (h563 _ _ (h561 _ _ h536))), (h570 _ _ (h563 _ _ (h561 _ _ h537))), (h570 _ _ (h563 _ _ (h561 _ _ h538))), (h570 _ _ (h563 _ _ (h561 _ _ h539))), trivial⟩
                    · refine iteF ?_
                      exact ⟨_, _, _, _, _, rfl, (((Ow.Fm.refl.trans h531).same h561).same h563), (h563 _ _ (h561 _ _ h532)), (h563 _ _ (h561 _ _ h533)), (h563 _ _ (h561 _ _ h534)), (h563 _ _ (h561 _ _ h535)), (h563 _ _ (h561 _ _ h536)), (h563 _ _ (h561 _ _ h537)), (h563 _ _ (h561 _ _ h538)), (h563 _ _ (h561 _ _ h539)), trivial⟩
                · refine ⟨_, rfl, ?_⟩
                  refine ⟨_, rfl, rfl, (by first | (walk_at "o2")), fun B_46 h_B_46 h0_B_46 => ?_⟩
                  refine ⟨_, _, rfl, rfl, ?_⟩
                  refine ⟨_, rfl, ?_⟩
                  refine ⟨_, rfl, ?_⟩
                  refine ⟨_, rfl, ?_⟩
                  refine Or.inr (Or.inl ?_)
                  refine ⟨_, _, _, _, _, _, _, _, rfl, (by first | (walk_at "o2")), (by first | (walk_at "o2")), (by first | (walk_at "o2")), (by first | (walk_at "o2")), h534, (by first | (walk_at "o2")), (by first | (walk_at "o2")), (by first | (walk_at "o2")), (by first | (walk_at "o2")), (by first | (walk_at "o2")), (by first | (walk_at "o2")), (by first | (walk_at "o2")), (by first | (walk_at "o2")), (by first | (walk_at "o2")), fun l_due_26 h572 Hn_162 h573 => ?_⟩
                  refine Ow.gnmS (σ' := [_, _, _, _, _, _, _, _, _, _, _, _]) rfl ?_
                  refine ⟨_, rfl, ?_⟩
                  refine ⟨_, rfl, ?_⟩
                  refine ⟨_, rfl, ?_⟩
                  refine ⟨_, rfl, ?_⟩
                  refine Or.inr (Or.inl ?_)
                  refine ⟨_, _, _, _, fm, _, rfl, (by first | (walk_at "o2")), (by first | (walk_at "o2")), (by first | (walk_at "o2")), (by first | (walk_at "o2")), (h573 _ _ h535), (by first | (walk_at "o2")), (by first | (walk_at "o2")), fun l_found_26 h574 Hn_163 h575 => ?_⟩
                  refine Ow.gnmS (σ' := [_, _, _, _, _, _, _, _, _, _, _, _]) rfl ?_
                  refine ⟨_, rfl, ?_⟩
                  refine ⟨_, _, _, _, true, rfl, .ty _, .base (.bl _), kit_ty (by decide +kernel), ?_⟩
                  refine ⟨_, rfl, ?_⟩
                  refine iteF ?_
                  refine ⟨_, rfl, ?_⟩
                  refine ⟨_, rfl, ?_⟩
                  refine ⟨rfl, ?_⟩
                  refine ⟨_, rfl, ?_⟩
                  refine Ow.ifneb (fun h576 => ?_) (fun h576 => ?_)
                  · try simp only [decide_eq_true_eq, V.int.injEq] at h576
                    exact ((by (subst_vars; first | exact h576 Iff.rfl | exact h576 trivial | exact h576 (Iff.trans (by assumption : _ = true ↔ Ow.Right _ _ _) (Iff.symm (by assumption : _ = true ↔ Ow.AllR _ _ _ _ _ _))) | exact Ow.no_T h576 (by assumption) (by assumption) | exact Ow.no_a h576 (by assumption) (by assumption) | exact Ow.no_b h576 (by assumption) (by assumption) | exact Ow.no_c h576 (by assumption) (by assumption) | exact h576 (Iff.trans (by assumption : _ = true ↔ Ow.WrongF _ _ _ _) (Iff.symm (by assumption : _ = true ↔ Ow.LwR _ _ _ _ _ _ _))))) : False).elim
                  · try simp only [decide_eq_true_eq, V.int.injEq] at h576
                    refine ⟨_, rfl, ?_⟩
                    refine ⟨_, _, rfl, rfl, ?_⟩
                    refine ⟨_, rfl, ?_⟩
                    refine Ow.ifd (fun h577 => ?_) (fun h577 => ?_)
                    · refine ⟨_, rfl, ?_⟩
                      refine ⟨rfl, ?_⟩
                      refine ⟨_, rfl, ?_⟩
                      refine iteF ?_
                      refine ⟨_, rfl, ?_⟩
                      refine Or.inl ?_
                      refine ⟨_, rfl, ?_⟩
                      refine ⟨_, rfl, ?_⟩
                      refine iteT ?_
                      refine ⟨_, rfl, ?_⟩
                      refine ⟨_, rfl, ?_⟩
                      refine ⟨_, rfl, ?_⟩
                      refine ⟨_, rfl, ?_⟩
                      refine ⟨_, rfl, ?_⟩
                      refine ⟨_, _, _, _, _, _, _, rfl, (by first | (walk_at "o2")), (by first | (walk_at "o2")), (by first | (walk_at "o2")), (by first | (walk_at "o2")), (h575 _ _ (h573 _ _ h534)), (by first | (walk_at "o2")), (by first | (walk_at "o2")), (by first | (walk_at "o2")), (by first | (walk_at "o2")), (by first | (walk_at "o2")), (by first | (walk_at "o2")), (by first | (walk_at "o2")), (by first | (walk_at "o2")), (by first | (walk_at "o2")), ?_, ?_⟩
                      · refine fun h578 Hn_164 h579 => ?_
                        refine ⟨rfl, ?_⟩
                        refine ⟨rfl, ?_⟩
                        refine ⟨_, rfl, ?_⟩
                        refine Ow.ifneb (fun h580 => ?_) (fun h580 => ?_)
                        · try simp only [decide_eq_true_eq, V.int.injEq] at h580
                          exact ((by (subst_vars; first | exact h580 Iff.rfl | exact h580 trivial | exact h580 (Iff.trans (by assumption : _ = true ↔ Ow.Right _ _ _) (Iff.symm (by assumption : _ = true ↔ Ow.AllR _ _ _ _ _ _))) | exact Ow.no_T h580 (by assumption) (by assumption) | exact Ow.no_a h580 (by assumption) (by assumption) | exact Ow.no_b h580 (by assumption) (by assumption) | exact Ow.no_c h580 (by assumption) (by assumption) | exact h580 (Iff.trans (by assumption : _ = true ↔ Ow.WrongF _ _ _ _) (Iff.symm (by assumption : _ = true ↔ Ow.LwR _ _ _ _ _ _ _))))) : False).elim
                        · try simp only [decide_eq_true_eq, V.int.injEq] at h580
                          exact ⟨_, _, _, _, _, rfl, ((((Ow.Fm.refl.trans h531).same h573).same h575).same h579), (h579 _ _ (h575 _ _ (h573 _ _ h532))), (h579 _ _ (h575 _ _ (h573 _ _ h533))), (h579 _ _ (h575 _ _ (h573 _ _ h534))), (h579 _ _ (h575 _ _ (h573 _ _ h535))), (h579 _ _ (h575 _ _ (h573 _ _ h536))), (h579 _ _ (h575 _ _ (h573 _ _ h537))), (h579 _ _ (h575 _ _ (h573 _ _ h538))), (h579 _ _ (h575 _ _ (h573 _ _ h539))), trivial⟩
                      · refine fun t_38 h581 Hn_165 h582 => ?_
                        refine ⟨rfl, ?_⟩
                        refine ⟨rfl, ?_⟩
                        refine ⟨_, rfl, ?_⟩
                        refine Ow.ifneb (fun h583 => ?_) (fun h583 => ?_)
                        · try simp only [decide_eq_true_eq, V.int.injEq] at h583
                          exact ((by (subst_vars; first | exact h583 Iff.rfl | exact h583 trivial | exact h583 (Iff.trans (by assumption : _ = true ↔ Ow.Right _ _ _) (Iff.symm (by assumption : _ = true ↔ Ow.AllR _ _ _ _ _ _))) | exact Ow.no_T h583 (by assumption) (by assumption) | exact Ow.no_a h583 (by assumption) (by assumption) | exact Ow.no_b h583 (by assumption) (by assumption) | exact Ow.no_c h583 (by assumption) (by assumption) | exact h583 (Iff.trans (by assumption : _ = true ↔ Ow.WrongF _ _ _ _) (Iff.symm (by assumption : _ = true ↔ Ow.LwR _ _ _ _ _ _ _))))) : False).elim
                        · try simp only [decide_eq_true_eq, V.int.injEq] at h583
                          exact ⟨_, _, _, _, _, rfl, ((((Ow.Fm.refl.trans h531).same h573).same h575).same h582), (h582 _ _ (h575 _ _ (h573 _ _ h532))), (h582 _ _ (h575 _ _ (h573 _ _ h533))), (h582 _ _ (h575 _ _ (h573 _ _ h534))), (h582 _ _ (h575 _ _ (h573 _ _ h535))), (h582 _ _ (h575 _ _ (h573 _ _ h536))), (h582 _ _ (h575 _ _ (h573 _ _ h537))), (h582 _ _ (h575 _ _ (h573 _ _ h538))), (h582 _ _ (h575 _ _ (h573 _ _ h539))), trivial⟩
                    · refine iteF ?_
                      exact ⟨_, _, _, _, _, rfl, (((Ow.Fm.refl.trans h531).same h573).same h575), (h575 _ _ (h573 _ _ h532)), (h575 _ _ (h573 _ _ h533)), (h575 _ _ (h573 _ _ h534)), (h575 _ _ (h573 _ _ h535)), (h575 _ _ (h573 _ _ h536)), (h575 _ _ (h573 _ _ h537)), (h575 _ _ (h573 _ _ h538)), (h575 _ _ (h573 _ _ h539)), trivial⟩
                · refine ⟨_, rfl, ?_⟩
                  refine ⟨_, rfl, rfl, (by first | (walk_at "o2")), fun B_47 h_B_47 h0_B_47 => ?_⟩
                  refine ⟨_, _, rfl, rfl, ?_⟩
                  refine ⟨_, rfl, ?_⟩
                  refine ⟨_, rfl, ?_⟩
                  refine ⟨_, rfl, ?_⟩
                  refine Or.inr (Or.inl ?_)
                  refine ⟨_, _, _, _, _, _, _, _, rfl, (by first | (walk_at "o2")), (by first | (walk_at "o2")), (by first | (walk_at "o2")), (by first | (walk_at "o2")), h534, (by first | (walk_at "o2")), (by first | (walk_at "o2")), (by first | (walk_at "o2")), (by first | (walk_at "o2")), (by first | (walk_at "o2")), (by first | (walk_at "o2")), (by first | (walk_at "o2")), (by first | (walk_at "o2")), (by first | (walk_at "o2")), fun l_due_27 h584 Hn_166 h585 => ?_⟩
                  refine Ow.gnmS (σ' := [_, _, _, _, _, _, _, _, _, _, _, _]) rfl ?_
                  refine ⟨_, rfl, ?_⟩
                  refine ⟨_, rfl, ?_⟩
                  refine ⟨_, rfl, ?_⟩
                  refine ⟨_, rfl, ?_⟩
                  refine Or.inr (Or.inl ?_)
                  refine ⟨_, _, _, _, fm, _, rfl, (by first | (walk_at "o2")), (by first | (walk_at "o2")), (by first | (walk_at "o2")), (by first | (walk_at "o2")), (h585 _ _ h535), (by first | (walk_at "o2")), (by first | (walk_at "o2")), fun l_found_27 h586 Hn_167 h587 => ?_⟩
                  refine Ow.gnmS (σ' := [_, _, _, _, _, _, _, _, _, _, _, _]) rfl ?_
                  refine ⟨_, rfl, ?_⟩
                  refine ⟨_, _, _, _, true, rfl, .ty _, .base (.bl _), kit_ty (by decide +kernel), ?_⟩
                  refine ⟨_, rfl, ?_⟩
                  refine iteF ?_
                  refine ⟨_, rfl, ?_⟩
                  refine ⟨_, rfl, ?_⟩
                  refine ⟨rfl, ?_⟩
                  refine ⟨_, rfl, ?_⟩
                  refine Ow.ifneb (fun h588 => ?_) (fun h588 => ?_)
                  · try simp only [decide_eq_true_eq, V.int.injEq] at h588
                    exact ((by (subst_vars; first | exact h588 Iff.rfl | exact h588 trivial | exact h588 (Iff.trans (by assumption : _ = true ↔ Ow.Right _ _ _) (Iff.symm (by assumption : _ = true ↔ Ow.AllR _ _ _ _ _ _))) | exact Ow.no_T h588 (by assumption) (by assumption) | exact Ow.no_a h588 (by assumption) (by assumption) | exact Ow.no_b h588 (by assumption) (by assumption) | exact Ow.no_c h588 (by assumption) (by assumption) | exact h588 (Iff.trans (by assumption : _ = true ↔ Ow.WrongF _ _ _ _) (Iff.symm (by assumption : _ = true ↔ Ow.LwR _ _ _ _ _ _ _))))) : False).elim
                  · try simp only [decide_eq_true_eq, V.int.injEq] at h588
                    refine ⟨_, rfl, ?_⟩
                    refine ⟨_, _, rfl, rfl, ?_⟩
                    refine ⟨_, rfl, ?_⟩
                    refine Ow.ifd (fun h589 => ?_) (fun h589 => ?_)
                    · refine ⟨_, rfl, ?_⟩
                      refine ⟨rfl, ?_⟩
                      refine ⟨_, rfl, ?_⟩
                      refine iteF ?_
                      refine ⟨_, rfl, ?_⟩
                      refine Or.inl ?_
                      refine ⟨_, rfl, ?_⟩
                      refine ⟨_, rfl, ?_⟩
                      refine iteT ?_
                      refine ⟨_, rfl, ?_⟩
                      refine ⟨_, rfl, ?_⟩
                      refine ⟨_, rfl, ?_⟩
                      refine ⟨_, rfl, ?_⟩
                      refine ⟨_, rfl, ?_⟩
                      refine ⟨_, _, _, _, _, _, _, rfl, (by first | (walk_at "o2")), (by first | (walk_at "o2")), (by first | (walk_at "o2")), (by first | (walk_at "o2")), (h587 _ _ (h585 _ _ h534)), (by first | (walk_at "o2")), (by first | (walk_at "o2")), (by first | (walk_at "o2")), (by first | (walk_at "o2")), (by first | (walk_at "o2")), (by first | (walk_at "o2")), (by first | (walk_at "o2")), (by first | (walk_at "o2")), (by first | (walk_at "o2")), ?_, ?_⟩
                      · refine fun h590 Hn_168 h591 => ?_
                        refine ⟨rfl, ?_⟩
                        refine ⟨rfl, ?_⟩
                        refine ⟨_, rfl, ?_⟩
                        refine Ow.ifneb (fun h592 => ?_) (fun h592 => ?_)
                        · try simp only [decide_eq_true_eq, V.int.injEq] at h592
                          exact ((by (subst_vars; first | exact h592 Iff.rfl | exact h592 trivial | exact h592 (Iff.trans (by assumption : _ = true ↔ Ow.Right _ _ _) (Iff.symm (by assumption : _ = true ↔ Ow.AllR _ _ _ _ _ _))) | exact Ow.no_T h592 (by assumption) (by assumption) | exact Ow.no_a h592 (by assumption) (by assumption) | exact Ow.no_b h592 (by assumption) (by assumption) | exact Ow.no_c h592 (by assumption) (by assumption) | exact h592 (Iff.trans (by assumption : _ = true ↔ Ow.WrongF _ _ _ _) (Iff.symm (by assumption : _ = true ↔ Ow.LwR _ _ _ _ _ _ _))))) : False).elim
                        · try simp only [decide_eq_true_eq, V.int.injEq] at h592
                          exact ⟨_, _, _, _, _, rfl, ((((Ow.Fm.refl.trans h531).same h585).same h587).same h591), (h591 _ _ (h587 _ _ (h585 _ _ h532))), (h591 _ _ (h587 _ _ (h585 _ _ h533))), (h591 _ _ (h587 _ _ (h585 _ _ h534))), (h591 _ _ (h587 _ _ (h585 _ _ h535))), (h591 _ _ (h587 _ _ (h585 _ _ h536))), (h591 _ _ (h587 _ _ (h585 _ _ h537))), (h591 _ _ (h587 _ _ (h585 _ _ h538))), (h591 _ _ (h587 _ _ (h585 _ _ h539))), trivial⟩
                      · refine fun t_39 h593 Hn_169 h594 => ?_
                        refine ⟨rfl, ?_⟩
                        refine ⟨rfl, ?_⟩
                        refine ⟨_, rfl, ?_⟩
                        refine Ow.ifneb (fun h595 => ?_) (fun h595 => ?_)
                        · try simp only [decide_eq_true_eq, V.int.injEq] at h595
                          exact ((by (subst_vars; first | exact h595 Iff.rfl | exact h595 trivial | exact h595 (Iff.trans (by assumption : _ = true ↔ Ow.Right _ _ _) (Iff.symm (by assumption : _ = true ↔ Ow.AllR _ _ _ _ _ _))) | exact Ow.no_T h595 (by assumption) (by assumption) | exact Ow.no_a h595 (by assumption) (by assumption) | exact Ow.no_b h595 (by assumption) (by assumption) | exact Ow.no_c h595 (by assumption) (by assumption) | exact h595 (Iff.trans (by assumption : _ = true ↔ Ow.WrongF _ _ _ _) (Iff.symm (by assumption : _ = true ↔ Ow.LwR _ _ _ _ _ _ _))))) : False).elim
                        · try simp only [decide_eq_true_eq, V.int.injEq] at h595
                          exact ⟨_, _, _, _, _, rfl, ((((Ow.Fm.refl.trans h531).same h585).same h587).same h594), (h594 _ _ (h587 _ _ (h585 _ _ h532))), (h594 _ _ (h587 _ _ (h585 _ _ h533))), (h594 _ _ (h587 _ _ (h585 _ _ h534))), (h594 _ _ (h587 _ _ (h585 _ _ h535))), (h594 _ _ (h587 _ _ (h585 _ _ h536))), (h594 _ _ (h587 _ _ (h585 _ _ h537))), (h594 _ _ (h587 _ _ (h585 _ _ h538))), (h594 _ _ (h587 _ _ (h585 _ _ h539))), trivial⟩
                    · refine iteF ?_
                      exact ⟨_, _, _, _, _, rfl, (((Ow.Fm.refl.trans h531).same h585).same h587), (h587 _ _ (h585 _ _ h532)), (h587 _ _ (h585 _ _ h533)), (h587 _ _ (h585 _ _ h534)), (h587 _ _ (h585 _ _ h535)), (h587 _ _ (h585 _ _ h536)), (h587 _ _ (h585 _ _ h537)), (h587 _ _ (h585 _ _ h538)), (h587 _ _ (h585 _ _ h539)), trivial⟩
                · refine ⟨_, rfl, ?_⟩
                  refine ⟨_, rfl, rfl, (by first | (walk_at "o2")), fun B_48 h_B_48 h0_B_48 => ?_⟩
                  refine ⟨_, _, rfl, rfl, ?_⟩
                  refine ⟨_, rfl, ?_⟩
                  refine ⟨_, rfl, ?_⟩
                  refine ⟨_, rfl, ?_⟩
                  refine Or.inr (Or.inl ?_)
                  refine ⟨_, _, _, _, _, _, _, _, rfl, (by first | (walk_at "o2")), (by first | (walk_at "o2")), (by first | (walk_at "o2")), (by first | (walk_at "o2")), h534, (by first | (walk_at "o2")), (by first | (walk_at "o2")), (by first | (walk_at "o2")), (by first | (walk_at "o2")), (by first | (walk_at "o2")), (by first | (walk_at "o2")), (by first | (walk_at "o2")), (by first | (walk_at "o2")), (by first | (walk_at "o2")), fun l_due_28 h596 Hn_170 h597 => ?_⟩
                  refine Ow.gnmS (σ' := [_, _, _, _, _, _, _, _, _, _, _, _]) rfl ?_
                  refine ⟨_, rfl, ?_⟩
                  refine ⟨_, rfl, ?_⟩
                  refine ⟨_, rfl, ?_⟩
                  refine ⟨_, rfl, ?_⟩
                  refine Or.inr (Or.inl ?_)
                  refine ⟨_, _, _, _, fm, _, rfl, (by first | (walk_at "o2")), (by first | (walk_at "o2")), (by first | (walk_at "o2")), (by first | (walk_at "o2")), (h597 _ _ h535), (by first | (walk_at "o2")), (by first | (walk_at "o2")), fun l_found_28 h598 Hn_171 h599 => ?_⟩
                  refine Ow.gnmS (σ' := [_, _, _, _, _, _, _, _, _, _, _, _]) rfl ?_
                  refine ⟨_, rfl, ?_⟩
                  refine ⟨_, _, _, _, true, rfl, .ty _, .base (.bl _), kit_ty (by decide +kernel), ?_⟩
                  refine ⟨_, rfl, ?_⟩
                  refine iteF ?_
                  refine ⟨_, rfl, ?_⟩
                  refine ⟨_, rfl, ?_⟩
                  refine ⟨rfl, ?_⟩
                  refine ⟨_, rfl, ?_⟩
                  refine Ow.ifneb (fun h600 => ?_) (fun h600 => ?_)
                  · try simp only [decide_eq_true_eq, V.int.injEq] at h600
                    exact ((by (subst_vars; first | exact h600 Iff.rfl | exact h600 trivial | exact h600 (Iff.trans (by assumption : _ = true ↔ Ow.Right _ _ _) (Iff.symm (by assumption : _ = true ↔ Ow.AllR _ _ _ _ _ _))) | exact Ow.no_T h600 (by assumption) (by assumption) | exact Ow.no_a h600 (by assumption) (by assumption) | exact Ow.no_b h600 (by assumption) (by assumption) | exact Ow.no_c h600 (by assumption) (by assumption) | exact h600 (Iff.trans (by assumption : _ = true ↔ Ow.WrongF _ _ _ _) (Iff.symm (by assumption : _ = true ↔ Ow.LwR _ _ _ _ _ _ _))))) : False).elim
                  · try simp only [decide_eq_true_eq, V.int.injEq] at h600
                    refine ⟨_, rfl, ?_⟩
                    refine ⟨_, _, rfl, rfl, ?_⟩
                    refine ⟨_, rfl, ?_⟩
                    refine Ow.ifd (fun h601 => ?_) (fun h601 => ?_)
                    · refine ⟨_, rfl, ?_⟩
                      refine ⟨rfl, ?_⟩
                      refine ⟨_, rfl, ?_⟩
                      refine iteF ?_
                      refine ⟨_, rfl, ?_⟩
                      refine Or.inl ?_
                      refine ⟨_, rfl, ?_⟩
                      refine ⟨_, rfl, ?_⟩
                      refine iteT ?_
                      refine ⟨_, rfl, ?_⟩
                      refine ⟨_, rfl, ?_⟩
                      refine ⟨_, rfl, ?_⟩
                      refine ⟨_, rfl, ?_⟩
                      refine ⟨_, rfl, ?_⟩
                      refine ⟨_, _, _, _, _, _, _, rfl, (by first | (walk_at "o2")), (by first | (walk_at "o2")), (by first | (walk_at "o2")), (by first | (walk_at "o2")), (h599 _ _ (h597 _ _ h534)), (by first | (walk_at "o2")), (by first | (walk_at "o2")), (by first | (walk_at "o2")), (by first | (walk_at "o2")), (by first | (walk_at "o2")), (by first | (walk_at "o2")), (by first | (walk_at "o2")), (by first | (walk_at "o2")), (by first | (walk_at "o2")), ?_, ?_⟩
                      · refine fun h602 Hn_172 h603 => ?_
                        refine ⟨rfl, ?_⟩
                        refine ⟨rfl, ?_⟩
                        refine ⟨_, rfl, ?_⟩
                        refine Ow.ifneb (fun h604 => ?_) (fun h604 => ?_)
                        · try simp only [decide_eq_true_eq, V.int.injEq] at h604
                          exact ((by (subst_vars; first | exact h604 Iff.rfl | exact h604 trivial | exact h604 (Iff.trans (by assumption : _ = true ↔ Ow.Right _ _ _) (Iff.symm (by assumption : _ = true ↔ Ow.AllR _ _ _ _ _ _))) | exact Ow.no_T h604 (by assumption) (by assumption) | exact Ow.no_a h604 (by assumption) (by assumption) | exact Ow.no_b h604 (by assumption) (by assumption) | exact Ow.no_c h604 (by assumption) (by assumption) | exact h604 (Iff.trans (by assumption : _ = true ↔ Ow.WrongF _ _ _ _) (Iff.symm (by assumption : _ = true ↔ Ow.LwR _ _ _ _ _ _ _))))) : False).elim
                        · try simp only [decide_eq_true_eq, V.int.injEq] at h604
                          exact ⟨_, _, _, _, _, rfl, ((((Ow.Fm.refl.trans h531).same h597).same h599).same h603), (h603 _ _ (h599 _ _ (h597 _ _ h532))), (h603 _ _ (h599 _ _ (h597 _ _ h533))), (h603 _ _ (h599 _ _ (h597 _ _ h534))), (h603 _ _ (h599 _ _ (h597 _ _ h535))), (h603 _ _ (h599 _ _ (h597 _ _ h536))), (h603 _ _ (h599 _ _ (h597 _ _ h537))), (h603 _ _ (h599 _ _ (h597 _ _ h538))), (h603 _ _ (h599 _ _ (h597 _ _ h539))), trivial⟩
                      · refine fun t_40 h605 Hn_173 h606 => ?_
                        refine ⟨rfl, ?_⟩
                        refine ⟨rfl, ?_⟩
                        refine ⟨_, rfl, ?_⟩
                        refine Ow.ifneb (fun h607 => ?_) (fun h607 => ?_)
                        · try simp only [decide_eq_true_eq, V.int.injEq] at h607
                          exact ((by (subst_vars; first | exact h607 Iff.rfl | exact h607 trivial | exact h607 (Iff.trans (by assumption : _ = true ↔ Ow.Right _ _ _) (Iff.symm (by assumption : _ = true ↔ Ow.AllR _ _ _ _ _ _))) | exact Ow.no_T h607 (by assumption) (by assumption) | exact Ow.no_a h607 (by assumption) (by assumption) | exact Ow.no_b h607 (by assumption) (by assumption) | exact Ow.no_c h607 (by assumption) (by assumption) | exact h607 (Iff.trans (by assumption : _ = true ↔ Ow.WrongF _ _ _ _) (Iff.symm (by assumption : _ = true ↔ Ow.LwR _ _ _ _ _ _ _))))) : False).elim
                        · try simp only [decide_eq_true_eq, V.int.injEq] at h607
                          exact ⟨_, _, _, _, _, rfl, ((((Ow.Fm.refl.trans h531).same h597).same h599).same h606), (h606 _ _ (h599 _ _ (h597 _ _ h532))), (h606 _ _ (h599 _ _ (h597 _ _ h533))), (h606 _ _ (h599 _ _ (h597 _ _ h534))), (h606 _ _ (h599 _ _ (h597 _ _ h535))), (h606 _ _ (h599 _ _ (h597 _ _ h536))), (h606 _ _ (h599 _ _ (h597 _ _ h537))), (h606 _ _ (h599 _ _ (h597 _ _ h538))), (h606 _ _ (h599 _ _ (h597 _ _ h539))), trivial⟩
                    · refine iteF ?_
                      exact ⟨_, _, _, _, _, rfl, (((Ow.Fm.refl.trans h531).same h597).same h599), (h599 _ _ (h597 _ _ h532)), (h599 _ _ (h597 _ _ h533)), (h599 _ _ (h597 _ _ h534)), (h599 _ _ (h597 _ _ h535)), (h599 _ _ (h597 _ _ h536)), (h599 _ _ (h597 _ _ h537)), (h599 _ _ (h597 _ _ h538)), (h599 _ _ (h597 _ _ h539)), trivial⟩
                · refine ⟨_, rfl, ?_⟩
                  refine ⟨_, rfl, rfl, (by first | (walk_at "o2")), fun B_49 h_B_49 h0_B_49 => ?_⟩
                  refine ⟨_, _, rfl, rfl, ?_⟩
                  refine ⟨_, rfl, ?_⟩
                  refine ⟨_, rfl, ?_⟩
                  refine ⟨_, rfl, ?_⟩
                  refine Or.inr (Or.inl ?_)
                  refine ⟨_, _, _, _, _, _, _, _, rfl, (by first | (walk_at "o2")), (by first | (walk_at "o2")), (by first | (walk_at "o2")), (by first | (walk_at "o2")), h534, (by first | (walk_at "o2")), (by first | (walk_at "o2")), (by first | (walk_at "o2")), (by first | (walk_at "o2")), (by first | (walk_at "o2")), (by first | (walk_at "o2")), (by first | (walk_at "o2")), (by first | (walk_at "o2")), (by first | (walk_at "o2")), fun l_due_29 h608 Hn_174 h609 => ?_⟩
                  refine Ow.gnmS (σ' := [_, _, _, _, _, _, _, _, _, _, _, _]) rfl ?_
                  refine ⟨_, rfl, ?_⟩
                  refine ⟨_, rfl, ?_⟩
                  refine ⟨_, rfl, ?_⟩
                  refine ⟨_, rfl, ?_⟩
                  refine Or.inr (Or.inl ?_)
                  refine ⟨_, _, _, _, fm, _, rfl, (by first | (walk_at "o2")), (by first | (walk_at "o2")), (by first | (walk_at "o2")), (by first | (walk_at "o2")), (h609 _ _ h535), (by first | (walk_at "o2")), (by first | (walk_at "o2")), fun l_found_29 h610 Hn_175 h611 => ?_⟩
                  refine Ow.gnmS (σ' := [_, _, _, _, _, _, _, _, _, _, _, _]) rfl ?_
                  refine ⟨_, rfl, ?_⟩
                  refine ⟨_, _, _, _, true, rfl, .ty _, .base (.bl _), kit_ty (by decide +kernel), ?_⟩
                  refine ⟨_, rfl, ?_⟩
                  refine iteF ?_
                  refine ⟨_, rfl, ?_⟩
                  refine ⟨_, rfl, ?_⟩
                  refine ⟨rfl, ?_⟩
                  refine ⟨_, rfl, ?_⟩
                  refine Ow.ifneb (fun h612 => ?_) (fun h612 => ?_)
                  · try simp only [decide_eq_true_eq, V.int.injEq] at h612
                    exact ((by (subst_vars; first | exact h612 Iff.rfl | exact h612 trivial | exact h612 (Iff.trans (by assumption : _ = true ↔ Ow.Right _ _ _) (Iff.symm (by assumption : _ = true ↔ Ow.AllR _ _ _ _ _ _))) | exact Ow.no_T h612 (by assumption) (by assumption) | exact Ow.no_a h612 (by assumption) (by assumption) | exact Ow.no_b h612 (by assumption) (by assumption) | exact Ow.no_c h612 (by assumption) (by assumption) | exact h612 (Iff.trans (by assumption : _ = true ↔ Ow.WrongF _ _ _ _) (Iff.symm (by assumption : _ = true ↔ Ow.LwR _ _ _ _ _ _ _))))) : False).elim
                  · try simp only [decide_eq_true_eq, V.int.injEq] at h612
                    refine ⟨_, rfl, ?_⟩
                    refine ⟨_, _, rfl, rfl, ?_⟩
                    refine ⟨_, rfl, ?_⟩
                    refine Ow.ifd (fun h613 => ?_) (fun h613 => ?_)
                    · refine ⟨_, rfl, ?_⟩
                      refine ⟨rfl, ?_⟩
                      refine ⟨_, rfl, ?_⟩
                      refine iteF ?_
                      refine ⟨_, rfl, ?_⟩
                      refine Or.inl ?_
                      refine ⟨_, rfl, ?_⟩
                      refine ⟨_, rfl, ?_⟩
                      refine iteT ?_
                      refine ⟨_, rfl, ?_⟩
                      refine ⟨_, rfl, ?_⟩
                      refine ⟨_, rfl, ?_⟩
                      refine ⟨_, rfl, ?_⟩
                      refine ⟨_, rfl, ?_⟩
                      refine ⟨_, _, _, _, _, _, _, rfl, (by first | (walk_at "o2")), (by first | (walk_at "o2")), (by first | (walk_at "o2")), (by first | (walk_at "o2")), (h611 _ _ (h609 _ _ h534)), (by first | (walk_at "o2")), (by first | (walk_at "o2")), (by first | (walk_at "o2")), (by first | (walk_at "o2")), (by first | (walk_at "o2")), (by first | (walk_at "o2")), (by first | (walk_at "o2")), (by first | (walk_at "o2")), (by first | (walk_at "o2")), ?_, ?_⟩
                      · refine fun h614 Hn_176 h615 => ?_
                        refine ⟨rfl, ?_⟩
                        refine ⟨rfl, ?_⟩
                        refine ⟨_, rfl, ?_⟩
                        refine Ow.ifneb (fun h616 => ?_) (fun h616 => ?_)
                        · try simp only [decide_eq_true_eq, V.int.injEq] at h616
                          exact ((by (subst_vars; first | exact h616 Iff.rfl | exact h616 trivial | exact h616 (Iff.trans (by assumption : _ = true ↔ Ow.Right _ _ _) (Iff.symm (by assumption : _ = true ↔ Ow.AllR _ _ _ _ _ _))) | exact Ow.no_T h616 (by assumption) (by assumption) | exact Ow.no_a h616 (by assumption) (by assumption) | exact Ow.no_b h616 (by assumption) (by assumption) | exact Ow.no_c h616 (by assumption) (by assumption) | exact h616 (Iff.trans (by assumption : _ = true ↔ Ow.WrongF _ _ _ _) (Iff.symm (by assumption : _ = true ↔ Ow.LwR _ _ _ _ _ _ _))))) : False).elim
                        · try simp only [decide_eq_true_eq, V.int.injEq] at h616
                          exact ⟨_, _, _, _, _, rfl, ((((Ow.Fm.refl.trans h531).same h609).same h611).same h615), (h615 _ _ (h611 _ _ (h609 _ _ h532))), (h615 _ _ (h611 _ _ (h609 _ _ h533))), (h615 _ _ (h611 _ _ (h609 _ _ h534))), (h615 _ _ (h611 _ _ (h609 _ _ h535))), (h615 _ _ (h611 _ _ (h609 _ _ h536))), (h615 _ _ (h611 _ _ (h609 _ _ h537))), (h615 _ _ (h611 _ _ (h609 _ _ h538))), (h615 _ _ (h611 _ _ (h609 _ _ h539))), trivial⟩
                      · refine fun t_41 h617 Hn_177 h618 => ?_
                        refine ⟨rfl, ?_⟩
                        refine ⟨rfl, ?_⟩
                        refine ⟨_, rfl, ?_⟩
                        refine Ow.ifneb (fun h619 => ?_) (fun h619 => ?_)
                        · try simp only [decide_eq_true_eq, V.int.injEq] at h619
                          exact ((by (subst_vars; first | exact h619 Iff.rfl | exact h619 trivial | exact h619 (Iff.trans (by assumption : _ = true ↔ Ow.Right _ _ _) (Iff.symm (by assumption : _ = true ↔ Ow.AllR _ _ _ _ _ _))) | exact Ow.no_T h619 (by assumption) (by assumption) | exact Ow.no_a h619 (by assumption) (by assumption) | exact Ow.no_b h619 (by assumption) (by assumption) | exact Ow.no_c h619 (by assumption) (by assumption) | exact h619 (Iff.trans (by assumption : _ = true ↔ Ow.WrongF _ _ _ _) (Iff.symm (by assumption : _ = true ↔ Ow.LwR _ _ _ _ _ _ _))))) : False).elim
                        · try simp only [decide_eq_true_eq, V.int.injEq] at h619
                          exact ⟨_, _, _, _, _, rfl, ((((Ow.Fm.refl.trans h531).same h609).same h611).same h618), (h618 _ _ (h611 _ _ (h609 _ _ h532))), (h618 _ _ (h611 _ _ (h609 _ _ h533))), (h618 _ _ (h611 _ _ (h609 _ _ h534))), (h618 _ _ (h611 _ _ (h609 _ _ h535))), (h618 _ _ (h611 _ _ (h609 _ _ h536))), (h618 _ _ (h611 _ _ (h609 _ _ h537))), (h618 _ _ (h611 _ _ (h609 _ _ h538))), (h618 _ _ (h611 _ _ (h609 _ _ h539))), trivial⟩
                    · refine iteF ?_
                      exact ⟨_, _, _, _, _, rfl, (((Ow.Fm.refl.trans h531).same h609).same h611), (h611 _ _ (h609 _ _ h532)), (h611 _ _ (h609 _ _ h533)), (h611 _ _ (h609 _ _ h534)), (h611 _ _ (h609 _ _ h535)), (h611 _ _ (h609 _ _ h536)), (h611 _ _ (h609 _ _ h537)), (h611 _ _ (h609 _ _ h538)), (h611 _ _ (h609 _ _ h539)), trivial⟩
                · refine ⟨_, rfl, ?_⟩
                  refine ⟨_, rfl, rfl, (by first | (walk_at "o2")), fun B_50 h_B_50 h0_B_50 => ?_⟩
                  refine ⟨_, _, rfl, rfl, ?_⟩
                  refine ⟨_, rfl, ?_⟩
                  refine ⟨_, rfl, ?_⟩
                  refine ⟨_, rfl, ?_⟩
                  refine Or.inr (Or.inl ?_)
                  refine ⟨_, _, _, _, _, _, _, _, rfl, (by first | (walk_at "o2")), (by first | (walk_at "o2")), (by first | (walk_at "o2")), (by first | (walk_at "o2")), h534, (by first | (walk_at "o2")), (by first | (walk_at "o2")), (by first | (walk_at "o2")), (by first | (walk_at "o2")), (by first | (walk_at "o2")), (by first | (walk_at "o2")), (by first | (walk_at "o2")), (by first | (walk_at "o2")), (by first | (walk_at "o2")), fun l_due_30 h620 Hn_178 h621 => ?_⟩
                  refine Ow.gnmS (σ' := [_, _, _, _, _, _, _, _, _, _, _, _]) rfl ?_
                  refine ⟨_, rfl, ?_⟩
                  refine ⟨_, rfl, ?_⟩
                  refine ⟨_, rfl, ?_⟩
                  refine ⟨_, rfl, ?_⟩
                  refine Or.inr (Or.inl ?_)
                  refine ⟨_, _, _, _, fm, _, rfl, (by first | (walk_at "o2")), (by first | (walk_at "o2")), (by first | (walk_at "o2")), (by first | (walk_at "o2")), (h621 _ _ h535), (by first | (walk_at "o2")), (by first | (walk_at "o2")), fun l_found_30 h622 Hn_179 h623 => ?_⟩
                  refine Ow.gnmS (σ' := [_, _, _, _, _, _, _, _, _, _, _, _]) rfl ?_
                  refine ⟨_, rfl, ?_⟩
                  refine ⟨_, _, _, _, true, rfl, .ty _, .base (.bl _), kit_ty (by decide +kernel), ?_⟩
                  refine ⟨_, rfl, ?_⟩
                  refine iteF ?_
                  refine ⟨_, rfl, ?_⟩
                  refine ⟨_, rfl, ?_⟩
                  refine ⟨rfl, ?_⟩
                  refine ⟨_, rfl, ?_⟩
                  refine Ow.ifneb (fun h624 => ?_) (fun h624 => ?_)
                  · try simp only [decide_eq_true_eq, V.int.injEq] at h624
                    exact ((by (subst_vars; first | exact h624 Iff.rfl | exact h624 trivial | exact h624 (Iff.trans (by assumption : _ = true ↔ Ow.Right _ _ _) (Iff.symm (by assumption : _ = true ↔ Ow.AllR _ _ _ _ _ _))) | exact Ow.no_T h624 (by assumption) (by assumption) | exact Ow.no_a h624 (by assumption) (by assumption) | exact Ow.no_b h624 (by assumption) (by assumption) | exact Ow.no_c h624 (by assumption) (by assumption) | exact h624 (Iff.trans (by assumption : _ = true ↔ Ow.WrongF _ _ _ _) (Iff.symm (by assumption : _ = true ↔ Ow.LwR _ _ _ _ _ _ _))))) : False).elim
                  · try simp only [decide_eq_true_eq, V.int.injEq] at h624
                    refine ⟨_, rfl, ?_⟩
                    refine ⟨_, _, rfl, rfl, ?_⟩
                    refine ⟨_, rfl, ?_⟩
                    refine Ow.ifd (fun h625 => ?_) (fun h625 => ?_)
                    · refine ⟨_, rfl, ?_⟩
                      refine ⟨rfl, ?_⟩
                      refine ⟨_, rfl, ?_⟩
                      refine iteF ?_
                      refine ⟨_, rfl, ?_⟩
                      refine Or.inl ?_
                      refine ⟨_, rfl, ?_⟩
                      refine ⟨_, rfl, ?_⟩
                      refine iteT ?_
                      refine ⟨_, rfl, ?_⟩
                      refine ⟨_, rfl, ?_⟩
                      refine ⟨_, rfl, ?_⟩
                      refine ⟨_, rfl, ?_⟩
                      refine ⟨_, rfl, ?_⟩
                      refine ⟨_, _, _, _, _, _, _, rfl, (by first | (walk_at "o2")), (by first | (walk_at "o2")), (by first | (walk_at "o2")), (by first | (walk_at "o2")), (h623 _ _ (h621 _ _ h534)), (by first | (walk_at "o2")), (by first | (walk_at "o2")), (by first | (walk_at "o2")), (by first | (walk_at "o2")), (by first | (walk_at "o2")), (by first | (walk_at "o2")), (by first | (walk_at "o2")), (by first | (walk_at "o2")), (by first | (walk_at "o2")), ?_, ?_⟩
                      · refine fun h626 Hn_180 h627 => ?_
                        refine ⟨rfl, ?_⟩
                        refine ⟨rfl, ?_⟩
                        refine ⟨_, rfl, ?_⟩
                        refine Ow.ifneb (fun h628 => ?_) (fun h628 => ?_)
                        · try simp only [decide_eq_true_eq, V.int.injEq] at h628
                          exact ((by (subst_vars; first | exact h628 Iff.rfl | exact h628 trivial | exact h628 (Iff.trans (by assumption : _ = true ↔ Ow.Right _ _ _) (Iff.symm (by assumption : _ = true ↔ Ow.AllR _ _ _ _ _ _))) | exact Ow.no_T h628 (by assumption) (by assumption) | exact Ow.no_a h628 (by assumption) (by assumption) | exact Ow.no_b h628 (by assumption) (by assumption) | exact Ow.no_c h628 (by assumption) (by assumption) | exact h628 (Iff.trans (by assumption : _ = true ↔ Ow.WrongF _ _ _ _) (Iff.symm (by assumption : _ = true ↔ Ow.LwR _ _ _ _ _ _ _))))) : False).elim
                        · try simp only [decide_eq_true_eq, V.int.injEq] at h628
                          exact ⟨_, _, _, _, _, rfl, ((((Ow.Fm.refl.trans h531).same h621).same h623).same h627), (h627 _ _ (h623 _ _ (h621 _ _ h532))), (h627 _ _ (h623 _ _ (h621 _ _ h533))), (h627 _ _ (h623 _ _ (h621 _ _ h534))), (h627 _ _ (h623 _ _ (h621 _ _ h535))), (h627 _ _ (h623 _ _ (h621 _ _ h536))), (h627 _ _ (h623 _ _ (h621 _ _ h537))), (h627 _ _ (h623 _ _ (h621 _ _ h538))), (h627 _ _ (h623 _ _ (h621 _ _ h539))), trivial⟩
                      · refine fun t_42 h629 Hn_181 h630 => ?_
                        refine ⟨rfl, ?_⟩
                        refine ⟨rfl, ?_⟩
                        refine ⟨_, rfl, ?_⟩
                        refine Ow.ifneb (fun h631 => ?_) (fun h631 => ?_)
                        · try simp only [decide_eq_true_eq, V.int.injEq] at h631
                          exact ((by (subst_vars; first | exact h631 Iff.rfl | exact h631 trivial | exact h631 (Iff.trans (by assumption : _ = true ↔ Ow.Right _ _ _) (Iff.symm (by assumption : _ = true ↔ Ow.AllR _ _ _ _ _ _))) | exact Ow.no_T h631 (by assumption) (by assumption) | exact Ow.no_a h631 (by assumption) (by assumption) | exact Ow.no_b h631 (by assumption) (by assumption) | exact Ow.no_c h631 (by assumption) (by assumption) | exact h631 (Iff.trans (by assumption : _ = true ↔ Ow.WrongF _ _ _ _) (Iff.symm (by assumption : _ = true ↔ Ow.LwR _ _ _ _ _ _ _))))) : False).elim
                        · try simp only [decide_eq_true_eq, V.int.injEq] at h631
                          exact ⟨_, _, _, _, _, rfl, ((((Ow.Fm.refl.trans h531).same h621).same h623).same h630), (h630 _ _ (h623 _ _ (h621 _ _ h532))), (h630 _ _ (h623 _ _ (h621 _ _ h533))), (h630 _ _ (h623 _ _ (h621 _ _ h534))), (h630 _ _ (h623 _ _ (h621 _ _ h535))), (h630 _ _ (h623 _ _ (h621 _ _ h536))), (h630 _ _ (h623 _ _ (h621 _ _ h537))), (h630 _ _ (h623 _ _ (h621 _ _ h538))), (h630 _ _ (h623 _ _ (h621 _ _ h539))), trivial⟩
                    · refine iteF ?_
                      exact ⟨_, _, _, _, _, rfl, (((Ow.Fm.refl.trans h531).same h621).same h623), (h623 _ _ (h621 _ _ h532)), (h623 _ _ (h621 _ _ h533)), (h623 _ _ (h621 _ _ h534)), (h623 _ _ (h621 _ _ h535)), (h623 _ _ (h621 _ _ h536)), (h623 _ _ (h621 _ _ h537)), (h623 _ _ (h621 _ _ h538)), (h623 _ _ (h621 _ _ h539)), trivial⟩
                · refine ⟨_, rfl, ?_⟩
                  refine ⟨_, rfl, rfl, (by first | (walk_at "o2")), fun B_51 h_B_51 h0_B_51 => ?_⟩
                  refine ⟨_, _, rfl, rfl, ?_⟩
                  refine ⟨_, rfl, ?_⟩
                  refine ⟨_, rfl, ?_⟩
                  refine ⟨_, rfl, ?_⟩
                  refine Or.inr (Or.inr (Or.inr (Or.inl ?_)))
                  refine ⟨_, _, _, _, _, _, _, _, rfl, (by first | (walk_at "o2")), (by first | (walk_at "o2")), (by first | (walk_at "o2")), (by first | (walk_at "o2")), h534, (by first | (walk_at "o2")), (by first | (walk_at "o2")), (by first | (walk_at "o2")), (by first | (walk_at "o2")), (by first | (walk_at "o2")), (by first | (walk_at "o2")), (by first | (walk_at "o2")), (by first | (walk_at "o2")), (by first | (walk_at "o2")), fun Hn_182 h632 => ?_⟩
                  refine Ow.gnmS (σ' := [_, _, _, _, _, _, _, _, _, _, _, _]) rfl ?_
                  refine ⟨_, rfl, ?_⟩
                  refine ⟨_, rfl, ?_⟩
                  refine ⟨_, rfl, ?_⟩
                  refine ⟨_, rfl, ?_⟩
                  refine Or.inr (Or.inr (Or.inr (Or.inl ?_)))
                  refine ⟨_, _, _, _, fm, _, rfl, (by first | (walk_at "o2")), (by first | (walk_at "o2")), (by first | (walk_at "o2")), (by first | (walk_at "o2")), (h632 _ _ h535), (by first | (walk_at "o2")), (by first | (walk_at "o2")), fun Hn_183 h633 => ?_⟩
                  refine Ow.gnmS (σ' := [_, _, _, _, _, _, _, _, _, _, _, _]) rfl ?_
                  refine ⟨_, rfl, ?_⟩
                  refine ⟨_, _, _, _, true, rfl, .ty _, .base (.bl _), kit_ty (by decide +kernel), ?_⟩
                  refine ⟨_, rfl, ?_⟩
                  refine iteF ?_
                  refine ⟨_, rfl, ?_⟩
                  refine ⟨_, rfl, ?_⟩
                  refine ⟨rfl, ?_⟩
                  refine ⟨_, rfl, ?_⟩
                  refine Ow.ifneb (fun h634 => ?_) (fun h634 => ?_)
                  · try simp only [decide_eq_true_eq, V.int.injEq] at h634
                    exact ((by (subst_vars; first | exact h634 Iff.rfl | exact h634 trivial | exact h634 (Iff.trans (by assumption : _ = true ↔ Ow.Right _ _ _) (Iff.symm (by assumption : _ = true ↔ Ow.AllR _ _ _ _ _ _))) | exact Ow.no_T h634 (by assumption) (by assumption) | exact Ow.no_a h634 (by assumption) (by assumption) | exact Ow.no_b h634 (by assumption) (by assumption) | exact Ow.no_c h634 (by assumption) (by assumption) | exact h634 (Iff.trans (by assumption : _ = true ↔ Ow.WrongF _ _ _ _) (Iff.symm (by assumption : _ = true ↔ Ow.LwR _ _ _ _ _ _ _))))) : False).elim
                  · try simp only [decide_eq_true_eq, V.int.injEq] at h634
                    refine ⟨_, rfl, ?_⟩
                    refine ⟨_, _, rfl, rfl, ?_⟩
                    refine ⟨_, rfl, ?_⟩
                    refine Ow.ifd (fun h635 => ?_) (fun h635 => ?_)
                    · refine ⟨_, rfl, ?_⟩
                      refine ⟨rfl, ?_⟩
                      refine ⟨_, rfl, ?_⟩
                      refine iteF ?_
                      refine ⟨_, rfl, ?_⟩
                      refine Or.inr (Or.inr (Or.inr (Or.inl ?_)))
                      refine ⟨_, rfl, ?_⟩
                      refine ⟨_, rfl, ?_⟩
                      refine iteF ?_
                      refine iteF ?_
                      exact ⟨_, _, _, _, _, rfl, (((Ow.Fm.refl.trans h531).same h632).same h633), (h633 _ _ (h632 _ _ h532)), (h633 _ _ (h632 _ _ h533)), (h633 _ _ (h632 _ _ h534)), (h633 _ _ (h632 _ _ h535)), (h633 _ _ (h632 _ _ h536)), (h633 _ _ (h632 _ _ h537)), (h633 _ _ (h632 _ _ h538)), (h633 _ _ (h632 _ _ h539)), trivial⟩
                    · refine iteF ?_
                      exact ⟨_, _, _, _, _, rfl, (((Ow.Fm.refl.trans h531).same h632).same h633), (h633 _ _ (h632 _ _ h532)), (h633 _ _ (h632 _ _ h533)), (h633 _ _ (h632 _ _ h534)), (h633 _ _ (h632 _ _ h535)), (h633 _ _ (h632 _ _ h536)), (h633 _ _ (h632 _ _ h537)), (h633 _ _ (h632 _ _ h538)), (h633 _ _ (h632 _ _ h539)), trivial⟩
                · refine ⟨_, rfl, ?_⟩
                  refine ⟨_, rfl, rfl, (by first | (walk_at "o2")), fun B_52 h_B_52 h0_B_52 => ?_⟩
                  refine ⟨_, _, rfl, rfl, ?_⟩
                  refine ⟨_, rfl, ?_⟩
                  refine ⟨_, rfl, ?_⟩
                  refine ⟨_, rfl, ?_⟩
                  refine Or.inr (Or.inr (Or.inr (Or.inr (Or.inl ?_))))
                  refine ⟨_, _, _, _, _, _, _, _, _, rfl, (by first | (walk_at "o2")), (by first | (walk_at "o2")), (by first | (walk_at "o2")), (by first | (walk_at "o2")), h534, (by first | (walk_at "o2")), (by first | (walk_at "o2")), (by first | (walk_at "o2")), (by first | (walk_at "o2")), (by first | (walk_at "o2")), (by first | (walk_at "o2")), (by first | (walk_at "o2")), (by first | (walk_at "o2")), (by first | (walk_at "o2")), h537, fun Hn_184 h636 => ?_⟩
                  refine Ow.gnmS (σ' := [_, _, _, _, _, _, _, _, _, _, _, _]) rfl ?_
                  refine ⟨_, rfl, ?_⟩
                  refine ⟨_, rfl, ?_⟩
                  refine ⟨_, rfl, ?_⟩
                  refine ⟨_, rfl, ?_⟩
                  refine Or.inr (Or.inr (Or.inr (Or.inr (Or.inl ?_))))
                  refine ⟨_, _, _, _, fm, _, _, rfl, (by first | (walk_at "o2")), (by first | (walk_at "o2")), (by first | (walk_at "o2")), (by first | (walk_at "o2")), (h636 _ _ h535), (by first | (walk_at "o2")), (by first | (walk_at "o2")), (h636 _ _ h537), fun Hn_185 h637 => ?_⟩
                  refine Ow.gnmS (σ' := [_, _, _, _, _, _, _, _, _, _, _, _]) rfl ?_
                  refine ⟨_, rfl, ?_⟩
                  refine ⟨_, _, _, _, true, rfl, .ty _, .base (.bl _), kit_ty (by decide +kernel), ?_⟩
                  refine ⟨_, rfl, ?_⟩
                  refine iteF ?_
                  refine ⟨_, rfl, ?_⟩
                  refine ⟨_, rfl, ?_⟩
                  refine ⟨rfl, ?_⟩
                  refine ⟨_, rfl, ?_⟩
                  refine Ow.ifneb (fun h638 => ?_) (fun h638 => ?_)
                  · try simp only [decide_eq_true_eq, V.int.injEq] at h638
                    exact ((by (subst_vars; first | exact h638 Iff.rfl | exact h638 trivial | exact h638 (Iff.trans (by assumption : _ = true ↔ Ow.Right _ _ _) (Iff.symm (by assumption : _ = true ↔ Ow.AllR _ _ _ _ _ _))) | exact Ow.no_T h638 (by assumption) (by assumption) | exact Ow.no_a h638 (by assumption) (by assumption) | exact Ow.no_b h638 (by assumption) (by assumption) | exact Ow.no_c h638 (by assumption) (by assumption) | exact h638 (Iff.trans (by assumption : _ = true ↔ Ow.WrongF _ _ _ _) (Iff.symm (by assumption : _ = true ↔ Ow.LwR _ _ _ _ _ _ _))))) : False).elim
                  · try simp only [decide_eq_true_eq, V.int.injEq] at h638
                    refine ⟨_, rfl, ?_⟩
                    refine ⟨_, _, rfl, rfl, ?_⟩
                    refine ⟨_, rfl, ?_⟩
                    refine Ow.ifd (fun h639 => ?_) (fun h639 => ?_)
                    · refine ⟨_, rfl, ?_⟩
                      refine ⟨rfl, ?_⟩
                      refine ⟨_, rfl, ?_⟩
                      refine iteF ?_
                      refine ⟨_, rfl, ?_⟩
                      refine Or.inr (Or.inr (Or.inr (Or.inr (Or.inl ?_))))
                      refine ⟨_, _, rfl, (h637 _ _ (h636 _ _ h537)), ?_⟩
                      refine ⟨_, rfl, ?_⟩
                      refine iteF ?_
                      refine iteF ?_
                      exact ⟨_, _, _, _, _, rfl, (((Ow.Fm.refl.trans h531).same h636).same h637), (h637 _ _ (h636 _ _ h532)), (h637 _ _ (h636 _ _ h533)), (h637 _ _ (h636 _ _ h534)), (h637 _ _ (h636 _ _ h535)), (h637 _ _ (h636 _ _ h536)), (h637 _ _ (h636 _ _ h537)), (h637 _ _ (h636 _ _ h538)), (h637 _ _ (h636 _ _ h539)), trivial⟩
                    · refine iteF ?_
                      exact ⟨_, _, _, _, _, rfl, (((Ow.Fm.refl.trans h531).same h636).same h637), (h637 _ _ (h636 _ _ h532)), (h637 _ _ (h636 _ _ h533)), (h637 _ _ (h636 _ _ h534)), (h637 _ _ (h636 _ _ h535)), (h637 _ _ (h636 _ _ h536)), (h637 _ _ (h636 _ _ h537)), (h637 _ _ (h636 _ _ h538)), (h637 _ _ (h636 _ _ h539)), trivial⟩
                · refine ⟨_, rfl, ?_⟩
                  refine ⟨_, rfl, rfl, (by first | (walk_at "o2")), fun B_53 h_B_53 h0_B_53 => ?_⟩
                  refine ⟨_, _, rfl, rfl, ?_⟩
                  refine ⟨_, rfl, ?_⟩
                  refine ⟨_, rfl, ?_⟩
                  refine ⟨_, rfl, ?_⟩
                  refine Or.inr (Or.inr (Or.inr (Or.inr (Or.inr (Or.inl ?_)))))
                  refine ⟨_, _, _, _, _, _, _, _, _, rfl, (by first | (walk_at "o2")), (by first | (walk_at "o2")), (by first | (walk_at "o2")), (by first | (walk_at "o2")), h534, (by first | (walk_at "o2")), (by first | (walk_at "o2")), (by first | (walk_at "o2")), (by first | (walk_at "o2")), (by first | (walk_at "o2")), (by first | (walk_at "o2")), (by first | (walk_at "o2")), (by first | (walk_at "o2")), (by first | (walk_at "o2")), h538, fun Hn_186 h640 => ?_⟩
                  refine Ow.gnmS (σ' := [_, _, _, _, _, _, _, _, _, _, _, _]) rfl ?_
                  refine ⟨_, rfl, ?_⟩
                  refine ⟨_, rfl, ?_⟩
                  refine ⟨_, rfl, ?_⟩
                  refine ⟨_, rfl, ?_⟩
                  refine Or.inr (Or.inr (Or.inr (Or.inr (Or.inr (Or.inl ?_)))))
                  refine ⟨_, _, _, _, fm, _, _, rfl, (by first | (walk_at "o2")), (by first | (walk_at "o2")), (by first | (walk_at "o2")), (by first | (walk_at "o2")), (h640 _ _ h535), (by first | (walk_at "o2")), (by first | (walk_at "o2")), (h640 _ _ h538), fun Hn_187 h641 => ?_⟩
                  refine Ow.gnmS (σ' := [_, _, _, _, _, _, _, _, _, _, _, _]) rfl ?_
                  refine ⟨_, rfl, ?_⟩
                  refine ⟨_, _, _, _, true, rfl, .ty _, .base (.bl _), kit_ty (by decide +kernel), ?_⟩
                  refine ⟨_, rfl, ?_⟩
                  refine iteF ?_
                  refine ⟨_, rfl, ?_⟩
                  refine ⟨_, rfl, ?_⟩
                  refine ⟨rfl, ?_⟩
                  refine ⟨_, rfl, ?_⟩
                  refine Ow.ifneb (fun h642 => ?_) (fun h642 => ?_)
                  · try simp only [decide_eq_true_eq, V.int.injEq] at h642
                    exact ((by (subst_vars; first | exact h642 Iff.rfl | exact h642 trivial | exact h642 (Iff.trans (by assumption : _ = true ↔ Ow.Right _ _ _) (Iff.symm (by assumption : _ = true ↔ Ow.AllR _ _ _ _ _ _))) | exact Ow.no_T h642 (by assumption) (by assumption) | exact Ow.no_a h642 (by assumption) (by assumption) | exact Ow.no_b h642 (by assumption) (by assumption) | exact Ow.no_c h642 (by assumption) (by assumption) | exact h642 (Iff.trans (by assumption : _ = true ↔ Ow.WrongF _ _ _ _) (Iff.symm (by assumption : _ = true ↔ Ow.LwR _ _ _ _ _ _ _))))) : False).elim
                  · try simp only [decide_eq_true_eq, V.int.injEq] at h642
                    refine ⟨_, rfl, ?_⟩
                    refine ⟨_, _, rfl, rfl, ?_⟩
                    refine ⟨_, rfl, ?_⟩
                    refine Ow.ifd (fun h643 => ?_) (fun h643 => ?_)
                    · refine ⟨_, rfl, ?_⟩
                      refine ⟨rfl, ?_⟩
                      refine ⟨_, rfl, ?_⟩
                      refine iteF ?_
                      refine ⟨_, rfl, ?_⟩
                      refine Or.inr (Or.inr (Or.inr (Or.inr (Or.inr (Or.inl ?_)))))
                      refine ⟨_, _, rfl, (h641 _ _ (h640 _ _ h538)), ?_⟩
                      refine ⟨_, rfl, ?_⟩
                      refine iteF ?_
                      refine iteF ?_
                      exact ⟨_, _, _, _, _, rfl, (((Ow.Fm.refl.trans h531).same h640).same h641), (h641 _ _ (h640 _ _ h532)), (h641 _ _ (h640 _ _ h533)), (h641 _ _ (h640 _ _ h534)), (h641 _ _ (h640 _ _ h535)), (h641 _ _ (h640 _ _ h536)), (h641 _ _ (h640 _ _ h537)), (h641 _ _ (h640 _ _ h538)), (h641 _ _ (h640 _ _ h539)), trivial⟩
                    · refine iteF ?_
                      exact ⟨_, _, _, _, _, rfl, (((Ow.Fm.refl.trans h531).same h640).same h641), (h641 _ _ (h640 _ _ h532)), (h641 _ _ (h640 _ _ h533)), (h641 _ _ (h640 _ _ h534)), (h641 _ _ (h640 _ _ h535)), (h641 _ _ (h640 _ _ h536)), (h641 _ _ (h640 _ _ h537)), (h641 _ _ (h640 _ _ h538)), (h641 _ _ (h640 _ _ h539)), trivial⟩
                · refine ⟨_, rfl, ?_⟩
                  refine ⟨_, rfl, rfl, (by first | (walk_at "o2")), fun B_54 h_B_54 h0_B_54 => ?_⟩
                  refine ⟨_, _, rfl, rfl, ?_⟩
                  refine ⟨_, rfl, ?_⟩
                  refine ⟨_, rfl, ?_⟩
                  refine ⟨_, rfl, ?_⟩
                  refine Or.inr (Or.inr (Or.inr (Or.inr (Or.inr (Or.inr (?_))))))
                  refine ⟨_, _, _, _, _, _, _, _, rfl, (by first | (walk_at "o2")), (by first | (walk_at "o2")), (by first | (walk_at "o2")), (by first | (walk_at "o2")), h534, (by first | (walk_at "o2")), (by first | (walk_at "o2")), (by first | (walk_at "o2")), (by first | (walk_at "o2")), (by first | (walk_at "o2")), (by first | (walk_at "o2")), (by first | (walk_at "o2")), (by first | (walk_at "o2")), (by first | (walk_at "o2")), h539, fun Hn_188 h644 => ?_⟩
                  refine Ow.gnmS (σ' := [_, _, _, _, _, _, _, _, _, _, _, _]) rfl ?_
                  refine ⟨_, rfl, ?_⟩
                  refine ⟨_, rfl, ?_⟩
                  refine ⟨_, rfl, ?_⟩
                  refine ⟨_, rfl, ?_⟩
                  refine Or.inr (Or.inr (Or.inr (Or.inr (Or.inr (Or.inr (?_))))))
                  refine ⟨_, _, _, _, fm, _, rfl, (by first | (walk_at "o2")), (by first | (walk_at "o2")), (by first | (walk_at "o2")), (by first | (walk_at "o2")), (h644 _ _ h535), (by first | (walk_at "o2")), (by first | (walk_at "o2")), (h644 _ _ h539), fun Hn_189 h645 => ?_⟩
                  refine Ow.gnmS (σ' := [_, _, _, _, _, _, _, _, _, _, _, _]) rfl ?_
                  refine ⟨_, rfl, ?_⟩
                  refine ⟨_, _, _, _, true, rfl, .ty _, .base (.bl _), kit_ty (by decide +kernel), ?_⟩
                  refine ⟨_, rfl, ?_⟩
                  refine iteF ?_
                  refine ⟨_, rfl, ?_⟩
                  refine ⟨_, rfl, ?_⟩
                  refine ⟨rfl, ?_⟩
                  refine ⟨_, rfl, ?_⟩
                  refine Ow.ifneb (fun h646 => ?_) (fun h646 => ?_)
                  · try simp only [decide_eq_true_eq, V.int.injEq] at h646
                    exact ((by (subst_vars; first | exact h646 Iff.rfl | exact h646 trivial | exact h646 (Iff.trans (by assumption : _ = true ↔ Ow.Right _ _ _) (Iff.symm (by assumption : _ = true ↔ Ow.AllR _ _ _ _ _ _))) | exact Ow.no_T h646 (by assumption) (by assumption) | exact Ow.no_a h646 (by assumption) (by assumption) | exact Ow.no_b h646 (by assumption) (by assumption) | exact Ow.no_c h646 (by assumption) (by assumption) | exact h646 (Iff.trans (by assumption : _ = true ↔ Ow.WrongF _ _ _ _) (Iff.symm (by assumption : _ = true ↔ Ow.LwR _ _ _ _ _ _ _))))) : False).elim
                  · try simp only [decide_eq_true_eq, V.int.injEq] at h646
                    refine ⟨_, rfl, ?_⟩
                    refine ⟨_, _, rfl, rfl, ?_⟩
                    refine ⟨_, rfl, ?_⟩
                    refine Ow.ifd (fun h647 => ?_) (fun h647 => ?_)
                    · refine ⟨_, rfl, ?_⟩
                      refine ⟨rfl, ?_⟩
                      refine ⟨_, rfl, ?_⟩
                      refine iteF ?_
                      refine ⟨_, rfl, ?_⟩
                      refine Or.inr (Or.inr (Or.inr (Or.inr (Or.inr (Or.inr (?_))))))
                      refine ⟨_, rfl, (h645 _ _ (h644 _ _ h539)), ?_⟩
                      refine ⟨_, rfl, ?_⟩
                      refine iteF ?_
                      refine iteF ?_
                      exact ⟨_, _, _, _, _, rfl, (((Ow.Fm.refl.trans h531).same h644).same h645), (h645 _ _ (h644 _ _ h532)), (h645 _ _ (h644 _ _ h533)), (h645 _ _ (h644 _ _ h534)), (h645 _ _ (h644 _ _ h535)), (h645 _ _ (h644 _ _ h536)), (h645 _ _ (h644 _ _ h537)), (h645 _ _ (h644 _ _ h538)), (h645 _ _ (h644 _ _ h539)), trivial⟩
                    · refine iteF ?_
                      exact ⟨_, _, _, _, _, rfl, (((Ow.Fm.refl.trans h531).same h644).same h645), (h645 _ _ (h644 _ _ h532)), (h645 _ _ (h644 _ _ h533)), (h645 _ _ (h644 _ _ h534)), (h645 _ _ (h644 _ _ h535)), (h645 _ _ (h644 _ _ h536)), (h645 _ _ (h644 _ _ h537)), (h645 _ _ (h644 _ _ h538)), (h645 _ _ (h644 _ _ h539)), trivial⟩
                · refine ⟨_, rfl, ?_⟩
                  refine ⟨_, rfl, rfl, (by first | (walk_at "o2")), fun B_55 h_B_55 h0_B_55 => ?_⟩
                  refine ⟨_, _, rfl, rfl, ?_⟩
                  refine ⟨_, rfl, ?_⟩
                  refine ⟨_, rfl, ?_⟩
                  refine ⟨_, rfl, ?_⟩
                  refine Or.inr (Or.inl ?_)
                  refine ⟨_, _, _, _, _, _, _, _, rfl, (by first | (walk_at "o2")), (by first | (walk_at "o2")), (by first | (walk_at "o2")), (by first | (walk_at "o2")), h534, (by first | (walk_at "o2")), (by first | (walk_at "o2")), (by first | (walk_at "o2")), (by first | (walk_at "o2")), (by first | (walk_at "o2")), (by first | (walk_at "o2")), (by first | (walk_at "o2")), (by first | (walk_at "o2")), (by first | (walk_at "o2")), fun l_due_31 h648 Hn_190 h649 => ?_⟩
                  refine Ow.gnmS (σ' := [_, _, _, _, _, _, _, _, _, _, _, _]) rfl ?_
                  refine ⟨_, rfl, ?_⟩
                  refine ⟨_, rfl, ?_⟩
                  refine ⟨_, rfl, ?_⟩
                  refine ⟨_, rfl, ?_⟩
                  refine Or.inr (Or.inl ?_)
                  refine ⟨_, _, _, _, fm, _, rfl, (by first | (walk_at "o2")), (by first | (walk_at "o2")), (by first | (walk_at "o2")), (by first | (walk_at "o2")), (h649 _ _ h535), (by first | (walk_at "o2")), (by first | (walk_at "o2")), fun l_found_31 h650 Hn_191 h651 => ?_⟩
                  refine Ow.gnmS (σ' := [_, _, _, _, _, _, _, _, _, _, _, _]) rfl ?_
                  refine ⟨_, rfl, ?_⟩
                  refine ⟨_, _, _, _, true, rfl, .ty _, .base (.bl _), kit_ty (by decide +kernel), ?_⟩
                  refine ⟨_, rfl, ?_⟩
                  refine iteF ?_
                  refine ⟨_, rfl, ?_⟩
                  refine ⟨_, rfl, ?_⟩
                  refine ⟨rfl, ?_⟩
                  refine ⟨_, rfl, ?_⟩
                  refine Ow.ifneb (fun h652 => ?_) (fun h652 => ?_)
                  · try simp only [decide_eq_true_eq, V.int.injEq] at h652
                    exact ((by (subst_vars; first | exact h652 Iff.rfl | exact h652 trivial | exact h652 (Iff.trans (by assumption : _ = true ↔ Ow.Right _ _ _) (Iff.symm (by assumption : _ = true ↔ Ow.AllR _ _ _ _ _ _))) | exact Ow.no_T h652 (by assumption) (by assumption) | exact Ow.no_a h652 (by assumption) (by assumption) | exact Ow.no_b h652 (by assumption) (by assumption) | exact Ow.no_c h652 (by assumption) (by assumption) | exact h652 (Iff.trans (by assumption : _ = true ↔ Ow.WrongF _ _ _ _) (Iff.symm (by assumption : _ = true ↔ Ow.LwR _ _ _ _ _ _ _))))) : False).elim
                  · try simp only [decide_eq_true_eq, V.int.injEq] at h652
                    refine ⟨_, rfl, ?_⟩
                    refine ⟨_, _, rfl, rfl, ?_⟩
                    refine ⟨_, rfl, ?_⟩
                    refine Ow.ifd (fun h653 => ?_) (fun h653 => ?_)
                    · refine ⟨_, rfl, ?_⟩
                      refine ⟨rfl, ?_⟩
                      refine ⟨_, rfl, ?_⟩
                      refine iteF ?_
                      refine ⟨_, rfl, ?_⟩
                      refine Or.inl ?_
                      refine ⟨_, rfl, ?_⟩
                      refine ⟨_, rfl, ?_⟩
                      refine iteT ?_
                      refine ⟨_, rfl, ?_⟩
                      refine ⟨_, rfl, ?_⟩
                      refine ⟨_, rfl, ?_⟩
                      refine ⟨_, rfl, ?_⟩
                      refine ⟨_, rfl, ?_⟩
                      refine ⟨_, _, _, _, _, _, _, rfl, (by first | (walk_at "o2")), (by first | (walk_at "o2")), (by first | (walk_at "o2")), (by first | (walk_at "o2")), (h651 _ _ (h649 _ _ h534)), (by first | (walk_at "o2")), (by first | (walk_at "o2")), (by first | (walk_at "o2")), (by first | (walk_at "o2")), (by first | (walk_at "o2")), (by first | (walk_at "o2")), (by first | (walk_at "o2")), (by first | (walk_at "o2")), (by first | (walk_at "o2")), ?_, ?_⟩
                      · refine fun h654 Hn_192 h655 => ?_
                        refine ⟨rfl, ?_⟩
                        refine ⟨rfl, ?_⟩
                        refine ⟨_, rfl, ?_⟩
                        refine Ow.ifneb (fun h656 => ?_) (fun h656 => ?_)
                        · try simp only [decide_eq_true_eq, V.int.injEq] at h656
                          exact ((by (subst_vars; first | exact h656 Iff.rfl | exact h656 trivial | exact h656 (Iff.trans (by assumption : _ = true ↔ Ow.Right _ _ _) (Iff.symm (by assumption : _ = true ↔ Ow.AllR _ _ _ _ _ _))) | exact Ow.no_T h656 (by assumption) (by assumption) | exact Ow.no_a h656 (by assumption) (by assumption) | exact Ow.no_b h656 (by assumption) (by assumption) | exact Ow.no_c h656 (by assumption) (by assumption) | exact h656 (Iff.trans (by assumption : _ = true ↔ Ow.WrongF _ _ _ _) (Iff.symm (by assumption : _ = true ↔ Ow.LwR _ _ _ _ _ _ _))))) : False).elim
                        · try simp only [decide_eq_true_eq, V.int.injEq] at h656
                          exact ⟨_, _, _, _, _, rfl, ((((Ow.Fm.refl.trans h531).same h649).same h651).same h655), (h655 _ _ (h651 _ _ (h649 _ _ h532))), (h655 _ _ (h651 _ _ (h649 _ _ h533))), (h655 _ _ (h651 _ _ (h649 _ _ h534))), (h655 _ _ (h651 _ _ (h649 _ _ h535))), (h655 _ _ (h651 _ _ (h649 _ _ h536))), (h655 _ _ (h651 _ _ (h649 _ _ h537))), (h655 _ _ (h651 _ _ (h649 _ _ h538))), (h655 _ _ (h651 _ _ (h649 _ _ h539))), trivial⟩
                      · refine fun t_43 h657 Hn_193 h658 => ?_
                        refine ⟨rfl, ?_⟩
                        refine ⟨rfl, ?_⟩
                        refine ⟨_, rfl, ?_⟩
                        refine Ow.ifneb (fun h659 => ?_) (fun h659 => ?_)
                        · try simp only [decide_eq_true_eq, V.int.injEq] at h659
                          exact ((by (subst_vars; first | exact h659 Iff.rfl | exact h659 trivial | exact h659 (Iff.trans (by assumption : _ = true ↔ Ow.Right _ _ _) (Iff.symm (by assumption : _ = true ↔ Ow.AllR _ _ _ _ _ _))) | exact Ow.no_T h659 (by assumption) (by assumption) | exact Ow.no_a h659 (by assumption) (by assumption) | exact Ow.no_b h659 (by assumption) (by assumption) | exact Ow.no_c h659 (by assumption) (by assumption) | exact h659 (Iff.trans (by assumption : _ = true ↔ Ow.WrongF _ _ _ _) (Iff.symm (by assumption : _ = true ↔ Ow.LwR _ _ _ _ _ _ _))))) : False).elim
                        · try simp only [decide_eq_true_eq, V.int.injEq] at h659
                          exact ⟨_, _, _, _, _, rfl, ((((Ow.Fm.refl.trans h531).same h649).same h651).same h658), (h658 _ _ (h651 _ _ (h649 _ _ h532))), (h658 _ _ (h651 _ _ (h649 _ _ h533))), (h658 _ _ (h651 _ _ (h649 _ _ h534))), (h658 _ _ (h651 _ _ (h649 _ _ h535))), (h658 _ _ (h651 _ _ (h649 _ _ h536))), (h658 _ _ (h651 _ _ (h649 _ _ h537))), (h658 _ _ (h651 _ _ (h649 _ _ h538))), (h658 _ _ (h651 _ _ (h649 _ _ h539))), trivial⟩
                    · refine iteF ?_
                      exact ⟨_, _, _, _, _, rfl, (((Ow.Fm.refl.trans h531).same h649).same h651), (h651 _ _ (h649 _ _ h532)), (h651 _ _ (h649 _ _ h533)), (h651 _ _ (h649 _ _ h534)), (h651 _ _ (h649 _ _ h535)), (h651 _ _ (h649 _ _ h536)), (h651 _ _ (h649 _ _ h537)), (h651 _ _ (h649 _ _ h538)), (h651 _ _ (h649 _ _ h539)), trivial⟩
                · refine ⟨_, rfl, ?_⟩
                  refine ⟨_, rfl, rfl, (by first | (walk_at "o2")), fun B_56 h_B_56 h0_B_56 => ?_⟩
                  refine ⟨_, _, rfl, rfl, ?_⟩
                  refine ⟨_, rfl, ?_⟩
                  refine ⟨_, rfl, ?_⟩
                  refine ⟨_, rfl, ?_⟩
                  refine Or.inr (Or.inl ?_)
                  refine ⟨_, _, _, _, _, _, _, _, rfl, (by first | (walk_at "o2")), (by first | (walk_at "o2")), (by first | (walk_at "o2")), (by first | (walk_at "o2")), h534, (by first | (walk_at "o2")), (by first | (walk_at "o2")), (by first | (walk_at "o2")), (by first | (walk_at "o2")), (by first | (walk_at "o2")), (by first | (walk_at "o2")), (by first | (walk_at "o2")), (by first | (walk_at "o2")), (by first | (walk_at "o2")), fun l_due_32 h660 Hn_194 h661 => ?_⟩
                  refine Ow.gnmS (σ' := [_, _, _, _, _, _, _, _, _, _, _, _]) rfl ?_
                  refine ⟨_, rfl, ?_⟩
                  refine ⟨_, rfl, ?_⟩
                  refine ⟨_, rfl, ?_⟩
                  refine ⟨_, rfl, ?_⟩
                  refine Or.inr (Or.inl ?_)
                  refine ⟨_, _, _, _, fm, _, rfl, (by first | (walk_at "o2")), (by first | (walk_at "o2")), (by first | (walk_at "o2")), (by first | (walk_at "o2")), (h661 _ _ h535), (by first | (walk_at "o2")), (by first | (walk_at "o2")), fun l_found_32 h662 Hn_195 h663 => ?_⟩
                  refine Ow.gnmS (σ' := [_, _, _, _, _, _, _, _, _, _, _, _]) rfl ?_
                  refine ⟨_, rfl, ?_⟩
                  refine ⟨_, _, _, _, true, rfl, .ty _, .base (.bl _), kit_ty (by decide +kernel), ?_⟩
                  refine ⟨_, rfl, ?_⟩
                  refine iteF ?_
                  refine ⟨_, rfl, ?_⟩
                  refine ⟨_, rfl, ?_⟩
                  refine ⟨rfl, ?_⟩
                  refine ⟨_, rfl, ?_⟩
                  refine Ow.ifneb (fun h664 => ?_) (fun h664 => ?_)
                  · try simp only [decide_eq_true_eq, V.int.injEq] at h664
                    exact ((by (subst_vars; first | exact h664 Iff.rfl | exact h664 trivial | exact h664 (Iff.trans (by assumption : _ = true ↔ Ow.Right _ _ _) (Iff.symm (by assumption : _ = true ↔ Ow.AllR _ _ _ _ _ _))) | exact Ow.no_T h664 (by assumption) (by assumption) | exact Ow.no_a h664 (by assumption) (by assumption) | exact Ow.no_b h664 (by assumption) (by assumption) | exact Ow.no_c h664 (by assumption) (by assumption) | exact h664 (Iff.trans (by assumption : _ = true ↔ Ow.WrongF _ _ _ _) (Iff.symm (by assumption : _ = true ↔ Ow.LwR _ _ _ _ _ _ _))))) : False).elim
                  · try simp only [decide_eq_true_eq, V.int.injEq] at h664
                    refine ⟨_, rfl, ?_⟩
                    refine ⟨_, _, rfl, rfl, ?_⟩
                    refine ⟨_, rfl, ?_⟩
                    refine Ow.ifd (fun h665 => ?_) (fun h665 => ?_)
                    · refine ⟨_, rfl, ?_⟩
                      refine ⟨rfl, ?_⟩
                      refine ⟨_, rfl, ?_⟩
                      refine iteF ?_
                      refine ⟨_, rfl, ?_⟩
                      refine Or.inl ?_
                      refine ⟨_, rfl, ?_⟩
                      refine ⟨_, rfl, ?_⟩
                      refine iteT ?_
                      refine ⟨_, rfl, ?_⟩
                      refine ⟨_, rfl, ?_⟩
                      refine ⟨_, rfl, ?_⟩
                      refine ⟨_, rfl, ?_⟩
                      refine ⟨_, rfl, ?_⟩
                      refine ⟨_, _, _, _, _, _, _, rfl, (by first | (walk_at "o2")), (by first | (walk_at "o2")), (by first | (walk_at "o2")), (by first | (walk_at "o2")), (h663 _ _ (h661 _ _ h534)), (by first | (walk_at "o2")), (by first | (walk_at "o2")), (by first | (walk_at "o2")), (by first | (walk_at "o2")), (by first | (walk_at "o2")), (by first | (walk_at "o2")), (by first | (walk_at "o2")), (by first | (walk_at "o2")), (by first | (walk_at "o2")), ?_, ?_⟩
                      · refine fun h666 Hn_196 h667 => ?_
                        refine ⟨rfl, ?_⟩
                        refine ⟨rfl, ?_⟩
                        refine ⟨_, rfl, ?_⟩
                        refine Ow.ifneb (fun h668 => ?_) (fun h668 => ?_)
                        · try simp only [decide_eq_true_eq, V.int.injEq] at h668
                          exact ((by (subst_vars; first | exact h668 Iff.rfl | exact h668 trivial | exact h668 (Iff.trans (by assumption : _ = true ↔ Ow.Right _ _ _) (Iff.symm (by assumption : _ = true ↔ Ow.AllR _ _ _ _ _ _))) | exact Ow.no_T h668 (by assumption) (by assumption) | exact Ow.no_a h668 (by assumption) (by assumption) | exact Ow.no_b h668 (by assumption) (by assumption) | exact Ow.no_c h668 (by assumption) (by assumption) | exact h668 (Iff.trans (by assumption : _ = true ↔ Ow.WrongF _ _ _ _) (Iff.symm (by assumption : _ = true ↔ Ow.LwR _ _ _ _ _ _ _))))) : False).elim
                        · try simp only [decide_eq_true_eq, V.int.injEq] at h668
                          exact ⟨_, _, _, _, _, rfl, ((((Ow.Fm.refl.trans h531).same h661).same h663).same h667), (h667 _ _ (h663 _ _ (h661 _ _ h532))), (h667 _ _ (h663 _ _ (h661 _ _ h533))), (h667 _ _ (h663 _ _ (h661 _ _ h534))), (h667 _ _ (h663 _ _ (h661 _ _ h535))), (h667 _ _ (h663 _ _ (h661 _ _ h536))), (h667 _ _ (h663 _ _ (h661 _ _ h537))), (h667 _ _ (h663 _ _ (h661 _ _ h538))), (h667 _ _ (h663 _ _ (h661 _ _ h539))), trivial⟩
                      · refine fun t_44 h669 Hn_197 h670 => ?_
                        refine ⟨rfl, ?_⟩
                        refine ⟨rfl, ?_⟩
                        refine ⟨_, rfl, ?_⟩
                        refine Ow.ifneb (fun h671 => ?_) (fun h671 => ?_)
                        · try simp only [decide_eq_true_eq, V.int.injEq] at h671
                          exact ((by (subst_vars; first | exact h671 Iff.rfl | exact h671 trivial | exact h671 (Iff.trans (by assumption : _ = true ↔ Ow.Right _ _ _) (Iff.symm (by assumption : _ = true ↔ Ow.AllR _ _ _ _ _ _))) | exact Ow.no_T h671 (by assumption) (by assumption) | exact Ow.no_a h671 (by assumption) (by assumption) | exact Ow.no_b h671 (by assumption) (by assumption) | exact Ow.no_c h671 (by assumption) (by assumption) | exact h671 (Iff.trans (by assumption : _ = true ↔ Ow.WrongF _ _ _ _) (Iff.symm (by assumption : _ = true ↔ Ow.LwR _ _ _ _ _ _ _))))) : False).elim
                        · try simp only [decide_eq_true_eq, V.int.injEq] at h671
                          exact ⟨_, _, _, _, _, rfl, ((((Ow.Fm.refl.trans h531).same h661).same h663).same h670), (h670 _ _ (h663 _ _ (h661 _ _ h532))), (h670 _ _ (h663 _ _ (h661 _ _ h533))), (h670 _ _ (h663 _ _ (h661 _ _ h534))), (h670 _ _ (h663 _ _ (h661 _ _ h535))), (h670 _ _ (h663 _ _ (h661 _ _ h536))), (h670 _ _ (h663 _ _ (h661 _ _ h537))), (h670 _ _ (h663 _ _ (h661 _ _ h538))), (h670 _ _ (h663 _ _ (h661 _ _ h539))), trivial⟩
                    · refine iteF ?_
                      exact ⟨_, _, _, _, _, rfl, (((Ow.Fm.refl.trans h531).same h661).same h663), (h663 _ _ (h661 _ _ h532)), (h663 _ _ (h661 _ _ h533)), (h663 _ _ (h661 _ _ h534)), (h663 _ _ (h661 _ _ h535)), (h663 _ _ (h661 _ _ h536)), (h663 _ _ (h661 _ _ h537)), (h663 _ _ (h661 _ _ h538)), (h663 _ _ (h661 _ _ h539)), trivial⟩
              · rintro _ Hn_198 ⟨a9_10, c9_10, _, _, _, rfl, h672, h673, h674, h675, h676, h677, h678, h679, h680, _⟩
                exact kont a9_10 c9_10 _ (Ow.Fm.refl.trans h672) h673
            · refine fun l_word_2 h681 Hn_199 h682 => ?_
              refine Ow.gnmS (σ' := [_, _, _, _, _, _, _, _, _, _, _, _]) rfl ?_
              try have wr := (by assumption : Ow.WrongF fm wi l_d _)
              try have wr1 := wr.1
              try have wr2 := wr.2.1
              refine ⟨_, rfl, ?_⟩
              refine ⟨_, rfl, ?_⟩
              refine ⟨_, rfl, ?_⟩
              refine ⟨_, rfl, ?_⟩
              refine Or.inr (?_)
              refine ⟨_, _, _, _, _, _, rfl, (h682 _ _ (h502 _ _ (h498 _ _ (h497 _ _ (h494 _ _ (h490 _ _ (h489 _ _ (Ow.at_new h_p_9 (h487 _ _ h34))))))))), (by first | (walk_at "o2")), (by first | (walk_at "o2")), (by first | (walk_at "o2")), (by first | (walk_at "o2")), (by first | (walk_at "o2")), (by first | (walk_at "o2")), fun x1_4 x2_4 x3_2 s1_2 a2_10 c2_10 h683 h684 h685 h686 h687 h688 p_13 l1_4 t0_4 d0_4 l2_2 Hn_200 h689 h690 h691 h692 h693 h694 h695 h696 h697 h698 h699 h700 h701 h702 h703 => ?_⟩
              refine ⟨_, rfl, ⟨_, (SqL.of h696)⟩, ?_⟩
              refine for_list (K := K) (a := p_13) (xs := [.non, .bl (true), .bl (false), .int (-1), .int (2 ^ wi.toNat), .int (2 ^ wi.toNat - 1), .int (0), .int (1), .int (l_d), .str ("1"), .ref l1_4, .ref t0_4, .ref d0_4, .int (x1_4), .int (x2_4), .int (l_word_2), .int (l_word_2 - 1), .int (l_word_2 + 1), .int (x3_2), .int (l_word_2 + l_d), .str (s1_2), .ref l2_2]) (fun ixv σ2 H2 => ∃ (a9 : Int) (c9 : Int) (v_8 : Option V) (v_10 : Option V) (v_11 : Option V), σ2 = [some (.ref box), some (.int (wi)), some (.int (l_d)), some (.ref p), some (.ref p_2), some (.ref o), some (.int (wi_2)), some (.int (dv)), v_8, some (.int (l_word_2)), v_10, v_11] ∧ Ow.Fm box H H2 ∧ H2 box = some (.lst [.int (a9), .int (c9)]) ∧ H2 p = some (.tup (Ow.tl_Form fm)) ∧ H2 p_2 = some (.tup [.int (Ow.nE fm), .int (Ow.nF fm wi), .int (Ow.nA fm), .int (Ow.nT fm wi)]) ∧ H2 o = some (.ins (Ow.cls_Form T ((Ow.kn_Form fm))) dx (Ow.fl_Form fm)) ∧ H2 p_13 = some (.lst [.non, .bl (true), .bl (false), .int (-1), .int (2 ^ wi.toNat), .int (2 ^ wi.toNat - 1), .int (0), .int (1), .int (l_d), .str ("1"), .ref l1_4, .ref t0_4, .ref d0_4, .int (x1_4), .int (x2_4), .int (l_word_2), .int (l_word_2 - 1), .int (l_word_2 + 1), .int (x3_2), .int (l_word_2 + l_d), .str (s1_2), .ref l2_2]) ∧ H2 l1_4 = some (.lst [.int (1)]) ∧ H2 t0_4 = some (.tup [.int (0)]) ∧ H2 d0_4 = some (.dK []) ∧ H2 l2_2 = some (.lst [.int (l_word_2)]) ∧ True) ⟨_, _, _, _, _, rfl, ((((((((((((((((Ow.Fm.refl.trans h10).mut).trans h18).same h22).same h25).trans h33).same h487).same (Ow.same_new h_p_9)).same h489).same h490).same h494).same h497).same h498).same h502).same h682).trans h689), h690, (Ow.at_fmT h689 (h682 _ _ (h502 _ _ (h498 _ _ (h497 _ _ (h494 _ _ (h490 _ _ (h489 _ _ (Ow.at_new h_p_9 (h487 _ _ h34))))))))) (h682 _ _ (h502 _ _ (h498 _ _ (h497 _ _ (h494 _ _ (h490 _ _ (h489 _ _ (Ow.at_new h_p_9 (h487 _ _ (Ow.at_fmT h33 (h25 _ _ (h22 _ _ h19)) (h25 _ _ (h22 _ _ h21))))))))))))), (Ow.at_fmT h689 (h682 _ _ (h502 _ _ (h498 _ _ (h497 _ _ (h494 _ _ (h490 _ _ (h489 _ _ (Ow.at_new h_p_9 (h487 _ _ h34))))))))) (h682 _ _ (h502 _ _ (h498 _ _ (h497 _ _ (h494 _ _ (h490 _ _ (h489 _ _ (Ow.at_new h_p_9 (h487 _ _ (Ow.at_fmT h33 (h25 _ _ (h22 _ _ h19)) (h25 _ _ h24)))))))))))), (h689 _ _ (Ow.ne_sym (ne_of_none (h22 _ _ h19) h26)) (h682 _ _ (h502 _ _ (h498 _ _ (h497 _ _ (h494 _ _ (h490 _ _ (h489 _ _ (Ow.at_new h_p_9 (h487 _ _ (h33 _ _ (Ow.ne_sym (ne_of_none (h22 _ _ h19) h26)) h27))))))))))), h696, h697, h698, h699, h700, trivial⟩ (fun i σ2 H2 _ hz => ?_) ?_ ?_
              · obtain ⟨a9_11, c9_11, _, _, _, rfl, h704, h705, h706, h707, h708, h709, h710, h711, h712, h713, _⟩ := hz
                exact (SqL.of h709)
              · rintro i_4 xit _ Hn_201 h714 ⟨a9_12, c9_12, _, _, _, rfl, h715, h716, h717, h718, h719, h720, h721, h722, h723, h724, _⟩
                have h714 := List.mem_of_getElem? h714
                simp only [List.mem_cons, List.not_mem_nil, or_false] at h714
                rcases h714 with rfl | rfl | rfl | rfl | rfl | rfl | rfl | rfl | rfl | rfl | rfl | rfl | rfl | rfl | rfl | rfl | rfl | rfl | rfl | rfl | rfl | rfl
                · refine ⟨_, rfl, ?_⟩
                  refine ⟨_, rfl, rfl, (by first | (walk_at "o2")), fun B_57 h_B_57 h0_B_57 => ?_⟩
                  refine ⟨_, _, rfl, rfl, ?_⟩
                  refine ⟨_, rfl, ?_⟩
                  refine ⟨_, rfl, ?_⟩
                  refine ⟨_, rfl, ?_⟩
                  refine Or.inl ?_
                  refine ⟨_, _, _, _, _, _, _, rfl, (by first | (walk_at "o2")), (by first | (walk_at "o2")), (by first | (walk_at "o2")), (by first | (walk_at "o2")), h718, (by first | (walk_at "o2")), (by first | (walk_at "o2")), (by first | (walk_at "o2")), (by first | (walk_at "o2")), (by first | (walk_at "o2")), (by first | (walk_at "o2")), (by first | (walk_at "o2")), (by first | (walk_at "o2")), (by first | (walk_at "o2")), fun l_due_33 h725 Hn_202 h726 => ?_⟩
                  refine Ow.gnmS (σ' := [_, _, _, _, _, _, _, _, _, _, _, _]) rfl ?_
                  refine ⟨_, rfl, ?_⟩
                  refine ⟨_, rfl, ?_⟩
                  refine ⟨_, rfl, ?_⟩
                  refine ⟨_, rfl, ?_⟩
                  refine Or.inl ?_
                  refine ⟨_, _, _, fm, _, rfl, (by first | (walk_at "o2")), (by first | (walk_at "o2")), (by first | (walk_at "o2")), (by first | (walk_at "o2")), (h726 _ _ h719), (by first | (walk_at "o2")), (by first | (walk_at "o2")), fun l_found_33 h727 Hn_203 h728 => ?_⟩
                  refine Ow.gnmS (σ' := [_, _, _, _, _, _, _, _, _, _, _, _]) rfl ?_
                  refine ⟨_, rfl, ?_⟩
                  refine ⟨_, _, _, _, true, rfl, .ty _, .base (.bl _), kit_ty (by decide +kernel), ?_⟩
                  refine ⟨_, rfl, ?_⟩
                  refine iteF ?_
                  refine ⟨_, rfl, ?_⟩
                  refine ⟨_, rfl, ?_⟩
                  refine ⟨rfl, ?_⟩
                  refine ⟨_, rfl, ?_⟩
                  refine Ow.ifneb (fun h729 => ?_) (fun h729 => ?_)
                  · try simp only [decide_eq_true_eq, V.int.injEq] at h729
                    exact ((by (subst_vars; first | exact h729 Iff.rfl | exact h729 trivial | exact h729 (Iff.trans (by assumption : _ = true ↔ Ow.Right _ _ _) (Iff.symm (by assumption : _ = true ↔ Ow.AllR _ _ _ _ _ _))) | exact Ow.no_T h729 (by assumption) (by assumption) | exact Ow.no_a h729 (by assumption) (by assumption) | exact Ow.no_b h729 (by assumption) (by assumption) | exact Ow.no_c h729 (by assumption) (by assumption) | exact h729 (Iff.trans (by assumption : _ = true ↔ Ow.WrongF _ _ _ _) (Iff.symm (by assumption : _ = true ↔ Ow.LwR _ _ _ _ _ _ _))))) : False).elim
                  · try simp only [decide_eq_true_eq, V.int.injEq] at h729
                    refine ⟨_, rfl, ?_⟩
                    refine ⟨_, _, rfl, rfl, ?_⟩
                    refine ⟨_, rfl, ?_⟩
                    refine Ow.ifd (fun h730 => ?_) (fun h730 => ?_)
                    · refine ⟨_, rfl, ?_⟩
                      refine ⟨rfl, ?_⟩
                      refine ⟨_, rfl, ?_⟩
                      refine iteT ?_
                      refine iteT ?_
                      refine ⟨_, rfl, ?_⟩
                      refine ⟨_, rfl, ?_⟩
                      refine ⟨_, rfl, ?_⟩
                      refine ⟨_, rfl, ?_⟩
                      refine ⟨_, rfl, ?_⟩
                      refine ⟨_, _, _, _, _, _, _, rfl, (by first | (walk_at "o2")), (by first | (walk_at "o2")), (by first | (walk_at "o2")), (by first | (walk_at "o2")), (h728 _ _ (h726 _ _ h718)), (by first | (walk_at "o2")), (by first | (walk_at "o2")), (by first | (walk_at "o2")), (by first | (walk_at "o2")), (by first | (walk_at "o2")), (by first | (walk_at "o2")), (by first | (walk_at "o2")), (by first | (walk_at "o2")), (by first | (walk_at "o2")), ?_, ?_⟩
                      · refine fun h731 Hn_204 h732 => ?_
                        refine ⟨rfl, ?_⟩
                        refine ⟨rfl, ?_⟩
                        refine ⟨_, rfl, ?_⟩
                        refine Ow.ifneb (fun h733 => ?_) (fun h733 => ?_)
                        · try simp only [decide_eq_true_eq, V.int.injEq] at h733
                          exact ((by (subst_vars; first | exact h733 Iff.rfl | exact h733 trivial | exact h733 (Iff.trans (by assumption : _ = true ↔ Ow.Right _ _ _) (Iff.symm (by assumption : _ = true ↔ Ow.AllR _ _ _ _ _ _))) | exact Ow.no_T h733 (by assumption) (by assumption) | exact Ow.no_a h733 (by assumption) (by assumption) | exact Ow.no_b h733 (by assumption) (by assumption) | exact Ow.no_c h733 (by assumption) (by assumption) | exact h733 (Iff.trans (by assumption : _ = true ↔ Ow.WrongF _ _ _ _) (Iff.symm (by assumption : _ = true ↔ Ow.LwR _ _ _ _ _ _ _))))) : False).elim
                        · try simp only [decide_eq_true_eq, V.int.injEq] at h733
                          exact ⟨_, _, _, _, _, rfl, ((((Ow.Fm.refl.trans h715).same h726).same h728).same h732), (h732 _ _ (h728 _ _ (h726 _ _ h716))), (h732 _ _ (h728 _ _ (h726 _ _ h717))), (h732 _ _ (h728 _ _ (h726 _ _ h718))), (h732 _ _ (h728 _ _ (h726 _ _ h719))), (h732 _ _ (h728 _ _ (h726 _ _ h720))), (h732 _ _ (h728 _ _ (h726 _ _ h721))), (h732 _ _ (h728 _ _ (h726 _ _ h722))), (h732 _ _ (h728 _ _ (h726 _ _ h723))), (h732 _ _ (h728 _ _ (h726 _ _ h724))), trivial⟩
                      · refine fun t_45 h734 Hn_205 h735 => ?_
                        refine ⟨rfl, ?_⟩
                        refine ⟨rfl, ?_⟩
                        refine ⟨_, rfl, ?_⟩
                        refine Ow.ifneb (fun h736 => ?_) (fun h736 => ?_)
                        · try simp only [decide_eq_true_eq, V.int.injEq] at h736
                          exact ((by (subst_vars; first | exact h736 Iff.rfl | exact h736 trivial | exact h736 (Iff.trans (by assumption : _ = true ↔ Ow.Right _ _ _) (Iff.symm (by assumption : _ = true ↔ Ow.AllR _ _ _ _ _ _))) | exact Ow.no_T h736 (by assumption) (by assumption) | exact Ow.no_a h736 (by assumption) (by assumption) | exact Ow.no_b h736 (by assumption) (by assumption) | exact Ow.no_c h736 (by assumption) (by assumption) | exact h736 (Iff.trans (by assumption : _ = true ↔ Ow.WrongF _ _ _ _) (Iff.symm (by assumption : _ = true ↔ Ow.LwR _ _ _ _ _ _ _))))) : False).elim
                        · try simp only [decide_eq_true_eq, V.int.injEq] at h736
                          exact ⟨_, _, _, _, _, rfl, ((((Ow.Fm.refl.trans h715).same h726).same h728).same h735), (h735 _ _ (h728 _ _ (h726 _ _ h716))), (h735 _ _ (h728 _ _ (h726 _ _ h717))), (h735 _ _ (h728 _ _ (h726 _ _ h718))), (h735 _ _ (h728 _ _ (h726 _ _ h719))), (h735 _ _ (h728 _ _ (h726 _ _ h720))), (h735 _ _ (h728 _ _ (h726 _ _ h721))), (h735 _ _ (h728 _ _ (h726 _ _ h722))), (h735 _ _ (h728 _ _ (h726 _ _ h723))), (h735 _ _ (h728 _ _ (h726 _ _ h724))), trivial⟩
                    · refine iteF ?_
                      exact ⟨_, _, _, _, _, rfl, (((Ow.Fm.refl.trans h715).same h726).same h728), (h728 _ _ (h726 _ _ h716)), (h728 _ _ (h726 _ _ h717)), (h728 _ _ (h726 _ _ h718)), (h728 _ _ (h726 _ _ h719)), (h728 _ _ (h726 _ _ h720)), (h728 _ _ (h726 _ _ h721)), (h728 _ _ (h726 _ _ h722)), (h728 _ _ (h726 _ _ h723)), (h728 _ _ (h726 _ _ h724)), trivial⟩
                · refine ⟨_, rfl, ?_⟩
                  refine ⟨_, rfl, rfl, (by first | (walk_at "o2")), fun B_58 h_B_58 h0_B_58 => ?_⟩
                  refine ⟨_, _, rfl, rfl, ?_⟩
                  refine ⟨_, rfl, ?_⟩
                  refine ⟨_, rfl, ?_⟩
                  refine ⟨_, rfl, ?_⟩
                  refine Or.inr (Or.inr (Or.inl ?_))
                  refine ⟨_, _, _, _, _, _, _, _, rfl, (by first | (walk_at "o2")), (by first | (walk_at "o2")), (by first | (walk_at "o2")), (by first | (walk_at "o2")), h718, (by first | (walk_at "o2")), (by first | (walk_at "o2")), (by first | (walk_at "o2")), (by first | (walk_at "o2")), (by first | (walk_at "o2")), (by first | (walk_at "o2")), (by first | (walk_at "o2")), (by first | (walk_at "o2")), (by first | (walk_at "o2")), fun Hn_206 h737 => ?_⟩
                  refine Ow.gnmS (σ' := [_, _, _, _, _, _, _, _, _, _, _, _]) rfl ?_
                  refine ⟨_, rfl, ?_⟩
                  refine ⟨_, rfl, ?_⟩
                  refine ⟨_, rfl, ?_⟩
                  refine ⟨_, rfl, ?_⟩
                  refine Or.inr (Or.inr (Or.inl ?_))
                  refine ⟨_, _, _, _, fm, _, rfl, (by first | (walk_at "o2")), (by first | (walk_at "o2")), (by first | (walk_at "o2")), (by first | (walk_at "o2")), (h737 _ _ h719), (by first | (walk_at "o2")), (by first | (walk_at "o2")), fun Hn_207 h738 => ?_⟩
                  refine Ow.gnmS (σ' := [_, _, _, _, _, _, _, _, _, _, _, _]) rfl ?_
                  refine ⟨_, rfl, ?_⟩
                  refine ⟨_, _, _, _, true, rfl, .ty _, .base (.bl _), kit_ty (by decide +kernel), ?_⟩
                  refine ⟨_, rfl, ?_⟩
                  refine iteF ?_
                  refine ⟨_, rfl, ?_⟩
                  refine ⟨_, rfl, ?_⟩
                  refine ⟨rfl, ?_⟩
                  refine ⟨_, rfl, ?_⟩
                  refine Ow.ifneb (fun h739 => ?_) (fun h739 => ?_)
                  · try simp only [decide_eq_true_eq, V.int.injEq] at h739
                    exact ((by (subst_vars; first | exact h739 Iff.rfl | exact h739 trivial | exact h739 (Iff.trans (by assumption : _ = true ↔ Ow.Right _ _ _) (Iff.symm (by assumption : _ = true ↔ Ow.AllR _ _ _ _ _ _))) | exact Ow.no_T h739 (by assumption) (by assumption) | exact Ow.no_a h739 (by assumption) (by assumption) | exact Ow.no_b h739 (by assumption) (by assumption) | exact Ow.no_c h739 (by assumption) (by assumption) | exact h739 (Iff.trans (by assumption : _ = true ↔ Ow.WrongF _ _ _ _) (Iff.symm (by assumption : _ = true ↔ Ow.LwR _ _ _ _ _ _ _))))) : False).elim
                  · try simp only [decide_eq_true_eq, V.int.injEq] at h739
                    refine ⟨_, rfl, ?_⟩
                    refine ⟨_, _, rfl, rfl, ?_⟩
                    refine ⟨_, rfl, ?_⟩
                    refine Ow.ifd (fun h740 => ?_) (fun h740 => ?_)
                    · refine ⟨_, rfl, ?_⟩
                      refine ⟨rfl, ?_⟩
                      refine ⟨_, rfl, ?_⟩
                      refine iteF ?_
                      refine ⟨_, rfl, ?_⟩
                      refine Or.inr (Or.inr (Or.inl ?_))
                      refine ⟨_, rfl, ?_⟩
                      refine ⟨_, rfl, ?_⟩
                      refine iteF ?_
                      refine iteF ?_
                      exact ⟨_, _, _, _, _, rfl, (((Ow.Fm.refl.trans h715).same h737).same h738), (h738 _ _ (h737 _ _ h716)), (h738 _ _ (h737 _ _ h717)), (h738 _ _ (h737 _ _ h718)), (h738 _ _ (h737 _ _ h719)), (h738 _ _ (h737 _ _ h720)), (h738 _ _ (h737 _ _ h721)), (h738 _ _ (h737 _ _ h722)), (h738 _ _ (h737 _ _ h723)), (h738 _ _ (h737 _ _ h724)), trivial⟩
                    · refine iteF ?_
                      exact ⟨_, _, _, _, _, rfl, (((Ow.Fm.refl.trans h715).same h737).same h738), (h738 _ _ (h737 _ _ h716)), (h738 _ _ (h737 _ _ h717)), (h738 _ _ (h737 _ _ h718)), (h738 _ _ (h737 _ _ h719)), (h738 _ _ (h737 _ _ h720)), (h738 _ _ (h737 _ _ h721)), (h738 _ _ (h737 _ _ h722)), (h738 _ _ (h737 _ _ h723)), (h738 _ _ (h737 _ _ h724)), trivial⟩
                · refine ⟨_, rfl, ?_⟩
                  refine ⟨_, rfl, rfl, (by first | (walk_at "o2")), fun B_59 h_B_59 h0_B_59 => ?_⟩
                  refine ⟨_, _, rfl, rfl, ?_⟩
                  refine ⟨_, rfl, ?_⟩
                  refine ⟨_, rfl, ?_⟩
                  refine ⟨_, rfl, ?_⟩
                  refine Or.inr (Or.inr (Or.inl ?_))
                  refine ⟨_, _, _, _, _, _, _, _, rfl, (by first | (walk_at "o2")), (by first | (walk_at "o2")), (by first | (walk_at "o2")), (by first | (walk_at "o2")), h718, (by first | (walk_at "o2")), (by first | (walk_at "o2")), (by first | (walk_at "o2")), (by first | (walk_at "o2")), (by first | (walk_at "o2")), (by first | (walk_at "o2")), (by first | (walk_at "o2")), (by first | (walk_at "o2")), (by first | (walk_at "o2")), fun Hn_208 h741 => ?_⟩
                  refine Ow.gnmS (σ' := [_, _, _, _, _, _, _, _, _, _, _, _]) rfl ?_
                  refine ⟨_, rfl, ?_⟩
                  refine ⟨_, rfl, ?_⟩
                  refine ⟨_, rfl, ?_⟩
                  refine ⟨_, rfl, ?_⟩
                  refine Or.inr (Or.inr (Or.inl ?_))
                  refine ⟨_, _, _, _, fm, _, rfl, (by first | (walk_at "o2")), (by first | (walk_at "o2")), (by first | (walk_at "o2")), (by first | (walk_at "o2")), (h741 _ _ h719), (by first | (walk_at "o2")), (by first | (walk_at "o2")), fun Hn_209 h742 => ?_⟩
                  refine Ow.gnmS (σ' := [_, _, _, _, _, _, _, _, _, _, _, _]) rfl ?_
                  refine ⟨_, rfl, ?_⟩
                  refine ⟨_, _, _, _, true, rfl, .ty _, .base (.bl _), kit_ty (by decide +kernel), ?_⟩
                  refine ⟨_, rfl, ?_⟩
                  refine iteF ?_
                  refine ⟨_, rfl, ?_⟩
                  refine ⟨_, rfl, ?_⟩
                  refine ⟨rfl, ?_⟩
                  refine ⟨_, rfl, ?_⟩
                  refine Ow.ifneb (fun h743 => ?_) (fun h743 => ?_)
                  · try simp only [decide_eq_true_eq, V.int.injEq] at h743
                    exact ((by (subst_vars; first | exact h743 Iff.rfl | exact h743 trivial | exact h743 (Iff.trans (by assumption : _ = true ↔ Ow.Right _ _ _) (Iff.symm (by assumption : _ = true ↔ Ow.AllR _ _ _ _ _ _))) | exact Ow.no_T h743 (by assumption) (by assumption) | exact Ow.no_a h743 (by assumption) (by assumption) | exact Ow.no_b h743 (by assumption) (by assumption) | exact Ow.no_c h743 (by assumption) (by assumption) | exact h743 (Iff.trans (by assumption : _ = true ↔ Ow.WrongF _ _ _ _) (Iff.symm (by assumption : _ = true ↔ Ow.LwR _ _ _ _ _ _ _))))) : False).elim
                  · try simp only [decide_eq_true_eq, V.int.injEq] at h743
                    refine ⟨_, rfl, ?_⟩
                    refine ⟨_, _, rfl, rfl, ?_⟩
                    refine ⟨_, rfl, ?_⟩
                    refine Ow.ifd (fun h744 => ?_) (fun h744 => ?_)
                    · refine ⟨_, rfl, ?_⟩
                      refine ⟨rfl, ?_⟩
                      refine ⟨_, rfl, ?_⟩
                      refine iteF ?_
                      refine ⟨_, rfl, ?_⟩
                      refine Or.inr (Or.inr (Or.inl ?_))
                      refine ⟨_, rfl, ?_⟩
                      refine ⟨_, rfl, ?_⟩
                      refine iteF ?_
                      refine iteF ?_
                      exact ⟨_, _, _, _, _, rfl, (((Ow.Fm.refl.trans h715).same h741).same h742), (h742 _ _ (h741 _ _ h716)), (h742 _ _ (h741 _ _ h717)), (h742 _ _ (h741 _ _ h718)), (h742 _ _ (h741 _ _ h719)), (h742 _ _ (h741 _ _ h720)), (h742 _ _ (h741 _ _ h721)), (h742 _ _ (h741 _ _ h722)), (h742 _ _ (h741 _ _ h723)), (h742 _ _ (h741 _ _ h724)), trivial⟩
                    · refine iteF ?_
                      exact ⟨_, _, _, _, _, rfl, (((Ow.Fm.refl.trans h715).same h741).same h742), (h742 _ _ (h741 _ _ h716)), (h742 _ _ (h741 _ _ h717)), (h742 _ _ (h741 _ _ h718)), (h742 _ _ (h741 _ _ h719)), (h742 _ _ (h741 _ _ h720)), (h742 _ _ (h741 _ _ h721)), (h742 _ _ (h741 _ _ h722)), (h742 _ _ (h741 _ _ h723)), (h742 _ _ (h741 _ _ h724)), trivial⟩
                · refine ⟨_, rfl, ?_⟩
                  refine ⟨_, rfl, rfl, (by first | (walk_at "o2")), fun B_60 h_B_60 h0_B_60 => ?_⟩
                  refine ⟨_, _, rfl, rfl, ?_⟩
                  refine ⟨_, rfl, ?_⟩
                  refine ⟨_, rfl, ?_⟩
                  refine ⟨_, rfl, ?_⟩
                  refine Or.inr (Or.inl ?_)
                  refine ⟨_, _, _, _, _, _, _, _, rfl, (by first | (walk_at "o2")), (by first | (walk_at "o2")), (by first | (walk_at "o2")), (by first | (walk_at "o2")), h718, (by first | (walk_at "o2")), (by first | (walk_at "o2")), (by first | (walk_at "o2")), (by first | (walk_at "o2")), (by first | (walk_at "o2")), (by first | (walk_at "o2")), (by first | (walk_at "o2")), (by first | (walk_at "o2")), (by first | (walk_at "o2")), fun l_due_34 h745 Hn_210 h746 => ?_⟩
                  refine Ow.gnmS (σ' := [_, _, _, _, _, _, _, _, _, _, _, _]) rfl ?_
                  refine ⟨_, rfl, ?_⟩
                  refine ⟨_, rfl, ?_⟩
                  refine ⟨_, rfl, ?_⟩
                  refine ⟨_, rfl, ?_⟩
                  refine Or.inr (Or.inl ?_)
                  refine ⟨_, _, _, _, fm, _, rfl, (by first | (walk_at "o2")), (by first | (walk_at "o2")), (by first | (walk_at "o2")), (by first | (walk_at "o2")), (h746 _ _ h719), (by first | (walk_at "o2")), (by first | (walk_at "o2")), fun l_found_34 h747 Hn_211 h748 => ?_⟩
                  refine Ow.gnmS (σ' := [_, _, _, _, _, _, _, _, _, _, _, _]) rfl ?_
                  refine ⟨_, rfl, ?_⟩
                  refine ⟨_, _, _, _, true, rfl, .ty _, .base (.bl _), kit_ty (by decide +kernel), ?_⟩
                  refine ⟨_, rfl, ?_⟩
                  refine iteF ?_
                  refine ⟨_, rfl, ?_⟩
                  refine ⟨_, rfl, ?_⟩
                  refine ⟨rfl, ?_⟩
                  refine ⟨_, rfl, ?_⟩
                  refine Ow.ifneb (fun h749 => ?_) (fun h749 => ?_)
                  · try simp only [decide_eq_true_eq, V.int.injEq] at h749
                    exact ((by (subst_vars; first | exact h749 Iff.rfl | exact h749 trivial | exact h749 (Iff.trans (by assumption : _ = true ↔ Ow.Right _ _ _) (Iff.symm (by assumption : _ = true ↔ Ow.AllR _ _ _ _ _ _))) | exact Ow.no_T h749 (by assumption) (by assumption) | exact Ow.no_a h749 (by assumption) (by assumption) | exact Ow.no_b h749 (by assumption) (by assumption) | exact Ow.no_c h749 (by assumption) (by assumption) | exact h749 (Iff.trans (by assumption : _ = true ↔ Ow.WrongF _ _ _ _) (Iff.symm (by assumption : _ = true ↔ Ow.LwR _ _ _ _ _ _ _))))) : False).elim
                  · try simp only [decide_eq_true_eq, V.int.injEq] at h749
                    refine ⟨_, rfl, ?_⟩
                    refine ⟨_, _, rfl, rfl, ?_⟩
                    refine ⟨_, rfl, ?_⟩
                    refine Ow.ifd (fun h750 => ?_) (fun h750 => ?_)
                    · refine ⟨_, rfl, ?_⟩
                      refine ⟨rfl, ?_⟩
                      refine ⟨_, rfl, ?_⟩
                      refine iteF ?_
                      refine ⟨_, rfl, ?_⟩
                      refine Or.inl ?_
                      refine ⟨_, rfl, ?_⟩
                      refine ⟨_, rfl, ?_⟩
                      refine iteT ?_
                      refine ⟨_, rfl, ?_⟩
                      refine ⟨_, rfl, ?_⟩
                      refine ⟨_, rfl, ?_⟩
                      refine ⟨_, rfl, ?_⟩
                      refine ⟨_, rfl, ?_⟩
                      refine ⟨_, _, _, _, _, _, _, rfl, (by first | (walk_at "o2")), (by first | (walk_at "o2")), (by first | (walk_at "o2")), (by first | (walk_at "o2")), (h748 _ _ (h746 _ _ h718)), (by first | (walk_at "o2")), (by first | (walk_at "o2")), (by first | (walk_at "o2")), (by first | (walk_at "o2")), (by first | (walk_at "o2")), (by first | (walk_at "o2")), (by first | (walk_at "o2")), (by first | (walk_at "o2")), (by first | (walk_at "o2")), ?_, ?_⟩
                      · refine fun h751 Hn_212 h752 => ?_
                        refine ⟨rfl, ?_⟩
                        refine ⟨rfl, ?_⟩
                        refine ⟨_, rfl, ?_⟩
                        refine Ow.ifneb (fun h753 => ?_) (fun h753 => ?_)
                        · try simp only [decide_eq_true_eq, V.int.injEq] at h753
                          exact ((by (subst_vars; first | exact h753 Iff.rfl | exact h753 trivial | exact h753 (Iff.trans (by assumption : _ = true ↔ Ow.Right _ _ _) (Iff.symm (by assumption : _ = true ↔ Ow.AllR _ _ _ _ _ _))) | exact Ow.no_T h753 (by assumption) (by assumption) | exact Ow.no_a h753 (by assumption) (by assumption) | exact Ow.no_b h753 (by assumption) (by assumption) | exact Ow.no_c h753 (by assumption) (by assumption) | exact h753 (Iff.trans (by assumption : _ = true ↔ Ow.WrongF _ _ _ _) (Iff.symm (by assumption : _ = true ↔ Ow.LwR _ _ _ _ _ _ _))))) : False).elim
                        · try simp only [decide_eq_true_eq, V.int.injEq] at h753
                          exact ⟨_, _, _, _, _, rfl, ((((Ow.Fm.refl.trans h715).same h746).same h748).same h752), (h752 _ _ (h748 _ _ (h746 _ _ h716))), (h752 _ _ (h748 _ _ (h746 _ _ h717))), (h752 _ _ (h748 _ _ (h746 _ _ h718))), (h752 _ _ (h748 _ _ (h746 _ _ h719))), (h752 _ _ (h748 _ _ (h746 _ _ h720))), (h752 _ _ (h748 _ _ (h746 _ _ h721))), (h752 _ _ (h748 _ _ (h746 _ _ h722))), (h752 _ _ (h748 _ _ (h746 _ _ h723))), (h752 _ _ (h748 _ _ (h746 _ _ h724))), trivial⟩
                      · refine fun t_46 h754 Hn_213 h755 => ?_
                        refine ⟨rfl, ?_⟩
                        refine ⟨rfl, ?_⟩
                        refine ⟨_, rfl, ?_⟩
                        refine Ow.ifneb (fun h756 => ?_) (fun h756 => ?_)
                        · try simp only [decide_eq_true_eq, V.int.injEq] at h756
                          exact ((by (subst_vars; first | exact h756 Iff.rfl | exact h756 trivial | exact h756 (Iff.trans (by assumption : _ = true ↔ Ow.Right _ _ _) (Iff.symm (by assumption : _ = true ↔ Ow.AllR _ _ _ _ _ _))) | exact Ow.no_T h756 (by assumption) (by assumption) | exact Ow.no_a h756 (by assumption) (by assumption) | exact Ow.no_b h756 (by assumption) (by assumption) | exact Ow.no_c h756 (by assumption) (by assumption) | exact h756 (Iff.trans (by assumption : _ = true ↔ Ow.WrongF _ _ _ _) (Iff.symm (by assumption : _ = true ↔ Ow.LwR _ _ _ _ _ _ _))))) : False).elim
                        · try simp only [decide_eq_true_eq, V.int.injEq] at h756
                          exact ⟨_, _, _, _, _, rfl, ((((Ow.Fm.refl.trans h715).same h746).same h748).same h755), (h755 _ _ (h748 _ _ (h746 _ _ h716))), (h755 _ _ (h748 _ _ (h746 _ _ h717))), (h755 _ _ (h748 _ _ (h746 _ _ h718))), (h755 _ _ (h748 _ _ (h746 _ _ h719))), (h755 _ _ (h748 _ _ (h746 _ _ h720))), (h755 _ _ (h748 _ _ (h746 _ _ h721))), (h755 _ _ (h748 _ _ (h746 _ _ h722))), (h755 _ _ (h748 _ _ (h746 _ _ h723))), (h755 _ _ (h748 _ _ (h746 _ _ h724))), trivial⟩
                    · refine iteF ?_
                      exact ⟨_, _, _, _, _, rfl, (((Ow.Fm.refl.trans h715).same h746).same h748), (h748 _ _ (h746 _ _ h716)), (h748 _ _ (h746 _ _ h717)), (h748 _ _ (h746 _ _ h718)), (h748 _ _ (h746 _ _ h719)), (h748 _ _ (h746 _ _ h720)), (h748 _ _ (h746 _ _ h721)), (h748 _ _ (h746 _ _ h722)), (h748 _ _ (h746 _ _ h723)), (h748 _ _ (h746 _ _ h724)), trivial⟩
                · refine ⟨_, rfl, ?_⟩
                  refine ⟨_, rfl, rfl, (by first | (walk_at "o2")), fun B_61 h_B_61 h0_B_61 => ?_⟩
                  refine ⟨_, _, rfl, rfl, ?_⟩
                  refine ⟨_, rfl, ?_⟩
                  refine ⟨_, rfl, ?_⟩
                  refine ⟨_, rfl, ?_⟩
                  refine Or.inr (Or.inl ?_)
                  refine ⟨_, _, _, _, _, _, _, _, rfl, (by first | (walk_at "o2")), (by first | (walk_at "o2")), (by first | (walk_at "o2")), (by first | (walk_at "o2")), h718, (by first | (walk_at "o2")), (by first | (walk_at "o2")), (by first | (walk_at "o2")), (by first | (walk_at "o2")), (by first | (walk_at "o2")), (by first | (walk_at "o2")), (by first | (walk_at "o2")), (by first | (walk_at "o2")), (by first | (walk_at "o2")), fun l_due_35 h757 Hn_214 h758 => ?_⟩
                  refine Ow.gnmS (σ' := [_, _, _, _, _, _, _, _, _, _, _, _]) rfl ?_
                  refine ⟨_, rfl, ?_⟩
                  refine ⟨_, rfl, ?_⟩
                  refine ⟨_, rfl, ?_⟩
                  refine ⟨_, rfl, ?_⟩
                  refine Or.inr (Or.inl ?_)
                  refine ⟨_, _, _, _, fm, _, rfl, (by first | (walk_at "o2")), (by first | (walk_at "o2")), (by first | (walk_at "o2")), (by first | (walk_at "o2")), (h758 _ _ h719), (by first | (walk_at "o2")), (by first | (walk_at "o2")), fun l_found_35 h759 Hn_215 h760 => ?_⟩
                  refine Ow.gnmS (σ' := [_, _, _, _, _, _, _, _, _, _, _, _]) rfl ?_
                  refine ⟨_, rfl, ?_⟩
                  refine ⟨_, _, _, _, true, rfl, .ty _, .base (.bl _), kit_ty (by decide +kernel), ?_⟩
                  refine ⟨_, rfl, ?_⟩
                  refine iteF ?_
                  refine ⟨_, rfl, ?_⟩
                  refine ⟨_, rfl, ?_⟩
                  refine ⟨rfl, ?_⟩
                  refine ⟨_, rfl, ?_⟩
                  refine Ow.ifneb (fun h761 => ?_) (fun h761 => ?_)
                  · try simp only [decide_eq_true_eq, V.int.injEq] at h761
                    exact ((by (subst_vars; first | exact h761 Iff.rfl | exact h761 trivial | exact h761 (Iff.trans (by assumption : _ = true ↔ Ow.Right _ _ _) (Iff.symm (by assumption : _ = true ↔ Ow.AllR _ _ _ _ _ _))) | exact Ow.no_T h761 (by assumption) (by assumption) | exact Ow.no_a h761 (by assumption) (by assumption) | exact Ow.no_b h761 (by assumption) (by assumption) | exact Ow.no_c h761 (by assumption) (by assumption) | exact h761 (Iff.trans (by assumption : _ = true ↔ Ow.WrongF _ _ _ _) (Iff.symm (by assumption : _ = true ↔ Ow.LwR _ _ _ _ _ _ _))))) : False).elim
                  · try simp only [decide_eq_true_eq, V.int.injEq] at h761
                    refine ⟨_, rfl, ?_⟩
                    refine ⟨_, _, rfl, rfl, ?_⟩
                    refine ⟨_, rfl, ?_⟩
                    refine Ow.ifd (fun h762 => ?_) (fun h762 => ?_)
                    · refine ⟨_, rfl, ?_⟩
                      refine ⟨rfl, ?_⟩
                      refine ⟨_, rfl, ?_⟩
                      refine iteF ?_
                      refine ⟨_, rfl, ?_⟩
                      refine Or.inl ?_
                      refine ⟨_, rfl, ?_⟩
                      refine ⟨_, rfl, ?_⟩
                      refine iteT ?_
                      refine ⟨_, rfl, ?_⟩
                      refine ⟨_, rfl, ?_⟩
                      refine ⟨_, rfl, ?_⟩
                      refine ⟨_, rfl, ?_⟩
                      refine ⟨_, rfl, ?_⟩
                      refine ⟨_, _, _, _, _, _, _, rfl, (by first | (walk_at "o2")), (by first | (walk_at "o2")), (by first | (walk_at "o2")), (by first | (walk_at "o2")), (h760 _ _ (h758 _ _ h718)), (by first | (walk_at "o2")), (by first | (walk_at "o2")), (by first | (walk_at "o2")), (by first | (walk_at "o2")), (by first | (walk_at "o2")), (by first | (walk_at "o2")), (by first | (walk_at "o2")), (by first | (walk_at "o2")), (by first | (walk_at "o2")), ?_, ?_⟩
                      · refine fun h763 Hn_216 h764 => ?_
                        refine ⟨rfl, ?_⟩
                        refine ⟨rfl, ?_⟩
                        refine ⟨_, rfl, ?_⟩
                        refine Ow.ifneb (fun h765 => ?_) (fun h765 => ?_)
                        · try simp only [decide_eq_true_eq, V.int.injEq] at h765
                          exact ((by (subst_vars; first | exact h765 Iff.rfl | exact h765 trivial | exact h765 (Iff.trans (by assumption : _ = true ↔ Ow.Right _ _ _) (Iff.symm (by assumption : _ = true ↔ Ow.AllR _ _ _ _ _ _))) | exact Ow.no_T h765 (by assumption) (by assumption) | exact Ow.no_a h765 (by assumption) (by assumption) | exact Ow.no_b h765 (by assumption) (by assumption) | exact Ow.no_c h765 (by assumption) (by assumption) | exact h765 (Iff.trans (by assumption : _ = true ↔ Ow.WrongF _ _ _ _) (Iff.symm (by assumption : _ = true ↔ Ow.LwR _ _ _ _ _ _ _))))) : False).elim
                        · try simp only [decide_eq_true_eq, V.int.injEq] at h765
                          exact ⟨_, _, _, _, _, rfl, ((((Ow.Fm.refl.trans h715).same h758).same h760).same h764), (h764 _ _ (h760 _ _ (h758 _ _ h716))), (h764 _ _ (h760 _ _ (h758 _ _ h717))), (h764 _ _ (h760 _ _ (h758 _ _ h718))), (h764 _ _ (h760 _ _ (h758 _ _ h719))), (h764 _ _ (h760 _ _ (h758 _ _ h720))), (h764 _ _ (h760 _ _ (h758 _ _ h721))), (h764 _ _ (h760 _ _ (h758 _ _ h722))), (h764 _ _ (h760 _ _ (h758 _ _ h723))), (h764 _ _ (h760 _ _ (h758 _ _ h724))), trivial⟩
                      · refine fun t_47 h766 Hn_217 h767 => ?_
                        refine ⟨rfl, ?_⟩
                        refine ⟨rfl, ?_⟩
                        refine ⟨_, rfl, ?_⟩
                        refine Ow.ifneb (fun h768 => ?_) (fun h768 => ?_)
                        · try simp only [decide_eq_true_eq, V.int.injEq] at h768
                          exact ((by (subst_vars; first | exact h768 Iff.rfl | exact h768 trivial | exact h768 (Iff.trans (by assumption : _ = true ↔ Ow.Right _ _ _) (Iff.symm (by assumption : _ = true ↔ Ow.AllR _ _ _ _ _ _))) | exact Ow.no_T h768 (by assumption) (by assumption) | exact Ow.no_a h768 (by assumption) (by assumption) | exact Ow.no_b h768 (by assumption) (by assumption) | exact Ow.no_c h768 (by assumption) (by assumption) | exact h768 (Iff.trans (by assumption : _ = true ↔ Ow.WrongF _ _ _ _) (Iff.symm (by assumption : _ = true ↔ Ow.LwR _ _ _ _ _ _ _))))) : False).elim
                        · try simp only [decide_eq_true_eq, V.int.injEq] at h768
                          exact ⟨_, _, _, _, _, rfl, ((((Ow.Fm.refl.trans h715).same h758).same h760).same h767), (h767 _ _ (h760 _ _ (h758 _ _ h716))), (h767 _ _ (h760 _ _ (h758 _ _ h717))), (h767 _ _ (h760 _ _ (h758 _ _ h718))), (h767 _ _ (h760 _ _ (h758 _ _ h719))), (h767 _ _ (h760 _ _ (h758 _ _ h720))), (h767 _ _ (h760 _ _ (h758 _ _ h721))), (h767 _ _ (h760 _ _ (h758 _ _ h722))), (h767 _ _ (h760 _ _ (h758 _ _ h723))), (h767 _ _ (h760 _ _ (h758 _ _ h724))), trivial⟩
                    · refine iteF ?_
                      exact ⟨_, _, _, _, _, rfl, (((Ow.Fm.refl.trans h715).same h758).same h760), (h760 _ _ (h758 _ _ h716)), (h760 _ _ (h758 _ _ h717)), (h760 _ _ (h758 _ _ h718)), (h760 _ _ (h758 _ _ h719)), (h760 _ _ (h758 _ _ h720)), (h760 _ _ (h758 _ _ h721)), (h760 _ _ (h758 _ _ h722)), (h760 _ _ (h758 _ _ h723)), (h760 _ _ (h758 _ _ h724)), trivial⟩
                · refine ⟨_, rfl, ?_⟩
                  refine ⟨_, rfl, rfl, (by first | (walk_at "o2")), fun B_62 h_B_62 h0_B_62 => ?_⟩
                  refine ⟨_, _, rfl, rfl, ?_⟩
                  refine ⟨_, rfl, ?_⟩
                  refine ⟨_, rfl, ?_⟩
                  refine ⟨_, rfl, ?_⟩
                  refine Or.inr (Or.inl ?_)
                  refine ⟨_, _, _, _, _, _, _, _, rfl, (by first | (walk_at "o2")), (by first | (walk_at "o2")), (by first | (walk_at "o2")), (by first | (walk_at "o2")), h718, (by first | (walk_at "o2")), (by first | (walk_at "o2")), (by first | (walk_at "o2")), (by first | (walk_at "o2")), (by first | (walk_at "o2")), (by first | (walk_at "o2")), (by first | (walk_at "o2")), (by first | (walk_at "o2")), (by first | (walk_at "o2")), fun l_due_36 h769 Hn_218 h770 => ?_⟩
                  refine Ow.gnmS (σ' := [_, _, _, _, _, _, _, _, _, _, _, _]) rfl ?_
                  refine ⟨_, rfl, ?_⟩
                  refine ⟨_, rfl, ?_⟩
                  refine ⟨_, rfl, ?_⟩
                  refine ⟨_, rfl, ?_⟩
                  refine Or.inr (Or.inl ?_)
                  refine ⟨_, _, _, _, fm, _, rfl, (by first | (walk_at "o2")), (by first | (walk_at "o2")), (by first | (walk_at "o2")), (by first | (walk_at "o2")), (h770 _ _ h719), (by first | (walk_at "o2")), (by first | (walk_at "o2")), fun l_found_36 h771 Hn_219 h772 => ?_⟩
                  refine Ow.gnmS (σ' := [_, _, _, _, _, _, _, _, _, _, _, _]) rfl ?_
                  refine ⟨_, rfl, ?_⟩
                  refine ⟨_, _, _, _, true, rfl, .ty _, .base (.bl _), kit_ty (by decide +kernel), ?_⟩
                  refine ⟨_, rfl, ?_⟩
                  refine iteF ?_
                  refine ⟨_, rfl, ?_⟩
                  refine ⟨_, rfl, ?_⟩
                  refine ⟨rfl, ?_⟩
                  refine ⟨_, rfl, ?_⟩
                  refine Ow.ifneb (fun h773 => ?_) (fun h773 => ?_)
                  · try simp only [decide_eq_true_eq, V.int.injEq] at h773
                    exact ((by (subst_vars; first | exact h773 Iff.rfl | exact h773 trivial | exact h773 (Iff.trans (by assumption : _ = true ↔ Ow.Right _ _ _) (Iff.symm (by assumption : _ = true ↔ Ow.AllR _ _ _ _ _ _))) | exact Ow.no_T h773 (by assumption) (by assumption) | exact Ow.no_a h773 (by assumption) (by assumption) | exact Ow.no_b h773 (by assumption) (by assumption) | exact Ow.no_c h773 (by assumption) (by assumption) | exact h773 (Iff.trans (by assumption : _ = true ↔ Ow.WrongF _ _ _ _) (Iff.symm (by assumption : _ = true ↔ Ow.LwR _ _ _ _ _ _ _))))) : False).elim
                  · try simp only [decide_eq_true_eq, V.int.injEq] at h773
                    refine ⟨_, rfl, ?_⟩
                    refine ⟨_, _, rfl, rfl, ?_⟩
                    refine ⟨_, rfl, ?_⟩
                    refine Ow.ifd (fun h774 => ?_) (fun h774 => ?_)
                    · refine ⟨_, rfl, ?_⟩
                      refine ⟨rfl, ?_⟩
                      refine ⟨_, rfl, ?_⟩
                      refine iteF ?_
                      refine ⟨_, rfl, ?_⟩
                      refine Or.inl ?_
                      refine ⟨_, rfl, ?_⟩
                      refine ⟨_, rfl, ?_⟩
                      refine iteT ?_
                      refine ⟨_, rfl, ?_⟩
                      refine ⟨_, rfl, ?_⟩
                      refine ⟨_, rfl, ?_⟩
                      refine ⟨_, rfl, ?_⟩
                      refine ⟨_, rfl, ?_⟩
                      refine ⟨_, _, _, _, _, _, _, rfl, (by first | (walk_at "o2")), (by first | (walk_at "o2")), (by first | (walk_at "o2")), (by first | (walk_at "o2")), (h772 _ _ (h770 _ _ h718)), (by first | (walk_at "o2")), (by first | (walk_at "o2")), (by first | (walk_at "o2")), (by first | (walk_at "o2")), (by first | (walk_at "o2")), (by first | (walk_at "o2")), (by first | (walk_at "o2")), (by first | (walk_at "o2")), (by first | (walk_at "o2")), ?_, ?_⟩
                      · refine fun h775 Hn_220 h776 => ?_
                        refine ⟨rfl, ?_⟩
                        refine ⟨rfl, ?_⟩
                        refine ⟨_, rfl, ?_⟩
                        refine Ow.ifneb (fun h777 => ?_) (fun h777 => ?_)
                        · try simp only [decide_eq_true_eq, V.int.injEq] at h777
                          exact ((by (subst_vars; first | exact h777 Iff.rfl | exact h777 trivial | exact h777 (Iff.trans (by assumption : _ = true ↔ Ow.Right _ _ _) (Iff.symm (by assumption : _ = true ↔ Ow.AllR _ _ _ _ _ _))) | exact Ow.no_T h777 (by assumption) (by assumption) | exact Ow.no_a h777 (by assumption) (by assumption) | exact Ow.no_b h777 (by assumption) (by assumption) | exact Ow.no_c h777 (by assumption) (by assumption) | exact h777 (Iff.trans (by assumption : _ = true ↔ Ow.WrongF _ _ _ _) (Iff.symm (by assumption : _ = true ↔ Ow.LwR _ _ _ _ _ _ _))))) : False).elim
                        · try simp only [decide_eq_true_eq, V.int.injEq] at h777
                          exact ⟨_, _, _, _, _, rfl, ((((Ow.Fm.refl.trans h715).same h770).same h772).same h776), (h776 _ _ (h772 _ _ (h770 _ _ h716))), (h776 _ _ (h772 _ _ (h770 _ _ h717))), (h776 _ _ (h772 _ _ (h770 _ _ h718))), (h776 _ _ (h772 _ _ (h770 _ _ h719))), (h776 _ _ (h772 _ _ (h770 _ _ h720))), (h776 _ _ (h772 _ _ (h770 _ _ h721))), (h776 _ _ (h772 _ _ (h770 _ _ h722))), (h776 _ _ (h772 _ _ (h770 _ _ h723))), (h776 _ _ (h772 _ _ (h770 _ _ h724))), trivial⟩
                      · refine fun t_48 h778 Hn_221 h779 => ?_
                        refine ⟨rfl, ?_⟩
                        refine ⟨rfl, ?_⟩
                        refine ⟨_, rfl, ?_⟩
                        refine Ow.ifneb (fun h780 => ?_) (fun h780 => ?_)
                        · try simp only [decide_eq_true_eq, V.int.injEq] at h780
                          exact ((by (subst_vars; first | exact h780 Iff.rfl | exact h780 trivial | exact h780 (Iff.trans (by assumption : _ = true ↔ Ow.Right _ _ _) (Iff.symm (by assumption : _ = true ↔ Ow.AllR _ _ _ _ _ _))) | exact Ow.no_T h780 (by assumption) (by assumption) | exact Ow.no_a h780 (by assumption) (by assumption) | exact Ow.no_b h780 (by assumption) (by assumption) | exact Ow.no_c h780 (by assumption) (by assumption) | exact h780 (Iff.trans (by assumption : _ = true ↔ Ow.WrongF _ _ _ _) (Iff.symm (by assumption : _ = true ↔ Ow.LwR _ _ _ _ _ _ _))))) : False).elim
                        · try simp only [decide_eq_true_eq, V.int.injEq] at h780
                          exact ⟨_, _, _, _, _, rfl, ((((Ow.Fm.refl.trans h715).same h770).same h772).same h779), (h779 _ _ (h772 _ _ (h770 _ _ h716))), (h779 _ _ (h772 _ _ (h770 _ _ h717))), (h779 _ _ (h772 _ _ (h770 _ _ h718))), (h779 _ _ (h772 _ _ (h770 _ _ h719))), (h779 _ _ (h772 _ _ (h770 _ _ h720))), (h779 _ _ (h772 _ _ (h770 _ _ h721))), (h779 _ _ (h772 _ _ (h770 _ _ h722))), (h779 _ _ (h772 _ _ (h770 _ _ h723))), (h779 _ _ (h772 _ _ (h770 _ _ h724))), trivial⟩
                    · refine iteF ?_
                      exact ⟨_, _, _, _, _, rfl, (((Ow.Fm.refl.trans h715).same h770).same h772), (h772 _ _ (h770 _ _ h716)), (h772 _ _ (h770 _ _ h717)), (h772 _ _ (h770 _ _ h718)), (h772 _ _ (h770 _ _ h719)), (h772 _ _ (h770 _ _ h720)), (h772 _ _ (h770 _ _ h721)), (h772 _ _ (h770 _ _ h722)), (h772 _ _ (h770 _ _ h723)), (h772 _ _ (h770 _ _ h724)), trivial⟩
                · refine ⟨_, rfl, ?_⟩
                  refine ⟨_, rfl, rfl, (by first | (walk_at "o2")), fun B_63 h_B_63 h0_B_63 => ?_⟩
                  refine ⟨_, _, rfl, rfl, ?_⟩
                  refine ⟨_, rfl, ?_⟩
                  refine ⟨_, rfl, ?_⟩
                  refine ⟨_, rfl, ?_⟩
                  refine Or.inr (Or.inl ?_)
                  refine ⟨_, _, _, _, _, _, _, _, rfl, (by first | (walk_at "o2")), (by first | (walk_at "o2")), (by first | (walk_at "o2")), (by first | (walk_at "o2")), h718, (by first | (walk_at "o2")), (by first | (walk_at "o2")), (by first | (walk_at "o2")), (by first | (walk_at "o2")), (by first | (walk_at "o2")), (by first | (walk_at "o2")), (by first | (walk_at "o2")), (by first | (walk_at "o2")), (by first | (walk_at "o2")), fun l_due_37 h781 Hn_222 h782 => ?_⟩
                  refine Ow.gnmS (σ' := [_, _, _, _, _, _, _, _, _, _, _, _]) rfl ?_
                  refine ⟨_, rfl, ?_⟩
                  refine ⟨_, rfl, ?_⟩
                  refine ⟨_, rfl, ?_⟩
                  refine ⟨_, rfl, ?_⟩
                  refine Or.inr (Or.inl ?_)
                  refine ⟨_, _, _, _, fm, _, rfl, (by first | (walk_at "o2")), (by first | (walk_at "o2")), (by first | (walk_at "o2")), (by first | (walk_at "o2")), (h782 _ _ h719), (by first | (walk_at "o2")), (by first | (walk_at "o2")), fun l_found_37 h783 Hn_223 h784 => ?_⟩
                  refine Ow.gnmS (σ' := [_, _, _, _, _, _, _, _, _, _, _, _]) rfl ?_
                  refine ⟨_, rfl, ?_⟩
                  refine ⟨_, _, _, _, true, rfl, .ty _, .base (.bl _), kit_ty (by decide +kernel), ?_⟩
                  refine ⟨_, rfl, ?_⟩
                  refine iteF ?_
                  refine ⟨_, rfl, ?_⟩
                  refine ⟨_, rfl, ?_⟩
                  refine ⟨rfl, ?_⟩
                  refine ⟨_, rfl, ?_⟩
                  refine Ow.ifneb (fun h785 => ?_) (fun h785 => ?_)
                  · try simp only [decide_eq_true_eq, V.int.injEq] at h785
                    exact ((by (subst_vars; first | exact h785 Iff.rfl | exact h785 trivial | exact h785 (Iff.trans (by assumption : _ = true ↔ Ow.Right _ _ _) (Iff.symm (by assumption : _ = true ↔ Ow.AllR _ _ _ _ _ _))) | exact Ow.no_T h785 (by assumption) (by assumption) | exact Ow.no_a h785 (by assumption) (by assumption) | exact Ow.no_b h785 (by assumption) (by assumption) | exact Ow.no_c h785 (by assumption) (by assumption) | exact h785 (Iff.trans (by assumption : _ = true ↔ Ow.WrongF _ _ _ _) (Iff.symm (by assumption : _ = true ↔ Ow.LwR _ _ _ _ _ _ _))))) : False).elim
                  · try simp only [decide_eq_true_eq, V.int.injEq] at h785
                    refine ⟨_, rfl, ?_⟩
                    refine ⟨_, _, rfl, rfl, ?_⟩
                    refine ⟨_, rfl, ?_⟩
                    refine Ow.ifd (fun h786 => ?_) (fun h786 => ?_)
                    · refine ⟨_, rfl, ?_⟩
                      refine ⟨rfl, ?_⟩
                      refine ⟨_, rfl, ?_⟩
                      refine iteF ?_
                      refine ⟨_, rfl, ?_⟩
                      refine Or.inl ?_
                      refine ⟨_, rfl, ?_⟩
                      refine ⟨_, rfl, ?_⟩
                      refine iteT ?_
                      refine ⟨_, rfl, ?_⟩
                      refine ⟨_, rfl, ?_⟩
                      refine ⟨_, rfl, ?_⟩
                      refine ⟨_, rfl, ?_⟩
                      refine ⟨_, rfl, ?_⟩
                      refine ⟨_, _, _, _, _, _, _, rfl, (by first | (walk_at "o2")), (by first | (walk_at "o2")), (by first | (walk_at "o2")), (by first | (walk_at "o2")), (h784 _ _ (h782 _ _ h718)), (by first | (walk_at "o2")), (by first | (walk_at "o2")), (by first | (walk_at "o2")), (by first | (walk_at "o2")), (by first | (walk_at "o2")), (by first | (walk_at "o2")), (by first | (walk_at "o2")), (by first | (walk_at "o2")), (by first | (walk_at "o2")), ?_, ?_⟩
                      · refine fun h787 Hn_224 h788 => ?_
                        refine ⟨rfl, ?_⟩
                        refine ⟨rfl, ?_⟩
                        refine ⟨_, rfl, ?_⟩
                        refine Ow.ifneb (fun h789 => ?_) (fun h789 => ?_)
                        · try simp only [decide_eq_true_eq, V.int.injEq] at h789
                          exact ((by (subst_vars; first | exact h789 Iff.rfl | exact h789 trivial | exact h789 (Iff.trans (by assumption : _ = true ↔ Ow.Right _ _ _) (Iff.symm (by assumption : _ = true ↔ Ow.AllR _ _ _ _ _ _))) | exact Ow.no_T h789 (by assumption) (by assumption) | exact Ow.no_a h789 (by assumption) (by assumption) | exact Ow.no_b h789 (by assumption) (by assumption) | exact Ow.no_c h789 (by assumption) (by assumption) | exact h789 (Iff.trans (by assumption : _ = true ↔ Ow.WrongF _ _ _ _) (Iff.symm (by assumption : _ = true ↔ Ow.LwR _ _ _ _ _ _ _))))) : False).elim
                        · try simp only [decide_eq_true_eq, V.int.injEq] at h789
                          exact ⟨_, _, _, _, _, rfl, ((((Ow.Fm.refl.trans h715).same h782).same h784).same h788), (h788 _ _ (h784 _ _ (h782 _ _ h716))), (h788 _ _ (h784 _ _ (h782 _ _ h717))), (h788 _ _ (h784 _ _ (h782 _ _ h718))), (h788 _ _ (h784 _ _ (h782 _ _ h719))), (h788 _ _ (h784 _ _ (h782 _ _ h720))), (h788 _ _ (h784 _ _ (h782 _ _ h721))), (h788 _ _ (h784 _ _ (h782 _ _ h722))), (h788 _ _ (h784 _ _ (h782 _ _ h723))), (h788 _ _ (h784 _ _ (h782 _ _ h724))), trivial⟩
                      · refine fun t_49 h790 Hn_225 h791 => ?_
                        refine ⟨rfl, ?_⟩
                        refine ⟨rfl, ?_⟩
                        refine ⟨_, rfl, ?_⟩
                        refine Ow.ifneb (fun h792 => ?_) (fun h792 => ?_)
                        · try simp only [decide_eq_true_eq, V.int.injEq] at h792
                          exact ((by (subst_vars; first | exact h792 Iff.rfl | exact h792 trivial | exact h792 (Iff.trans (by assumption : _ = true ↔ Ow.Right _ _ _) (Iff.symm (by assumption : _ = true ↔ Ow.AllR _ _ _ _ _ _))) | exact Ow.no_T h792 (by assumption) (by assumption) | exact Ow.no_a h792 (by assumption) (by assumption) | exact Ow.no_b h792 (by assumption) (by assumption) | exact Ow.no_c h792 (by assumption) (by assumption) | exact h792 (Iff.trans (by assumption : _ = true ↔ Ow.WrongF _ _ _ _) (Iff.symm (by assumption : _ = true ↔ Ow.LwR _ _ _ _ _ _ _))))) : False).elim
                        · try simp only [decide_eq_true_eq, V.int.injEq] at h792
                          exact ⟨_, _, _, _, _, rfl, ((((Ow.Fm.refl.trans h715).same h782).same h784).same h791), (h791 _ _ (h784 _ _ (h782 _ _ h716))), (h791 _ _ (h784 _ _ (h782 _ _ h717))), (h791 _ _ (h784 _ _ (h782 _ _ h718))), (h791 _ _ (h784 _ _ (h782 _ _ h719))), (h791 _ _ (h784 _ _ (h782 _ _ h720))), (h791 _ _ (h784 _ _ (h782 _ _ h721))), (h791 _ _ (h784 _ _ (h782 _ _ h722))), (h791 _ _ (h784 _ _ (h782 _ _ h723))), (h791 _ _ (h784 _ _ (h782 _ _ h724))), trivial⟩
                    · refine iteF ?_
                      exact ⟨_, _, _, _, _, rfl, (((Ow.Fm.refl.trans h715).same h782).same h784), (h784 _ _ (h782 _ _ h716)), (h784 _ _ (h782 _ _ h717)), (h784 _ _ (h782 _ _ h718)), (h784 _ _ (h782 _ _ h719)), (h784 _ _ (h782 _ _ h720)), (h784 _ _ (h782 _ _ h721)), (h784 _ _ (h782 _ _ h722)), (h784 _ _ (h782 _ _ h723)), (h784 _ _ (h782 _ _ h724)), trivial⟩
                · refine ⟨_, rfl, ?_⟩
                  refine ⟨_, rfl, rfl, (by first | (walk_at "o2")), fun B_64 h_B_64 h0_B_64 => ?_⟩
                  refine ⟨_, _, rfl, rfl, ?_⟩
                  refine ⟨_, rfl, ?_⟩
                  refine ⟨_, rfl, ?_⟩
                  refine ⟨_, rfl, ?_⟩
                  refine Or.inr (Or.inl ?_)
                  refine ⟨_, _, _, _, _, _, _, _, rfl, (by first | (walk_at "o2")), (by first | (walk_at "o2")), (by first | (walk_at "o2")), (by first | (walk_at "o2")), h718, (by first | (walk_at "o2")), (by first | (walk_at "o2")), (by first | (walk_at "o2")), (by first | (walk_at "o2")), (by first | (walk_at "o2")), (by first | (walk_at "o2")), (by first | (walk_at "o2")), (by first | (walk_at "o2")), (by first | (walk_at "o2")), fun l_due_38 h793 Hn_226 h794 => ?_⟩
                  refine Ow.gnmS (σ' := [_, _, _, _, _, _, _, _, _, _, _, _]) rfl ?_
                  refine ⟨_, rfl, ?_⟩
                  refine ⟨_, rfl, ?_⟩
                  refine ⟨_, rfl, ?_⟩
                  refine ⟨_, rfl, ?_⟩
                  refine Or.inr (Or.inl ?_)
                  refine ⟨_, _, _, _, fm, _, rfl, (by first | (walk_at "o2")), (by first | (walk_at "o2")), (by first | (walk_at "o2")), (by first | (walk_at "o2")), (h794 _ _ h719), (by first | (walk_at "o2")), (by first | (walk_at "o2")), fun l_found_38 h795 Hn_227 h796 => ?_⟩
                  refine Ow.gnmS (σ' := [_, _, _, _, _, _, _, _, _, _, _, _]) rfl ?_
                  refine ⟨_, rfl, ?_⟩
                  refine ⟨_, _, _, _, true, rfl, .ty _, .base (.bl _), kit_ty (by decide +kernel), ?_⟩
                  refine ⟨_, rfl, ?_⟩
                  refine iteF ?_
                  refine ⟨_, rfl, ?_⟩
                  refine ⟨_, rfl, ?_⟩
                  refine ⟨rfl, ?_⟩
                  refine ⟨_, rfl, ?_⟩
                  refine Ow.ifneb (fun h797 => ?_) (fun h797 => ?_)
                  · try simp only [decide_eq_true_eq, V.int.injEq] at h797
                    exact ((by (subst_vars; first | exact h797 Iff.rfl | exact h797 trivial | exact h797 (Iff.trans (by assumption : _ = true ↔ Ow.Right _ _ _) (Iff.symm (by assumption : _ = true ↔ Ow.AllR _ _ _ _ _ _))) | exact Ow.no_T h797 (by assumption) (by assumption) | exact Ow.no_a h797 (by assumption) (by assumption) | exact Ow.no_b h797 (by assumption) (by assumption) | exact Ow.no_c h797 (by assumption) (by assumption) | exact h797 (Iff.trans (by assumption : _ = true ↔ Ow.WrongF _ _ _ _) (Iff.symm (by assumption : _ = true ↔ Ow.LwR _ _ _ _ _ _ _))))) : False).elim
                  · try simp only [decide_eq_true_eq, V.int.injEq] at h797
                    refine ⟨_, rfl, ?_⟩
                    refine ⟨_, _, rfl, rfl, ?_⟩
                    refine ⟨_, rfl, ?_⟩
                    refine Ow.ifd (fun h798 => ?_) (fun h798 => ?_)
                    · refine ⟨_, rfl, ?_⟩
                      refine ⟨rfl, ?_⟩
                      refine ⟨_, rfl, ?_⟩
                      refine iteF ?_
                      refine ⟨_, rfl, ?_⟩
                      refine Or.inl ?_
                      refine ⟨_, rfl, ?_⟩
                      refine ⟨_, rfl, ?_⟩
                      refine iteT ?_
                      refine ⟨_, rfl, ?_⟩
                      refine ⟨_, rfl, ?_⟩
                      refine ⟨_, rfl, ?_⟩
                      refine ⟨_, rfl, ?_⟩
                      refine ⟨_, rfl, ?_⟩
                      refine ⟨_, _, _, _, _, _, _, rfl, (by first | (walk_at "o2")), (by first | (walk_at "o2")), (by first | (walk_at "o2")), (by first | (walk_at "o2")), (h796 _ _ (h794 _ _ h718)), (by first | (walk_at "o2")), (by first | (walk_at "o2")), (by first | (walk_at "o2")), (by first | (walk_at "o2")), (by first | (walk_at "o2")), (by first | (walk_at "o2")), (by first | (walk_at "o2")), (by first | (walk_at "o2")), (by first | (walk_at "o2")), ?_, ?_⟩
                      · refine fun h799 Hn_228 h800 => ?_
                        refine ⟨rfl, ?_⟩
                        refine ⟨rfl, ?_⟩
                        refine ⟨_, rfl, ?_⟩
                        refine Ow.ifneb (fun h801 => ?_) (fun h801 => ?_)
                        · try simp only [decide_eq_true_eq, V.int.injEq] at h801
                          exact ((by (subst_vars; first | exact h801 Iff.rfl | exact h801 trivial | exact h801 (Iff.trans (by assumption : _ = true ↔ Ow.Right _ _ _) (Iff.symm (by assumption : _ = true ↔ Ow.AllR _ _ _ _ _ _))) | exact Ow.no_T h801 (by assumption) (by assumption) | exact Ow.no_a h801 (by assumption) (by assumption) | exact Ow.no_b h801 (by assumption) (by assumption) | exact Ow.no_c h801 (by assumption) (by assumption) | exact h801 (Iff.trans (by assumption : _ = true ↔ Ow.WrongF _ _ _ _) (Iff.symm (by assumption : _ = true ↔ Ow.LwR _ _ _ _ _ _ _))))) : False).elim
                        · try simp only [decide_eq_true_eq, V.int.injEq] at h801
                          exact ⟨_, _, _, _, _, rfl, ((((Ow.Fm.refl.trans h715).same h794).same h796).same h800), (h800 _ _ (h796 _ _ (h794 _ _ h716))), (h800 _ _ (h796 _ _ (h794 _ _ h717))), (h800 _ _ (h796 _ _ (h794 _ _ h718))), (h800 _ _ (h796 _ _ (h794 _ _ h719))), (h800 _ _ (h796 _ _ (h794 _ _ h720))), (h800 _ _ (h796 _ _ (h794 _ _ h721))), (h800 _ _ (h796 _ _ (h794 _ _ h722))), (h800 _ _ (h796 _ _ (h794 _ _ h723))), (h800 _ _ (h796 _ _ (h794 _ _ h724))), trivial⟩
                      · refine fun t_50 h802 Hn_229 h803 => ?_
                        refine ⟨rfl, ?_⟩
                        refine ⟨rfl, ?_⟩
                        refine ⟨_, rfl, ?_⟩
                        refine Ow.ifneb (fun h804 => ?_) (fun h804 => ?_)
                        · try simp only [decide_eq_true_eq, V.int.injEq] at h804
                          exact ((by (subst_vars; first | exact h804 Iff.rfl | exact h804 trivial | exact h804 (Iff.trans (by assumption : _ = true ↔ Ow.Right _ _ _) (Iff.symm (by assumption : _ = true ↔ Ow.AllR _ _ _ _ _ _))) | exact Ow.no_T h804 (by assumption) (by assumption) | exact Ow.no_a h804 (by assumption) (by assumption) | exact Ow.no_b h804 (by assumption) (by assumption) | exact Ow.no_c h804 (by assumption) (by assumption) | exact h804 (Iff.trans (by assumption : _ = true ↔ Ow.WrongF _ _ _ _) (Iff.symm (by assumption : _ = true ↔ Ow.LwR _ _ _ _ _ _ _))))) : False).elim
                        · try simp only [decide_eq_true_eq, V.int.injEq] at h804
                          exact ⟨_, _, _, _, _, rfl, ((((Ow.Fm.refl.trans h715).same h794).same h796).same h803), (h803 _ _ (h796 _ _ (h794 _ _ h716))), (h803 _ _ (h796 _ _ (h794 _ _ h717))), (h803 _ _ (h796 _ _ (h794 _ _ h718))), (h803 _ _ (h796 _ _ (h794 _ _ h719))), (h803 _ _ (h796 _ _ (h794 _ _ h720))), (h803 _ _ (h796 _ _ (h794 _ _ h721))), (h803 _ _ (h796 _ _ (h794 _ _ h722))), (h803 _ _ (h796 _ _ (h794 _ _ h723))), (h803 _ _ (h796 _ _ (h794 _ _ h724))), trivial⟩
                    · refine iteF ?_
                      exact ⟨_, _, _, _, _, rfl, (((Ow.Fm.refl.trans h715).same h794).same h796), (h796 _ _ (h794 _ _ h716)), (h796 _ _ (h794 _ _ h717)), (h796 _ _ (h794 _ _ h718)), (h796 _ _ (h794 _ _ h719)), (h796 _ _ (h794 _ _ h720)), (h796 _ _ (h794 _ _ h721)), (h796 _ _ (h794 _ _ h722)), (h796 _ _ (h794 _ _ h723)), (h796 _ _ (h794 _ _ h724)), trivial⟩
                · refine ⟨_, rfl, ?_⟩
                  refine ⟨_, rfl, rfl, (by first | (walk_at "o2")), fun B_65 h_B_65 h0_B_65 => ?_⟩
                  refine ⟨_, _, rfl, rfl, ?_⟩
                  refine ⟨_, rfl, ?_⟩
                  refine ⟨_, rfl, ?_⟩
                  refine ⟨_, rfl, ?_⟩
                  refine Or.inr (Or.inl ?_)
                  refine ⟨_, _, _, _, _, _, _, _, rfl, (by first | (walk_at "o2")), (by first | (walk_at "o2")), (by first | (walk_at "o2")), (by first | (walk_at "o2")), h718, (by first | (walk_at "o2")), (by first | (walk_at "o2")), (by first | (walk_at "o2")), (by first | (walk_at "o2")), (by first | (walk_at "o2")), (by first | (walk_at "o2")), (by first | (walk_at "o2")), (by first | (walk_at "o2")), (by first | (walk_at "o2")), fun l_due_39 h805 Hn_230 h806 => ?_⟩
                  refine Ow.gnmS (σ' := [_, _, _, _, _, _, _, _, _, _, _, _]) rfl ?_
                  refine ⟨_, rfl, ?_⟩
                  refine ⟨_, rfl, ?_⟩
                  refine ⟨_, rfl, ?_⟩
                  refine ⟨_, rfl, ?_⟩
                  refine Or.inr (Or.inl ?_)
                  refine ⟨_, _, _, _, fm, _, rfl, (by first | (walk_at "o2")), (by first | (walk_at "o2")), (by first | (walk_at "o2")), (by first | (walk_at "o2")), (h806 _ _ h719), (by first | (walk_at "o2")), (by first | (walk_at "o2")), fun l_found_39 h807 Hn_231 h808 => ?_⟩
                  refine Ow.gnmS (σ' := [_, _, _, _, _, _, _, _, _, _, _, _]) rfl ?_
                  refine ⟨_, rfl, ?_⟩
                  refine ⟨_, _, _, _, true, rfl, .ty _, .base (.bl _), kit_ty (by decide +kernel), ?_⟩
                  refine ⟨_, rfl, ?_⟩
                  refine iteF ?_
                  refine ⟨_, rfl, ?_⟩
                  refine ⟨_, rfl, ?_⟩
                  refine ⟨rfl, ?_⟩
                  refine ⟨_, rfl, ?_⟩
                  refine Ow.ifneb (fun h809 => ?_) (fun h809 => ?_)
                  · try simp only [decide_eq_true_eq, V.int.injEq] at h809
                    exact ((by (subst_vars; first | exact h809 Iff.rfl | exact h809 trivial | exact h809 (Iff.trans (by assumption : _ = true ↔ Ow.Right _ _ _) (Iff.symm (by assumption : _ = true ↔ Ow.AllR _ _ _ _ _ _))) | exact Ow.no_T h809 (by assumption) (by assumption) | exact Ow.no_a h809 (by assumption) (by assumption) | exact Ow.no_b h809 (by assumption) (by assumption) | exact Ow.no_c h809 (by assumption) (by assumption) | exact h809 (Iff.trans (by assumption : _ = true ↔ Ow.WrongF _ _ _ _) (Iff.symm (by assumption : _ = true ↔ Ow.LwR _ _ _ _ _ _ _))))) : False).elim
                  · try simp only [decide_eq_true_eq, V.int.injEq] at h809
                    refine ⟨_, rfl, ?_⟩
                    refine ⟨_, _, rfl, rfl, ?_⟩
                    refine ⟨_, rfl, ?_⟩
                    refine Ow.ifd (fun h810 => ?_) (fun h810 => ?_)
                    · refine ⟨_, rfl, ?_⟩
                      refine ⟨rfl, ?_⟩
                      refine ⟨_, rfl, ?_⟩
                      refine iteF ?_
                      refine ⟨_, rfl, ?_⟩
                      refine Or.inl ?_
                      refine ⟨_, rfl, ?_⟩
                      refine ⟨_, rfl, ?_⟩
                      refine iteT ?_
                      refine ⟨_, rfl, ?_⟩
                      refine ⟨_, rfl, ?_⟩
                      refine ⟨_, rfl, ?_⟩
                      refine ⟨_, rfl, ?_⟩
                      refine ⟨_, rfl, ?_⟩
                      refine ⟨_, _, _, _, _, _, _, rfl, (by first | (walk_at "o2")), (by first | (walk_at "o2")), (by first | (walk_at "o2")), (by first | (walk_at "o2")), (h808 _ _ (h806 _ _ h718)), (by first | (walk_at "o2")), (by first | (walk_at "o2")), (by first | (walk_at "o2")), (by first | (walk_at "o2")), (by first | (walk_at "o2")), (by first | (walk_at "o2")), (by first | (walk_at "o2")), (by first | (walk_at "o2")), (by first | (walk_at "o2")), ?_, ?_⟩
                      · refine fun h811 Hn_232 h812 => ?_
                        refine ⟨rfl, ?_⟩
                        refine ⟨rfl, ?_⟩
                        refine ⟨_, rfl, ?_⟩
                        refine Ow.ifneb (fun h813 => ?_) (fun h813 => ?_)
                        · try simp only [decide_eq_true_eq, V.int.injEq] at h813
                          exact ((by (subst_vars; first | exact h813 Iff.rfl | exact h813 trivial | exact h813 (Iff.trans (by assumption : _ = true ↔ Ow.Right _ _ _) (Iff.symm (by assumption : _ = true ↔ Ow.AllR _ _ _ _ _ _))) | exact Ow.no_T h813 (by assumption) (by assumption) | exact Ow.no_a h813 (by assumption) (by assumption) | exact Ow.no_b h813 (by assumption) (by assumption) | exact Ow.no_c h813 (by assumption) (by assumption) | exact h813 (Iff.trans (by assumption : _ = true ↔ Ow.WrongF _ _ _ _) (Iff.symm (by assumption : _ = true ↔ Ow.LwR _ _ _ _ _ _ _))))) : False).elim
                        · try simp only [decide_eq_true_eq, V.int.injEq] at h813
                          exact ⟨_, _, _, _, _, rfl, ((((Ow.Fm.refl.trans h715).same h806).same h808).same h812), (h812 _ _ (h808 _ _ (h806 _ _ h716))), (h812 _ _ (h808 _ _ (h806 _ _ h717))), (h812 _ _ (h808 _ _ (h806 _ _ h718))), (h812 _ _ (h808 _ _ (h806 _ _ h719))), (h812 _ _ (h808 _ _ (h806 _ _ h720))), (h812 _ _ (h808 _ _ (h806 _ _ h721))), (h812 _ _ (h808 _ _ (h806 _ _ h722))), (h812 _ _ (h808 _ _ (h806 _ _ h723))), (h812 _ _ (h808 _ _ (h806 _ _ h724))), trivial⟩
                      · refine fun t_51 h814 Hn_233 h815 => ?_
                        refine ⟨rfl, ?_⟩
                        refine ⟨rfl, ?_⟩
                        refine ⟨_, rfl, ?_⟩
                        refine Ow.ifneb (fun h816 => ?_) (fun h816 => ?_)
                        · try simp only [decide_eq_true_eq, V.int.injEq] at h816
                          exact ((by (subst_vars; first | exact h816 Iff.rfl | exact h816 trivial | exact h816 (Iff.trans (by assumption : _ = true ↔ Ow.Right _ _ _) (Iff.symm (by assumption : _ = true ↔ Ow.AllR _ _ _ _ _ _))) | exact Ow.no_T h816 (by assumption) (by assumption) | exact Ow.no_a h816 (by assumption) (by assumption) | exact Ow.no_b h816 (by assumption) (by assumption) | exact Ow.no_c h816 (by assumption) (by assumption) | exact h816 (Iff.trans (by assumption : _ = true ↔ Ow.WrongF _ _ _ _) (Iff.symm (by assumption : _ = true ↔ Ow.LwR _ _ _ _ _ _ _))))) : False).elim
                        · try simp only [decide_eq_true_eq, V.int.injEq] at h816
                          exact ⟨_, _, _, _, _, rfl, ((((Ow.Fm.refl.trans h715).same h806).same h808).same h815), (h815 _ _ (h808 _ _ (h806 _ _ h716))), (h815 _ _ (h808 _ _ (h806 _ _ h717))), (h815 _ _ (h808 _ _ (h806 _ _ h718))), (h815 _ _ (h808 _ _ (h806 _ _ h719))), (h815 _ _ (h808 _ _ (h806 _ _ h720))), (h815 _ _ (h808 _ _ (h806 _ _ h721))), (h815 _ _ (h808 _ _ (h806 _ _ h722))), (h815 _ _ (h808 _ _ (h806 _ _ h723))), (h815 _ _ (h808 _ _ (h806 _ _ h724))), trivial⟩
                    · refine iteF ?_
                      exact ⟨_, _, _, _, _, rfl, (((Ow.Fm.refl.trans h715).same h806).same h808), (h808 _ _ (h806 _ _ h716)), (h808 _ _ (h806 _ _ h717)), (h808 _ _ (h806 _ _ h718)), (h808 _ _ (h806 _ _ h719)), (h808 _ _ (h806 _ _ h720)), (h808 _ _ (h806 _ _ h721)), (h808 _ _ (h806 _ _ h722)), (h808 _ _ (h806 _ _ h723)), (h808 _ _ (h806 _ _ h724)), trivial⟩
                · refine ⟨_, rfl, ?_⟩
                  refine ⟨_, rfl, rfl, (by first | (walk_at "o2")), fun B_66 h_B_66 h0_B_66 => ?_⟩
                  refine ⟨_, _, rfl, rfl, ?_⟩
                  refine ⟨_, rfl, ?_⟩
                  refine ⟨_, rfl, ?_⟩
                  refine ⟨_, rfl, ?_⟩
                  refine Or.inr (Or.inr (Or.inr (Or.inl ?_)))
                  refine ⟨_, _, _, _, _, _, _, _, rfl, (by first | (walk_at "o2")), (by first | (walk_at "o2")), (by first | (walk_at "o2")), (by first | (walk_at "o2")), h718, (by first | (walk_at "o2")), (by first | (walk_at "o2")), (by first | (walk_at "o2")), (by first | (walk_at "o2")), (by first | (walk_at "o2")), (by first | (walk_at "o2")), (by first | (walk_at "o2")), (by first | (walk_at "o2")), (by first | (walk_at "o2")), fun Hn_234 h817 => ?_⟩
                  refine Ow.gnmS (σ' := [_, _, _, _, _, _, _, _, _, _, _, _]) rfl ?_
                  refine ⟨_, rfl, ?_⟩
                  refine ⟨_, rfl, ?_⟩
                  refine ⟨_, rfl, ?_⟩
                  refine ⟨_, rfl, ?_⟩
                  refine Or.inr (Or.inr (Or.inr (Or.inl ?_)))
                  refine ⟨_, _, _, _, fm, _, rfl, (by first | (walk_at "o2")), (by first | (walk_at "o2")), (by first | (walk_at "o2")), (by first | (walk_at "o2")), (h817 _ _ h719), (by first | (walk_at "o2")), (by first | (walk_at "o2")), fun Hn_235 h818 => ?_⟩
                  refine Ow.gnmS (σ' := [_, _, _, _, _, _, _, _, _, _, _, _]) rfl ?_
                  refine ⟨_, rfl, ?_⟩
                  refine ⟨_, _, _, _, true, rfl, .ty _, .base (.bl _), kit_ty (by decide +kernel), ?_⟩
                  refine ⟨_, rfl, ?_⟩
                  refine iteF ?_
                  refine ⟨_, rfl, ?_⟩
                  refine ⟨_, rfl, ?_⟩
                  refine ⟨rfl, ?_⟩
                  refine ⟨_, rfl, ?_⟩
                  refine Ow.ifneb (fun h819 => ?_) (fun h819 => ?_)
                  · try simp only [decide_eq_true_eq, V.int.injEq] at h819
                    exact ((by (subst_vars; first | exact h819 Iff.rfl | exact h819 trivial | exact h819 (Iff.trans (by assumption : _ = true ↔ Ow.Right _ _ _) (Iff.symm (by assumption : _ = true ↔ Ow.AllR _ _ _ _ _ _))) | exact Ow.no_T h819 (by assumption) (by assumption) | exact Ow.no_a h819 (by assumption) (by assumption) | exact Ow.no_b h819 (by assumption) (by assumption) | exact Ow.no_c h819 (by assumption) (by assumption) | exact h819 (Iff.trans (by assumption : _ = true ↔ Ow.WrongF _ _ _ _) (Iff.symm (by assumption : _ = true ↔ Ow.LwR _ _ _ _ _ _ _))))) : False).elim
                  · try simp only [decide_eq_true_eq, V.int.injEq] at h819
                    refine ⟨_, rfl, ?_⟩
                    refine ⟨_, _, rfl, rfl, ?_⟩
                    refine ⟨_, rfl, ?_⟩
                    refine Ow.ifd (fun h820 => ?_) (fun h820 => ?_)
                    · refine ⟨_, rfl, ?_⟩
                      refine ⟨rfl, ?_⟩
                      refine ⟨_, rfl, ?_⟩
                      refine iteF ?_
                      refine ⟨_, rfl, ?_⟩
                      refine Or.inr (Or.inr (Or.inr (Or.inl ?_)))
                      refine ⟨_, rfl, ?_⟩
                      refine ⟨_, rfl, ?_⟩
                      refine iteF ?_
                      refine iteF ?_
                      exact ⟨_, _, _, _, _, rfl, (((Ow.Fm.refl.trans h715).same h817).same h818), (h818 _ _ (h817 _ _ h716)), (h818 _ _ (h817 _ _ h717)), (h818 _ _ (h817 _ _ h718)), (h818 _ _ (h817 _ _ h719)), (h818 _ _ (h817 _ _ h720)), (h818 _ _ (h817 _ _ h721)), (h818 _ _ (h817 _ _ h722)), (h818 _ _ (h817 _ _ h723)), (h818 _ _ (h817 _ _ h724)), trivial⟩
                    · refine iteF ?_
                      exact ⟨_, _, _, _, _, rfl, (((Ow.Fm.refl.trans h715).same h817).same h818), (h818 _ _ (h817 _ _ h716)), (h818 _ _ (h817 _ _ h717)), (h818 _ _ (h817 _ _ h718)), (h818 _ _ (h817 _ _ h719)), (h818 _ _ (h817 _ _ h720)), (h818 _ _ (h817 _ _ h721)), (h818 _ _ (h817 _ _ h722)), (h818 _ _ (h817 _ _ h723)), (h818 _ _ (h817 _ _ h724)), trivial⟩
                · refine ⟨_, rfl, ?_⟩
                  refine ⟨_, rfl, rfl, (by first | (walk_at "o2")), fun B_67 h_B_67 h0_B_67 => ?_⟩
                  refine ⟨_, _, rfl, rfl, ?_⟩
                  refine ⟨_, rfl, ?_⟩
                  refine ⟨_, rfl, ?_⟩
                  refine ⟨_, rfl, ?_⟩
                  refine Or.inr (Or.inr (Or.inr (Or.inr (Or.inl ?_))))
                  refine ⟨_, _, _, _, _, _, _, _, _, rfl, (by first | (walk_at "o2")), (by first | (walk_at "o2")), (by first | (walk_at "o2")), (by first | (walk_at "o2")), h718, (by first | (walk_at "o2")), (by first | (walk_at "o2")), (by first | (walk_at "o2")), (by first | (walk_at "o2")), (by first | (walk_at "o2")), (by first | (walk_at "o2")), (by first | (walk_at "o2")), (by first | (walk_at "o2")), (by first | (walk_at "o2")), h721, fun Hn_236 h821 => ?_⟩
                  refine Ow.gnmS (σ' := [_, _, _, _, _, _, _, _, _, _, _, _]) rfl ?_
                  refine ⟨_, rfl, ?_⟩
                  refine ⟨_, rfl, ?_⟩
                  refine ⟨_, rfl, ?_⟩
                  refine ⟨_, rfl, ?_⟩
                  refine Or.inr (Or.inr (Or.inr (Or.inr (Or.inl ?_))))
                  refine ⟨_, _, _, _, fm, _, _, rfl, (by first | (walk_at "o2")), (by first | (walk_at "o2")), (by first | (walk_at "o2")), (by first | (walk_at "o2")), (h821 _ _ h719), (by first | (walk_at "o2")), (by first | (walk_at "o2")), (h821 _ _ h721), fun Hn_237 h822 => ?_⟩
                  refine Ow.gnmS (σ' := [_, _, _, _, _, _, _, _, _, _, _, _]) rfl ?_
                  refine ⟨_, rfl, ?_⟩
                  refine ⟨_, _, _, _, true, rfl, .ty _, .base (.bl _), kit_ty (by decide +kernel), ?_⟩
                  refine ⟨_, rfl, ?_⟩
                  refine iteF ?_
                  refine ⟨_, rfl, ?_⟩
                  refine ⟨_, rfl, ?_⟩
                  refine ⟨rfl, ?_⟩
                  refine ⟨_, rfl, ?_⟩
                  refine Ow.ifneb (fun h823 => ?_) (fun h823 => ?_)
                  · try simp only [decide_eq_true_eq, V.int.injEq] at h823
                    exact ((by (subst_vars; first | exact h823 Iff.rfl | exact h823 trivial | exact h823 (Iff.trans (by assumption : _ = true ↔ Ow.Right _ _ _) (Iff.symm (by assumption : _ = true ↔ Ow.AllR _ _ _ _ _ _))) | exact Ow.no_T h823 (by assumption) (by assumption) | exact Ow.no_a h823 (by assumption) (by assumption) | exact Ow.no_b h823 (by assumption) (by assumption) | exact Ow.no_c h823 (by assumption) (by assumption) | exact h823 (Iff.trans (by assumption : _ = true ↔ Ow.WrongF _ _ _ _) (Iff.symm (by assumption : _ = true ↔ Ow.LwR _ _ _ _ _ _ _))))) : False).elim
                  · try simp only [decide_eq_true_eq, V.int.injEq] at h823
                    refine ⟨_, rfl, ?_⟩
                    refine ⟨_, _, rfl, rfl, ?_⟩
                    refine ⟨_, rfl, ?_⟩
                    refine Ow.ifd (fun h824 => ?_) (fun h824 => ?_)
                    · refine ⟨_, rfl, ?_⟩
                      refine ⟨rfl, ?_⟩
                      refine ⟨_, rfl, ?_⟩
                      refine iteF ?_
                      refine ⟨_, rfl, ?_⟩
                      refine Or.inr (Or.inr (Or.inr (Or.inr (Or.inl ?_))))
                      refine ⟨_, _, rfl, (h822 _ _ (h821 _ _ h721)), ?_⟩
                      refine ⟨_, rfl, ?_⟩
                      refine iteF ?_
                      refine iteF ?_
                      exact ⟨_, _, _, _, _, rfl, (((Ow.Fm.refl.trans h715).same h821).same h822), (h822 _ _ (h821 _ _ h716)), (h822 _ _ (h821 _ _ h717)), (h822 _ _ (h821 _ _ h718)), (h822 _ _ (h821 _ _ h719)), (h822 _ _ (h821 _ _ h720)), (h822 _ _ (h821 _ _ h721)), (h822 _ _ (h821 _ _ h722)), (h822 _ _ (h821 _ _ h723)), (h822 _ _ (h821 _ _ h724)), trivial⟩
                    · refine iteF ?_
                      exact ⟨_, _, _, _, _, rfl, (((Ow.Fm.refl.trans h715).same h821).same h822), (h822 _ _ (h821 _ _ h716)), (h822 _ _ (h821 _ _ h717)), (h822 _ _ (h821 _ _ h718)), (h822 _ _ (h821 _ _ h719)), (h822 _ _ (h821 _ _ h720)), (h822 _ _ (h821 _ _ h721)), (h822 _ _ (h821 _ _ h722)), (h822 _ _ (h821 _ _ h723)), (h822 _ _ (h821 _ _ h724)), trivial⟩
                · refine ⟨_, rfl, ?_⟩
                  refine ⟨_, rfl, rfl, (by first | (walk_at "o2")), fun B_68 h_B_68 h0_B_68 => ?_⟩
                  refine ⟨_, _, rfl, rfl, ?_⟩
                  refine ⟨_, rfl, ?_⟩
                  refine ⟨_, rfl, ?_⟩
                  refine ⟨_, rfl, ?_⟩
                  refine Or.inr (Or.inr (Or.inr (Or.inr (Or.inr (Or.inl ?_)))))
                  refine ⟨_, _, _, _, _, _, _, _, _, rfl, (by first | (walk_at "o2")), (by first | (walk_at "o2")), (by first | (walk_at "o2")), (by first | (walk_at "o2")), h718, (by first | (walk_at "o2")), (by first | (walk_at "o2")), (by first | (walk_at "o2")), (by first | (walk_at "o2")), (by first | (walk_at "o2")), (by first | (walk_at "o2")), (by first | (walk_at "o2")), (by first | (walk_at "o2")), (by first | (walk_at "o2")), h722, fun Hn_238 h825 => ?_⟩
                  refine Ow.gnmS (σ' := [_, _, _, _, _, _, _, _, _, _, _, _]) rfl ?_
                  refine ⟨_, rfl, ?_⟩
                  refine ⟨_, rfl, ?_⟩
                  refine ⟨_, rfl, ?_⟩
                  refine ⟨_, rfl, ?_⟩
                  refine Or.inr (Or.inr (Or.inr (Or.inr (Or.inr (Or.inl ?_)))))
                  refine ⟨_, _, _, _, fm, _, _, rfl, (by first | (walk_at "o2")), (by first | (walk_at "o2")), (by first | (walk_at "o2")), (by first | (walk_at "o2")), (h825 _ _ h719), (by first | (walk_at "o2")), (by first | (walk_at "o2")), (h825 _ _ h722), fun Hn_239 h826 => ?_⟩
                  refine Ow.gnmS (σ' := [_, _, _, _, _, _, _, _, _, _, _, _]) rfl ?_
                  refine ⟨_, rfl, ?_⟩
                  refine ⟨_, _, _, _, true, rfl, .ty _, .base (.bl _), kit_ty (by decide +kernel), ?_⟩
                  refine ⟨_, rfl, ?_⟩
                  refine iteF ?_
                  refine ⟨_, rfl, ?_⟩
                  refine ⟨_, rfl, ?_⟩
                  refine ⟨rfl, ?_⟩
                  refine ⟨_, rfl, ?_⟩
                  refine Ow.ifneb (fun h827 => ?_) (fun h827 => ?_)
                  · try simp only [decide_eq_true_eq, V.int.injEq] at h827
                    exact ((by (subst_vars; first | exact h827 Iff.rfl | exact h827 trivial | exact h827 (Iff.trans (by assumption : _ = true ↔ Ow.Right _ _ _) (Iff.symm (by assumption : _ = true ↔ Ow.AllR _ _ _ _ _ _))) | exact Ow.no_T h827 (by assumption) (by assumption) | exact Ow.no_a h827 (by assumption) (by assumption) | exact Ow.no_b h827 (by assumption) (by assumption) | exact Ow.no_c h827 (by assumption) (by assumption) | exact h827 (Iff.trans (by assumption : _ = true ↔ Ow.WrongF _ _ _ _) (Iff.symm (by assumption : _ = true ↔ Ow.LwR _ _ _ _ _ _ _))))) : False).elim
                  · try simp only [decide_eq_true_eq, V.int.injEq] at h827
                    refine ⟨_, rfl, ?_⟩
                    refine ⟨_, _, rfl, rfl, ?_⟩
                    refine ⟨_, rfl, ?_⟩
                    refine Ow.ifd (fun h828 => ?_) (fun h828 => ?_)
                    · refine ⟨_, rfl, ?_⟩
                      refine ⟨rfl, ?_⟩
                      refine ⟨_, rfl, ?_⟩
                      refine iteF ?_
                      refine ⟨_, rfl, ?_⟩
                      refine Or.inr (Or.inr (Or.inr (Or.inr (Or.inr (Or.inl ?_)))))
                      refine ⟨_, _, rfl, (h826 _ _ (h825 _ _ h722)), ?_⟩
                      refine ⟨_, rfl, ?_⟩
                      refine iteF ?_
                      refine iteF ?_
                      exact ⟨_, _, _, _, _, rfl, (((Ow.Fm.refl.trans h715).same h825).same h826), (h826 _ _ (h825 _ _ h716)), (h826 _ _ (h825 _ _ h717)), (h826 _ _ (h825 _ _ h718)), (h826 _ _ (h825 _ _ h719)), (h826 _ _ (h825 _ _ h720)), (h826 _ _ (h825 _ _ h721)), (h826 _ _ (h825 _ _ h722)), (h826 _ _ (h825 _ _ h723)), (h826 _ _ (h825 _ _ h724)), trivial⟩
                    · refine iteF ?_
                      exact ⟨_, _, _, _, _, rfl, (((Ow.Fm.refl.trans h715).same h825).same h826), (h826 _ _ (h825 _ _ h716)), (h826 _ _ (h825 _ _ h717)), (h826 _ _ (h825 _ _ h718)), (h826 _ _ (h825 _ _ h719)), (h826 _ _ (h825 _ _ h720)), (h826 _ _ (h825 _ _ h721)), (h826 _ _ (h825 _ _ h722)), (h826 _ _ (h825 _ _ h723)), (h826 _ _ (h825 _ _ h724)), trivial⟩
                · refine ⟨_, rfl, ?_⟩
                  refine ⟨_, rfl, rfl, (by first | (walk_at "o2")), fun B_69 h_B_69 h0_B_69 => ?_⟩
                  refine ⟨_, _, rfl, rfl, ?_⟩
                  refine ⟨_, rfl, ?_⟩
                  refine ⟨_, rfl, ?_⟩
                  refine ⟨_, rfl, ?_⟩
                  refine Or.inr (Or.inr (Or.inr (Or.inr (Or.inr (Or.inr (?_))))))
                  refine ⟨_, _, _, _, _, _, _, _, rfl, (by first | (walk_at "o2")), (by first | (walk_at "o2")), (by first | (walk_at "o2")), (by first | (walk_at "o2")), h718, (by first | (walk_at "o2")), (by first | (walk_at "o2")), (by first | (walk_at "o2")), (by first | (walk_at "o2")), (by first | (walk_at "o2")), (by first | (walk_at "o2")), (by first | (walk_at "o2")), (by first | (walk_at "o2")), (by first | (walk_at "o2")), h723, fun Hn_240 h829 => ?_⟩
                  refine Ow.gnmS (σ' := [_, _, _, _, _, _, _, _, _, _, _, _]) rfl ?_
                  refine ⟨_, rfl, ?_⟩
                  refine ⟨_, rfl, ?_⟩
                  refine ⟨_, rfl, ?_⟩
                  refine ⟨_, rfl, ?_⟩
                  refine Or.inr (Or.inr (Or.inr (Or.inr (Or.inr (Or.inr (?_))))))
                  refine ⟨_, _, _, _, fm, _, rfl, (by first | (walk_at "o2")), (by first | (walk_at "o2")), (by first | (walk_at "o2")), (by first | (walk_at "o2")), (h829 _ _ h719), (by first | (walk_at "o2")), (by first | (walk_at "o2")), (h829 _ _ h723), fun Hn_241 h830 => ?_⟩
                  refine Ow.gnmS (σ' := [_, _, _, _, _, _, _, _, _, _, _, _]) rfl ?_
                  refine ⟨_, rfl, ?_⟩
                  refine ⟨_, _, _, _, true, rfl, .ty _, .base (.bl _), kit_ty (by decide +kernel), ?_⟩
                  refine ⟨_, rfl, ?_⟩
                  refine iteF ?_
                  refine ⟨_, rfl, ?_⟩
                  refine ⟨_, rfl, ?_⟩
                  refine ⟨rfl, ?_⟩
                  refine ⟨_, rfl, ?_⟩
                  refine Ow.ifneb (fun h831 => ?_) (fun h831 => ?_)
                  · try simp only [decide_eq_true_eq, V.int.injEq] at h831
                    exact ((by (subst_vars; first | exact h831 Iff.rfl | exact h831 trivial | exact h831 (Iff.trans (by assumption : _ = true ↔ Ow.Right _ _ _) (Iff.symm (by assumption : _ = true ↔ Ow.AllR _ _ _ _ _ _))) | exact Ow.no_T h831 (by assumption) (by assumption) | exact Ow.no_a h831 (by assumption) (by assumption) | exact Ow.no_b h831 (by assumption) (by assumption) | exact Ow.no_c h831 (by assumption) (by assumption) | exact h831 (Iff.trans (by assumption : _ = true ↔ Ow.WrongF _ _ _ _) (Iff.symm (by assumption : _ = true ↔ Ow.LwR _ _ _ _ _ _ _))))) : False).elim
                  · try simp only [decide_eq_true_eq, V.int.injEq] at h831
                    refine ⟨_, rfl, ?_⟩
                    refine ⟨_, _, rfl, rfl, ?_⟩
                    refine ⟨_, rfl, ?_⟩
                    refine Ow.ifd (fun h832 => ?_) (fun h832 => ?_)
                    · refine ⟨_, rfl, ?_⟩
                      refine ⟨rfl, ?_⟩
                      refine ⟨_, rfl, ?_⟩
                      refine iteF ?_
                      refine ⟨_, rfl, ?_⟩
                      refine Or.inr (Or.inr (Or.inr (Or.inr (Or.inr (Or.inr (?_))))))
                      refine ⟨_, rfl, (h830 _ _ (h829 _ _ h723)), ?_⟩
                      refine ⟨_, rfl, ?_⟩
                      refine iteF ?_
                      refine iteF ?_
                      exact ⟨_, _, _, _, _, rfl, (((Ow.Fm.refl.trans h715).same h829).same h830), (h830 _ _ (h829 _ _ h716)), (h830 _ _ (h829 _ _ h717)), (h830 _ _ (h829 _ _ h718)), (h830 _ _ (h829 _ _ h719)), (h830 _ _ (h829 _ _ h720)), (h830 _ _ (h829 _ _ h721)), (h830 _ _ (h829 _ _ h722)), (h830 _ _ (h829 _ _ h723)), (h830 _ _ (h829 _ _ h724)), trivial⟩
                    · refine iteF ?_
                      exact ⟨_, _, _, _, _, rfl, (((Ow.Fm.refl.trans h715).same h829).same h830), (h830 _ _ (h829 _ _ h716)), (h830 _ _ (h829 _ _ h717)), (h830 _ _ (h829 _ _ h718)), (h830 _ _ (h829 _ _ h719)), (h830 _ _ (h829 _ _ h720)), (h830 _ _ (h829 _ _ h721)), (h830 _ _ (h829 _ _ h722)), (h830 _ _ (h829 _ _ h723)), (h830 _ _ (h829 _ _ h724)), trivial⟩
                · refine ⟨_, rfl, ?_⟩
                  refine ⟨_, rfl, rfl, (by first | (walk_at "o2")), fun B_70 h_B_70 h0_B_70 => ?_⟩
                  refine ⟨_, _, rfl, rfl, ?_⟩
                  refine ⟨_, rfl, ?_⟩
                  refine ⟨_, rfl, ?_⟩
                  refine ⟨_, rfl, ?_⟩
                  refine Or.inr (Or.inl ?_)
                  refine ⟨_, _, _, _, _, _, _, _, rfl, (by first | (walk_at "o2")), (by first | (walk_at "o2")), (by first | (walk_at "o2")), (by first | (walk_at "o2")), h718, (by first | (walk_at "o2")), (by first | (walk_at "o2")), (by first | (walk_at "o2")), (by first | (walk_at "o2")), (by first | (walk_at "o2")), (by first | (walk_at "o2")), (by first | (walk_at "o2")), (by first | (walk_at "o2")), (by first | (walk_at "o2")), fun l_due_40 h833 Hn_242 h834 => ?_⟩
                  refine Ow.gnmS (σ' := [_, _, _, _, _, _, _, _, _, _, _, _]) rfl ?_
                  refine ⟨_, rfl, ?_⟩
                  refine ⟨_, rfl, ?_⟩
                  refine ⟨_, rfl, ?_⟩
                  refine ⟨_, rfl, ?_⟩
                  refine Or.inr (Or.inl ?_)
                  refine ⟨_, _, _, _, fm, _, rfl, (by first | (walk_at "o2")), (by first | (walk_at "o2")), (by first | (walk_at "o2")), (by first | (walk_at "o2")), (h834 _ _ h719), (by first | (walk_at "o2")), (by first | (walk_at "o2")), fun l_found_40 h835 Hn_243 h836 => ?_⟩
                  refine Ow.gnmS (σ' := [_, _, _, _, _, _, _, _, _, _, _, _]) rfl ?_
                  refine ⟨_, rfl, ?_⟩
                  refine ⟨_, _, _, _, true, rfl, .ty _, .base (.bl _), kit_ty (by decide +kernel), ?_⟩
                  refine ⟨_, rfl, ?_⟩
                  refine iteF ?_
                  refine ⟨_, rfl, ?_⟩
                  refine ⟨_, rfl, ?_⟩
                  refine ⟨rfl, ?_⟩
                  refine ⟨_, rfl, ?_⟩
                  refine Ow.ifneb (fun h837 => ?_) (fun h837 => ?_)
                  · try simp only [decide_eq_true_eq, V.int.injEq] at h837
                    exact ((by (subst_vars; first | exact h837 Iff.rfl | exact h837 trivial | exact h837 (Iff.trans (by assumption : _ = true ↔ Ow.Right _ _ _) (Iff.symm (by assumption : _ = true ↔ Ow.AllR _ _ _ _ _ _))) | exact Ow.no_T h837 (by assumption) (by assumption) | exact Ow.no_a h837 (by assumption) (by assumption) | exact Ow.no_b h837 (by assumption) (by assumption) | exact Ow.no_c h837 (by assumption) (by assumption) | exact h837 (Iff.trans (by assumption : _ = true ↔ Ow.WrongF _ _ _ _) (Iff.symm (by assumption : _ = true ↔ Ow.LwR _ _ _ _ _ _ _))))) : False).elim
                  · try simp only [decide_eq_true_eq, V.int.injEq] at h837
                    refine ⟨_, rfl, ?_⟩
                    refine ⟨_, _, rfl, rfl, ?_⟩
                    refine ⟨_, rfl, ?_⟩
                    refine Ow.ifd (fun h838 => ?_) (fun h838 => ?_)
                    · refine ⟨_, rfl, ?_⟩
                      refine ⟨rfl, ?_⟩
                      refine ⟨_, rfl, ?_⟩
                      refine iteF ?_
                      refine ⟨_, rfl, ?_⟩
                      refine Or.inl ?_
                      refine ⟨_, rfl, ?_⟩
                      refine ⟨_, rfl, ?_⟩
                      refine iteT ?_
                      refine ⟨_, rfl, ?_⟩
                      refine ⟨_, rfl, ?_⟩
                      refine ⟨_, rfl, ?_⟩
                      refine ⟨_, rfl, ?_⟩
                      refine ⟨_, rfl, ?_⟩
                      refine ⟨_, _, _, _, _, _, _, rfl, (by first | (walk_at "o2")), (by first | (walk_at "o2")), (by first | (walk_at "o2")), (by first | (walk_at "o2")), (h836 _ _ (h834 _ _ h718)), (by first | (walk_at "o2")), (by first | (walk_at "o2")), (by first | (walk_at "o2")), (by first | (walk_at "o2")), (by first | (walk_at "o2")), (by first | (walk_at "o2")), (by first | (walk_at "o2")), (by first | (walk_at "o2")), (by first | (walk_at "o2")), ?_, ?_⟩
                      · refine fun h839 Hn_244 h840 => ?_
                        refine ⟨rfl, ?_⟩
                        refine ⟨rfl, ?_⟩
                        refine ⟨_, rfl, ?_⟩
                        refine Ow.ifneb (fun h841 => ?_) (fun h841 => ?_)
                        · try simp only [decide_eq_true_eq, V.int.injEq] at h841
                          exact ((by (subst_vars; first | exact h841 Iff.rfl | exact h841 trivial | exact h841 (Iff.trans (by assumption : _ = true ↔ Ow.Right _ _ _) (Iff.symm (by assumption : _ = true ↔ Ow.AllR _ _ _ _ _ _))) | exact Ow.no_T h841 (by assumption) (by assumption) | exact Ow.no_a h841 (by assumption) (by assumption) | exact Ow.no_b h841 (by assumption) (by assumption) | exact Ow.no_c h841 (by assumption) (by assumption) | exact h841 (Iff.trans (by assumption : _ = true ↔ Ow.WrongF _ _ _ _) (Iff.symm (by assumption : _ = true ↔ Ow.LwR _ _ _ _ _ _ _))))) : False).elim
                        · try simp only [decide_eq_true_eq, V.int.injEq] at h841
                          exact ⟨_, _, _, _, _, rfl, ((((Ow.Fm.refl.trans h715).same h834).same h836).same h840), (h840 _ _ (h836 _ _ (h834 _ _ h716))), (h840 _ _ (h836 _ _ (h834 _ _ h717))), (h840 _ _ (h836 _ _ (h834 _ _ h718))), (h840 _ _ (h836 _ _ (h834 _ _ h719))), (h840 _ _ (h836 _ _ (h834 _ _ h720))), (h840 _ _ (h836 _ _ (h834 _ _ h721))), (h840 _ _ (h836 _ _ (h834 _ _ h722))), (h840 _ _ (h836 _ _ (h834 _ _ h723))), (h840 _ _ (h836 _ _ (h834 _ _ h724))), trivial⟩
                      · refine fun t_52 h842 Hn_245 h843 => ?_
                        refine ⟨rfl, ?_⟩
                        refine ⟨rfl, ?_⟩
                        refine ⟨_, rfl, ?_⟩
                        refine Ow.ifneb (fun h844 => ?_) (fun h844 => ?_)
                        · try simp only [decide_eq_true_eq, V.int.injEq] at h844
                          exact ((by (subst_vars; first | exact h844 Iff.rfl | exact h844 trivial | exact h844 (Iff.trans (by assumption : _ = true ↔ Ow.Right _ _ _) (Iff.symm (by assumption : _ = true ↔ Ow.AllR _ _ _ _ _ _))) | exact Ow.no_T h844 (by assumption) (by assumption) | exact Ow.no_a h844 (by assumption) (by assumption) | exact Ow.no_b h844 (by assumption) (by assumption) | exact Ow.no_c h844 (by assumption) (by assumption) | exact h844 (Iff.trans (by assumption : _ = true ↔ Ow.WrongF _ _ _ _) (Iff.symm (by assumption : _ = true ↔ Ow.LwR _ _ _ _ _ _ _))))) : False).elim
                        · try simp only [decide_eq_true_eq, V.int.injEq] at h844
                          exact ⟨_, _, _, _, _, rfl, ((((Ow.Fm.refl.trans h715).same h834).same h836).same h843), (h843 _ _ (h836 _ _ (h834 _ _ h716))), (h843 _ _ (h836 _ _ (h834 _ _ h717))), (h843 _ _ (h836 _ _ (h834 _ _ h718))), (h843 _ _ (h836 _ _ (h834 _ _ h719))), (h843 _ _ (h836 _ _ (h834 _ _ h720))), (h843 _ _ (h836 _ _ (h834 _ _ h721))), (h843 _ _ (h836 _ _ (h834 _ _ h722))), (h843 _ _ (h836 _ _ (h834 _ _ h723))), (h843 _ _ (h836 _ _ (h834 _ _ h724))), trivial⟩
                    · refine iteF ?_
                      exact ⟨_, _, _, _, _, rfl, (((Ow.Fm.refl.trans h715).same h834).same h836), (h836 _ _ (h834 _ _ h716)), (h836 _ _ (h834 _ _ h717)), (h836 _ _ (h834 _ _ h718)), (h836 _ _ (h834 _ _ h719)), (h836 _ _ (h834 _ _ h720)), (h836 _ _ (h834 _ _ h721)), (h836 _ _ (h834 _ _ h722)), (h836 _ _ (h834 _ _ h723)), (h836 _ _ (h834 _ _ h724)), trivial⟩
                · refine ⟨_, rfl, ?_⟩
                  refine ⟨_, rfl, rfl, (by first | (walk_at "o2")), fun B_71 h_B_71 h0_B_71 => ?_⟩
                  refine ⟨_, _, rfl, rfl, ?_⟩
                  refine ⟨_, rfl, ?_⟩
                  refine ⟨_, rfl, ?_⟩
                  refine ⟨_, rfl, ?_⟩
                  refine Or.inr (Or.inl ?_)
                  refine ⟨_, _, _, _, _, _, _, _, rfl, (by first | (walk_at "o2")), (by first | (walk_at "o2")), (by first | (walk_at "o2")), (by first | (walk_at "o2")), h718, (by first | (walk_at "o2")), (by first | (walk_at "o2")), (by first | (walk_at "o2")), (by first | (walk_at "o2")), (by first | (walk_at "o2")), (by first | (walk_at "o2")), (by first | (walk_at "o2")), (by first | (walk_at "o2")), (by first | (walk_at "o2")), fun l_due_41 h845 Hn_246 h846 => ?_⟩
                  refine Ow.gnmS (σ' := [_, _, _, _, _, _, _, _, _, _, _, _]) rfl ?_
                  refine ⟨_, rfl, ?_⟩
                  refine ⟨_, rfl, ?_⟩
                  refine ⟨_, rfl, ?_⟩
                  refine ⟨_, rfl, ?_⟩
                  refine Or.inr (Or.inl ?_)
                  refine ⟨_, _, _, _, fm, _, rfl, (by first | (walk_at "o2")), (by first | (walk_at "o2")), (by first | (walk_at "o2")), (by first | (walk_at "o2")), (h846 _ _ h719), (by first | (walk_at "o2")), (by first | (walk_at "o2")), fun l_found_41 h847 Hn_247 h848 => ?_⟩
                  refine Ow.gnmS (σ' := [_, _, _, _, _, _, _, _, _, _, _, _]) rfl ?_
                  refine ⟨_, rfl, ?_⟩
                  refine ⟨_, _, _, _, true, rfl, .ty _, .base (.bl _), kit_ty (by decide +kernel), ?_⟩
                  refine ⟨_, rfl, ?_⟩
                  refine iteF ?_
                  refine ⟨_, rfl, ?_⟩
                  refine ⟨_, rfl, ?_⟩
                  refine ⟨rfl, ?_⟩
                  refine ⟨_, rfl, ?_⟩
                  refine Ow.ifneb (fun h849 => ?_) (fun h849 => ?_)
                  · try simp only [decide_eq_true_eq, V.int.injEq] at h849
                    exact ((by (subst_vars; first | exact h849 Iff.rfl | exact h849 trivial | exact h849 (Iff.trans (by assumption : _ = true ↔ Ow.Right _ _ _) (Iff.symm (by assumption : _ = true ↔ Ow.AllR _ _ _ _ _ _))) | exact Ow.no_T h849 (by assumption) (by assumption) | exact Ow.no_a h849 (by assumption) (by assumption) | exact Ow.no_b h849 (by assumption) (by assumption) | exact Ow.no_c h849 (by assumption) (by assumption) | exact h849 (Iff.trans (by assumption : _ = true ↔ Ow.WrongF _ _ _ _) (Iff.symm (by assumption : _ = true ↔ Ow.LwR _ _ _ _ _ _ _))))) : False).elim
                  · try simp only [decide_eq_true_eq, V.int.injEq] at h849
                    refine ⟨_, rfl, ?_⟩
                    refine ⟨_, _, rfl, rfl, ?_⟩
                    refine ⟨_, rfl, ?_⟩
                    refine Ow.ifd (fun h850 => ?_) (fun h850 => ?_)
                    · refine ⟨_, rfl, ?_⟩
                      refine ⟨rfl, ?_⟩
                      refine ⟨_, rfl, ?_⟩
                      refine iteF ?_
                      refine ⟨_, rfl, ?_⟩
                      refine Or.inl ?_
                      refine ⟨_, rfl, ?_⟩
                      refine ⟨_, rfl, ?_⟩
                      refine iteT ?_
                      refine ⟨_, rfl, ?_⟩
                      refine ⟨_, rfl, ?_⟩
                      refine ⟨_, rfl, ?_⟩
                      refine ⟨_, rfl, ?_⟩
                      refine ⟨_, rfl, ?_⟩
                      refine ⟨_, _, _, _, _, _, _, rfl, (by first | (walk_at "o2")), (by first | (walk_at "o2")), (by first | (walk_at "o2")), (by first | (walk_at "o2")), (h848 _ _ (h846 _ _ h718)), (by first | (walk_at "o2")), (by first | (walk_at "o2")), (by first | (walk_at "o2")), (by first | (walk_at "o2")), (by first | (walk_at "o2")), (by first | (walk_at "o2")), (by first | (walk_at "o2")), (by first | (walk_at "o2")), (by first | (walk_at "o2")), ?_, ?_⟩
                      · refine fun h851 Hn_248 h852 => ?_
                        refine ⟨rfl, ?_⟩
                        refine ⟨rfl, ?_⟩
                        refine ⟨_, rfl, ?_⟩
                        refine Ow.ifneb (fun h853 => ?_) (fun h853 => ?_)
                        · try simp only [decide_eq_true_eq, V.int.injEq] at h853
                          exact ((by (subst_vars; first | exact h853 Iff.rfl | exact h853 trivial | exact h853 (Iff.trans (by assumption : _ = true ↔ Ow.Right _ _ _) (Iff.symm (by assumption : _ = true ↔ Ow.AllR _ _ _ _ _ _))) | exact Ow.no_T h853 (by assumption) (by assumption) | exact Ow.no_a h853 (by assumption) (by assumption) | exact Ow.no_b h853 (by assumption) (by assumption) | exact Ow.no_c h853 (by assumption) (by assumption) | exact h853 (Iff.trans (by assumption : _ = true ↔ Ow.WrongF _ _ _ _) (Iff.symm (by assumption : _ = true ↔ Ow.LwR _ _ _ _ _ _ _))))) : False).elim
                        · try simp only [decide_eq_true_eq, V.int.injEq] at h853
                          exact ⟨_, _, _, _, _, rfl, ((((Ow.Fm.refl.trans h715).same h846).same h848).same h852), (h852 _ _ (h848 _ _ (h846 _ _ h716))), (h852 _ _ (h848 _ _ (h846 _ _ h717))), (h852 _ _ (h848 _ _ (h846 _ _ h718))), (h852 _ _ (h848 _ _ (h846 _ _ h719))), (h852 _ _ (h848 _ _ (h846 _ _ h720))), (h852 _ _ (h848 _ _ (h846 _ _ h721))), (h852 _ _ (h848 _ _ (h846 _ _ h722))), (h852 _ _ (h848 _ _ (h846 _ _ h723))), (h852 _ _ (h848 _ _ (h846 _ _ h724))), trivial⟩
                      · refine fun t_53 h854 Hn_249 h855 => ?_
                        refine ⟨rfl, ?_⟩
                        refine ⟨rfl, ?_⟩
                        refine ⟨_, rfl, ?_⟩
                        refine Ow.ifneb (fun h856 => ?_) (fun h856 => ?_)
                        · try simp only [decide_eq_true_eq, V.int.injEq] at h856
                          exact ((by (subst_vars; first | exact h856 Iff.rfl | exact h856 trivial | exact h856 (Iff.trans (by assumption : _ = true ↔ Ow.Right _ _ _) (Iff.symm (by assumption : _ = true ↔ Ow.AllR _ _ _ _ _ _))) | exact Ow.no_T h856 (by assumption) (by assumption) | exact Ow.no_a h856 (by assumption) (by assumption) | exact Ow.no_b h856 (by assumption) (by assumption) | exact Ow.no_c h856 (by assumption) (by assumption) | exact h856 (Iff.trans (by assumption : _ = true ↔ Ow.WrongF _ _ _ _) (Iff.symm (by assumption : _ = true ↔ Ow.LwR _ _ _ _ _ _ _))))) : False).elim
                        · try simp only [decide_eq_true_eq, V.int.injEq] at h856
                          exact ⟨_, _, _, _, _, rfl, ((((Ow.Fm.refl.trans h715).same h846).same h848).same h855), (h855 _ _ (h848 _ _ (h846 _ _ h716))), (h855 _ _ (h848 _ _ (h846 _ _ h717))), (h855 _ _ (h848 _ _ (h846 _ _ h718))), (h855 _ _ (h848 _ _ (h846 _ _ h719))), (h855 _ _ (h848 _ _ (h846 _ _ h720))), (h855 _ _ (h848 _ _ (h846 _ _ h721))), (h855 _ _ (h848 _ _ (h846 _ _ h722))), (h855 _ _ (h848 _ _ (h846 _ _ h723))), (h855 _ _ (h848 _ _ (h846 _ _ h724))), trivial⟩
                    · refine iteF ?_
                      exact ⟨_, _, _, _, _, rfl, (((Ow.Fm.refl.trans h715).same h846).same h848), (h848 _ _ (h846 _ _ h716)), (h848 _ _ (h846 _ _ h717)), (h848 _ _ (h846 _ _ h718)), (h848 _ _ (h846 _ _ h719)), (h848 _ _ (h846 _ _ h720)), (h848 _ _ (h846 _ _ h721)), (h848 _ _ (h846 _ _ h722)), (h848 _ _ (h846 _ _ h723)), (h848 _ _ (h846 _ _ h724)), trivial⟩
                · refine ⟨_, rfl, ?_⟩
                  refine ⟨_, rfl, rfl, (by first | (walk_at "o2")), fun B_72 h_B_72 h0_B_72 => ?_⟩
                  refine ⟨_, _, rfl, rfl, ?_⟩
                  refine ⟨_, rfl, ?_⟩
                  refine ⟨_, rfl, ?_⟩
                  refine ⟨_, rfl, ?_⟩
                  refine Or.inr (Or.inl ?_)
                  refine ⟨_, _, _, _, _, _, _, _, rfl, (by first | (walk_at "o2")), (by first | (walk_at "o2")), (by first | (walk_at "o2")), (by first | (walk_at "o2")), h718, (by first | (walk_at "o2")), (by first | (walk_at "o2")), (by first | (walk_at "o2")), (by first | (walk_at "o2")), (by first | (walk_at "o2")), (by first | (walk_at "o2")), (by first | (walk_at "o2")), (by first | (walk_at "o2")), (by first | (walk_at "o2")), fun l_due_42 h857 Hn_250 h858 => ?_⟩
                  refine Ow.gnmS (σ' := [_, _, _, _, _, _, _, _, _, _, _, _]) rfl ?_
                  refine ⟨_, rfl, ?_⟩
                  refine ⟨_, rfl, ?_⟩
                  refine ⟨_, rfl, ?_⟩
                  refine ⟨_, rfl, ?_⟩
                  refine Or.inr (Or.inl ?_)
                  refine ⟨_, _, _, _, fm, _, rfl, (by first | (walk_at "o2")), (by first | (walk_at "o2")), (by first | (walk_at "o2")), (by first | (walk_at "o2")), (h858 _ _ h719), (by first | (walk_at "o2")), (by first | (walk_at "o2")), fun l_found_42 h859 Hn_251 h860 => ?_⟩
                  refine Ow.gnmS (σ' := [_, _, _, _, _, _, _, _, _, _, _, _]) rfl ?_
                  refine ⟨_, rfl, ?_⟩
                  refine ⟨_, _, _, _, true, rfl, .ty _, .base (.bl _), kit_ty (by decide +kernel), ?_⟩
                  refine ⟨_, rfl, ?_⟩
                  refine iteF ?_
                  refine ⟨_, rfl, ?_⟩
                  refine ⟨_, rfl, ?_⟩
                  refine ⟨rfl, ?_⟩
                  refine ⟨_, rfl, ?_⟩
                  refine Ow.ifneb (fun h861 => ?_) (fun h861 => ?_)
                  · try simp only [decide_eq_true_eq, V.int.injEq] at h861
                    exact ((by (subst_vars; first | exact h861 Iff.rfl | exact h861 trivial | exact h861 (Iff.trans (by assumption : _ = true ↔ Ow.Right _ _ _) (Iff.symm (by assumption : _ = true ↔ Ow.AllR _ _ _ _ _ _))) | exact Ow.no_T h861 (by assumption) (by assumption) | exact Ow.no_a h861 (by assumption) (by assumption) | exact Ow.no_b h861 (by assumption) (by assumption) | exact Ow.no_c h861 (by assumption) (by assumption) | exact h861 (Iff.trans (by assumption : _ = true ↔ Ow.WrongF _ _ _ _) (Iff.symm (by assumption : _ = true ↔ Ow.LwR _ _ _ _ _ _ _))))) : False).elim
                  · try simp only [decide_eq_true_eq, V.int.injEq] at h861
                    refine ⟨_, rfl, ?_⟩
                    refine ⟨_, _, rfl, rfl, ?_⟩
                    refine ⟨_, rfl, ?_⟩
                    refine Ow.ifd (fun h862 => ?_) (fun h862 => ?_)
                    · refine ⟨_, rfl, ?_⟩
                      refine ⟨rfl, ?_⟩
                      refine ⟨_, rfl, ?_⟩
                      refine iteF ?_
                      refine ⟨_, rfl, ?_⟩
                      refine Or.inl ?_
                      refine ⟨_, rfl, ?_⟩
                      refine ⟨_, rfl, ?_⟩
                      refine iteT ?_
                      refine ⟨_, rfl, ?_⟩
                      refine ⟨_, rfl, ?_⟩
                      refine ⟨_, rfl, ?_⟩
                      refine ⟨_, rfl, ?_⟩
                      refine ⟨_, rfl, ?_⟩
                      refine ⟨_, _, _, _, _, _, _, rfl, (by first | (walk_at "o2")), (by first | (walk_at "o2")), (by first | (walk_at "o2")), (by first | (walk_at "o2")), (h860 _ _ (h858 _ _ h718)), (by first | (walk_at "o2")), (by first | (walk_at "o2")), (by first | (walk_at "o2")), (by first | (walk_at "o2")), (by first | (walk_at "o2")), (by first | (walk_at "o2")), (by first | (walk_at "o2")), (by first | (walk_at "o2")), (by first | (walk_at "o2")), ?_, ?_⟩
                      · refine fun h863 Hn_252 h864 => ?_
                        refine ⟨rfl, ?_⟩
                        refine ⟨rfl, ?_⟩
                        refine ⟨_, rfl, ?_⟩
                        refine Ow.ifneb (fun h865 => ?_) (fun h865 => ?_)
                        · try simp only [decide_eq_true_eq, V.int.injEq] at h865
                          exact ((by (subst_vars; first | exact h865 Iff.rfl | exact h865 trivial | exact h865 (Iff.trans (by assumption : _ = true ↔ Ow.Right _ _ _) (Iff.symm (by assumption : _ = true ↔ Ow.AllR _ _ _ _ _ _))) | exact Ow.no_T h865 (by assumption) (by assumption) | exact Ow.no_a h865 (by assumption) (by assumption) | exact Ow.no_b h865 (by assumption) (by assumption) | exact Ow.no_c h865 (by assumption) (by assumption) | exact h865 (Iff.trans (by assumption : _ = true ↔ Ow.WrongF _ _ _ _) (Iff.symm (by assumption : _ = true ↔ Ow.LwR _ _ _ _ _ _ _))))) : False).elim
                        · try simp only [decide_eq_true_eq, V.int.injEq] at h865
                          exact ⟨_, _, _, _, _, rfl, ((((Ow.Fm.refl.trans h715).same h858).same h860).same h864), (h864 _ _ (h860 _ _ (h858 _ _ h716))), (h864 _ _ (h860 _ _ (h858 _ _ h717))), (h864 _ _ (h860 _ _ (h858 _ _ h718))), (h864 _ _ (h860 _ _ (h858 _ _ h719))), (h864 _ _ (h860 _ _ (h858 _ _ h720))), (h864 _ _ (h860 _ _ (h858 _ _ h721))), (h864 _ _ (h860 _ _ (h858 _ _ h722))), (h864 _ _ (h860 _ _ (h858 _ _ h723))), (h864 _ _ (h860 _ _ (h858 _ _ h724))), trivial⟩
                      · refine fun t_54 h866 Hn_253 h867 => ?_
                        refine ⟨rfl, ?_⟩
                        refine ⟨rfl, ?_⟩
                        refine ⟨_, rfl, ?_⟩
                        refine Ow.ifneb (fun h868 => ?_) (fun h868 => ?_)
                        · try simp only [decide_eq_true_eq, V.int.injEq] at h868
                          exact ((by (subst_vars; first | exact h868 Iff.rfl | exact h868 trivial | exact h868 (Iff.trans (by assumption : _ = true ↔ Ow.Right _ _ _) (Iff.symm (by assumption : _ = true ↔ Ow.AllR _ _ _ _ _ _))) | exact Ow.no_T h868 (by assumption) (by assumption) | exact Ow.no_a h868 (by assumption) (by assumption) | exact Ow.no_b h868 (by assumption) (by assumption) | exact Ow.no_c h868 (by assumption) (by assumption) | exact h868 (Iff.trans (by assumption : _ = true ↔ Ow.WrongF _ _ _ _) (Iff.symm (by assumption : _ = true ↔ Ow.LwR _ _ _ _ _ _ _))))) : False).elim
                        · try simp only [decide_eq_true_eq, V.int.injEq] at h868
                          exact ⟨_, _, _, _, _, rfl, ((((Ow.Fm.refl.trans h715).same h858).same h860).same h867), (h867 _ _ (h860 _ _ (h858 _ _ h716))), (h867 _ _ (h860 _ _ (h858 _ _ h717))), (h867 _ _ (h860 _ _ (h858 _ _ h718))), (h867 _ _ (h860 _ _ (h858 _ _ h719))), (h867 _ _ (h860 _ _ (h858 _ _ h720))), (h867 _ _ (h860 _ _ (h858 _ _ h721))), (h867 _ _ (h860 _ _ (h858 _ _ h722))), (h867 _ _ (h860 _ _ (h858 _ _ h723))), (h867 _ _ (h860 _ _ (h858 _ _ h724))), trivial⟩
                    · refine iteF ?_
                      exact ⟨_, _, _, _, _, rfl, (((Ow.Fm.refl.trans h715).same h858).same h860), (h860 _ _ (h858 _ _ h716)), (h860 _ _ (h858 _ _ h717)), (h860 _ _ (h858 _ _ h718)), (h860 _ _ (h858 _ _ h719)), (h860 _ _ (h858 _ _ h720)), (h860 _ _ (h858 _ _ h721)), (h860 _ _ (h858 _ _ h722)), (h860 _ _ (h858 _ _ h723)), (h860 _ _ (h858 _ _ h724)), trivial⟩
                · refine ⟨_, rfl, ?_⟩
                  refine ⟨_, rfl, rfl, (by first | (walk_at "o2")), fun B_73 h_B_73 h0_B_73 => ?_⟩
                  refine ⟨_, _, rfl, rfl, ?_⟩
                  refine ⟨_, rfl, ?_⟩
                  refine ⟨_, rfl, ?_⟩
                  refine ⟨_, rfl, ?_⟩
                  refine Or.inr (Or.inl ?_)
                  refine ⟨_, _, _, _, _, _, _, _, rfl, (by first | (walk_at "o2")), (by first | (walk_at "o2")), (by first | (walk_at "o2")), (by first | (walk_at "o2")), h718, (by first | (walk_at "o2")), (by first | (walk_at "o2")), (by first | (walk_at "o2")), (by first | (walk_at "o2")), (by first | (walk_at "o2")), (by first | (walk_at "o2")), (by first | (walk_at "o2")), (by first | (walk_at "o2")), (by first | (walk_at "o2")), fun l_due_43 h869 Hn_254 h870 => ?_⟩
                  refine Ow.gnmS (σ' := [_, _, _, _, _, _, _, _, _, _, _, _]) rfl ?_
                  refine ⟨_, rfl, ?_⟩
                  refine ⟨_, rfl, ?_⟩
                  refine ⟨_, rfl, ?_⟩
                  refine ⟨_, rfl, ?_⟩
                  refine Or.inr (Or.inl ?_)
                  refine ⟨_, _, _, _, fm, _, rfl, (by first | (walk_at "o2")), (by first | (walk_at "o2")), (by first | (walk_at "o2")), (by first | (walk_at "o2")), (h870 _ _ h719), (by first | (walk_at "o2")), (by first | (walk_at "o2")), fun l_found_43 h871 Hn_255 h872 => ?_⟩
                  refine Ow.gnmS (σ' := [_, _, _, _, _, _, _, _, _, _, _, _]) rfl ?_
                  refine ⟨_, rfl, ?_⟩
                  refine ⟨_, _, _, _, true, rfl, .ty _, .base (.bl _), kit_ty (by decide +kernel), ?_⟩
                  refine ⟨_, rfl, ?_⟩
                  refine iteF ?_
                  refine ⟨_, rfl, ?_⟩
                  refine ⟨_, rfl, ?_⟩
                  refine ⟨rfl, ?_⟩
                  refine ⟨_, rfl, ?_⟩
                  refine Ow.ifneb (fun h873 => ?_) (fun h873 => ?_)
                  · try simp only [decide_eq_true_eq, V.int.injEq] at h873
                    exact ((by (subst_vars; first | exact h873 Iff.rfl | exact h873 trivial | exact h873 (Iff.trans (by assumption : _ = true ↔ Ow.Right _ _ _) (Iff.symm (by assumption : _ = true ↔ Ow.AllR _ _ _ _ _ _))) | exact Ow.no_T h873 (by assumption) (by assumption) | exact Ow.no_a h873 (by assumption) (by assumption) | exact Ow.no_b h873 (by assumption) (by assumption) | exact Ow.no_c h873 (by assumption) (by assumption) | exact h873 (Iff.trans (by assumption : _ = true ↔ Ow.WrongF _ _ _ _) (Iff.symm (by assumption : _ = true ↔ Ow.LwR _ _ _ _ _ _ _))))) : False).elim
                  · try simp only [decide_eq_true_eq, V.int.injEq] at h873
                    refine ⟨_, rfl, ?_⟩
                    refine ⟨_, _, rfl, rfl, ?_⟩
                    refine ⟨_, rfl, ?_⟩
                    refine Ow.ifd (fun h874 => ?_) (fun h874 => ?_)
                    · refine ⟨_, rfl, ?_⟩
                      refine ⟨rfl, ?_⟩
                      refine ⟨_, rfl, ?_⟩
                      refine iteF ?_
                      refine ⟨_, rfl, ?_⟩
                      refine Or.inl ?_
                      refine ⟨_, rfl, ?_⟩
                      refine ⟨_, rfl, ?_⟩
                      refine iteT ?_
                      refine ⟨_, rfl, ?_⟩
                      refine ⟨_, rfl, ?_⟩
                      refine ⟨_, rfl, ?_⟩
                      refine ⟨_, rfl, ?_⟩
                      refine ⟨_, rfl, ?_⟩
                      refine ⟨_, _, _, _, _, _, _, rfl, (by first | (walk_at "o2")), (by first | (walk_at "o2")), (by first | (walk_at "o2")), (by first | (walk_at "o2")), (h872 _ _ (h870 _ _ h718)), (by first | (walk_at "o2")), (by first | (walk_at "o2")), (by first | (walk_at "o2")), (by first | (walk_at "o2")), (by first | (walk_at "o2")), (by first | (walk_at "o2")), (by first | (walk_at "o2")), (by first | (walk_at "o2")), (by first | (walk_at "o2")), ?_, ?_⟩
                      · refine fun h875 Hn_256 h876 => ?_
                        refine ⟨rfl, ?_⟩
                        refine ⟨rfl, ?_⟩
                        refine ⟨_, rfl, ?_⟩
                        refine Ow.ifneb (fun h877 => ?_) (fun h877 => ?_)
                        · try simp only [decide_eq_true_eq, V.int.injEq] at h877
                          exact ((by (subst_vars; first | exact h877 Iff.rfl | exact h877 trivial | exact h877 (Iff.trans (by assumption : _ = true ↔ Ow.Right _ _ _) (Iff.symm (by assumption : _ = true ↔ Ow.AllR _ _ _ _ _ _))) | exact Ow.no_T h877 (by assumption) (by assumption) | exact Ow.no_a h877 (by assumption) (by assumption) | exact Ow.no_b h877 (by assumption) (by assumption) | exact Ow.no_c h877 (by assumption) (by assumption) | exact h877 (Iff.trans (by assumption : _ = true ↔ Ow.WrongF _ _ _ _) (Iff.symm (by assumption : _ = true ↔ Ow.LwR _ _ _ _ _ _ _))))) : False).elim
                        · try simp only [decide_eq_true_eq, V.int.injEq] at h877
                          exact ⟨_, _, _, _, _, rfl, ((((Ow.Fm.refl.trans h715).same h870).same h872).same h876), (h876 _ _ (h872 _ _ (h870 _ _ h716))), (h876 _ _ (h872 _ _ (h870 _ _ h717))), (h876 _ _ (h872 _ _ (h870 _ _ h718))), (h876 _ _ (h872 _ _ (h870 _ _ h719))), (h876 _ _ (h872 _ _ (h870 _ _ h720))), (h876 _ _ (h872 _ _ (h870 _ _ h721))), (h876 _ _ (h872 _ _ (h870 _ _ h722))), (h876 _ _ (h872 _ _ (h870 _ _ h723))), (h876 _ _ (h872 _ _ (h870 _ _ h724))), trivial⟩
                      · refine fun t_55 h878 Hn_257 h879 => ?_
                        refine ⟨rfl, ?_⟩
                        refine ⟨rfl, ?_⟩
                        refine ⟨_, rfl, ?_⟩
                        refine Ow.ifneb (fun h880 => ?_) (fun h880 => ?_)
                        · try simp only [decide_eq_true_eq, V.int.injEq] at h880
                          exact ((by (subst_vars; first | exact h880 Iff.rfl | exact h880 trivial | exact h880 (Iff.trans (by assumption : _ = true ↔ Ow.Right _ _ _) (Iff.symm (by assumption : _ = true ↔ Ow.AllR _ _ _ _ _ _))) | exact Ow.no_T h880 (by assumption) (by assumption) | exact Ow.no_a h880 (by assumption) (by assumption) | exact Ow.no_b h880 (by assumption) (by assumption) | exact Ow.no_c h880 (by assumption) (by assumption) | exact h880 (Iff.trans (by assumption : _ = true ↔ Ow.WrongF _ _ _ _) (Iff.symm (by assumption : _ = true ↔ Ow.LwR _ _ _ _ _ _ _))))) : False).elim
                        · try simp only [decide_eq_true_eq, V.int.injEq] at h880
                          exact ⟨_, _, _, _, _, rfl, ((((Ow.Fm.refl.trans h715).same h870).same h872).same h879), (h879 _ _ (h872 _ _ (h870 _ _ h716))), (h879 _ _ (h872 _ _ (h870 _ _ h717))), (h879 _ _ (h872 _ _ (h870 _ _ h718))), (h879 _ _ (h872 _ _ (h870 _ _ h719))), (h879 _ _ (h872 _ _ (h870 _ _ h720))), (h879 _ _ (h872 _ _ (h870 _ _ h721))), (h879 _ _ (h872 _ _ (h870 _ _ h722))), (h879 _ _ (h872 _ _ (h870 _ _ h723))), (h879 _ _ (h872 _ _ (h870 _ _ h724))), trivial⟩
                    · refine iteF ?_
                      exact ⟨_, _, _, _, _, rfl, (((Ow.Fm.refl.trans h715).same h870).same h872), (h872 _ _ (h870 _ _ h716)), (h872 _ _ (h870 _ _ h717)), (h872 _ _ (h870 _ _ h718)), (h872 _ _ (h870 _ _ h719)), (h872 _ _ (h870 _ _ h720)), (h872 _ _ (h870 _ _ h721)), (h872 _ _ (h870 _ _ h722)), (h872 _ _ (h870 _ _ h723)), (h872 _ _ (h870 _ _ h724)), trivial⟩
                · refine ⟨_, rfl, ?_⟩
                  refine ⟨_, rfl, rfl, (by first | (walk_at "o2")), fun B_74 h_B_74 h0_B_74 => ?_⟩
                  refine ⟨_, _, rfl, rfl, ?_⟩
                  refine ⟨_, rfl, ?_⟩
                  refine ⟨_, rfl, ?_⟩
                  refine ⟨_, rfl, ?_⟩
                  refine Or.inr (Or.inl ?_)
                  refine ⟨_, _, _, _, _, _, _, _, rfl, (by first | (walk_at "o2")), (by first | (walk_at "o2")), (by first | (walk_at "o2")), (by first | (walk_at "o2")), h718, (by first | (walk_at "o2")), (by first | (walk_at "o2")), (by first | (walk_at "o2")), (by first | (walk_at "o2")), (by first | (walk_at "o2")), (by first | (walk_at "o2")), (by first | (walk_at "o2")), (by first | (walk_at "o2")), (by first | (walk_at "o2")), fun l_due_44 h881 Hn_258 h882 => ?_⟩
                  refine Ow.gnmS (σ' := [_, _, _, _, _, _, _, _, _, _, _, _]) rfl ?_
                  refine ⟨_, rfl, ?_⟩
                  refine ⟨_, rfl, ?_⟩
                  refine ⟨_, rfl, ?_⟩
                  refine ⟨_, rfl, ?_⟩
                  refine Or.inr (Or.inl ?_)
                  refine ⟨_, _, _, _, fm, _, rfl, (by first | (walk_at "o2")), (by first | (walk_at "o2")), (by first | (walk_at "o2")), (by first | (walk_at "o2")), (h882 _ _ h719), (by first | (walk_at "o2")), (by first | (walk_at "o2")), fun l_found_44 h883 Hn_259 h884 => ?_⟩
                  refine Ow.gnmS (σ' := [_, _, _, _, _, _, _, _, _, _, _, _]) rfl ?_
                  refine ⟨_, rfl, ?_⟩
                  refine ⟨_, _, _, _, true, rfl, .ty _, .base (.bl _), kit_ty (by decide +kernel), ?_⟩
                  refine ⟨_, rfl, ?_⟩
                  refine iteF ?_
                  refine ⟨_, rfl, ?_⟩
                  refine ⟨_, rfl, ?_⟩
                  refine ⟨rfl, ?_⟩
                  refine ⟨_, rfl, ?_⟩
                  refine Ow.ifneb (fun h885 => ?_) (fun h885 => ?_)
                  · try simp only [decide_eq_true_eq, V.int.injEq] at h885
                    exact ((by (subst_vars; first | exact h885 Iff.rfl | exact h885 trivial | exact h885 (Iff.trans (by assumption : _ = true ↔ Ow.Right _ _ _) (Iff.symm (by assumption : _ = true ↔ Ow.AllR _ _ _ _ _ _))) | exact Ow.no_T h885 (by assumption) (by assumption) | exact Ow.no_a h885 (by assumption) (by assumption) | exact Ow.no_b h885 (by assumption) (by assumption) | exact Ow.no_c h885 (by assumption) (by assumption) | exact h885 (Iff.trans (by assumption : _ = true ↔ Ow.WrongF _ _ _ _) (Iff.symm (by assumption : _ = true ↔ Ow.LwR _ _ _ _ _ _ _))))) : False).elim
                  · try simp only [decide_eq_true_eq, V.int.injEq] at h885
                    refine ⟨_, rfl, ?_⟩
                    refine ⟨_, _, rfl, rfl, ?_⟩
                    refine ⟨_, rfl, ?_⟩
                    refine Ow.ifd (fun h886 => ?_) (fun h886 => ?_)
                    · refine ⟨_, rfl, ?_⟩
                      refine ⟨rfl, ?_⟩
                      refine ⟨_, rfl, ?_⟩
                      refine iteF ?_
                      refine ⟨_, rfl, ?_⟩
                      refine Or.inl ?_
                      refine ⟨_, rfl, ?_⟩
                      refine ⟨_, rfl, ?_⟩
                      refine iteT ?_
                      refine ⟨_, rfl, ?_⟩
                      refine ⟨_, rfl, ?_⟩
                      refine ⟨_, rfl, ?_⟩
                      refine ⟨_, rfl, ?_⟩
                      refine ⟨_, rfl, ?_⟩
                      refine ⟨_, _, _, _, _, _, _, rfl, (by first | (walk_at "o2")), (by first | (walk_at "o2")), (by first | (walk_at "o2")), (by first | (walk_at "o2")), (h884 _ _ (h882 _ _ h718)), (by first | (walk_at "o2")), (by first | (walk_at "o2")), (by first | (walk_at "o2")), (by first | (walk_at "o2")), (by first | (walk_at "o2")), (by first | (walk_at "o2")), (by first | (walk_at "o2")), (by first | (walk_at "o2")), (by first | (walk_at "o2")), ?_, ?_⟩
                      · refine fun h887 Hn_260 h888 => ?_
                        refine ⟨rfl, ?_⟩
                        refine ⟨rfl, ?_⟩
                        refine ⟨_, rfl, ?_⟩
                        refine Ow.ifneb (fun h889 => ?_) (fun h889 => ?_)
                        · try simp only [decide_eq_true_eq, V.int.injEq] at h889
                          exact ((by (subst_vars; first | exact h889 Iff.rfl | exact h889 trivial | exact h889 (Iff.trans (by assumption : _ = true ↔ Ow.Right _ _ _) (Iff.symm (by assumption : _ = true ↔ Ow.AllR _ _ _ _ _ _))) | exact Ow.no_T h889 (by assumption) (by assumption) | exact Ow.no_a h889 (by assumption) (by assumption) | exact Ow.no_b h889 (by assumption) (by assumption) | exact Ow.no_c h889 (by assumption) (by assumption) | exact h889 (Iff.trans (by assumption : _ = true ↔ Ow.WrongF _ _ _ _) (Iff.symm (by assumption : _ = true ↔ Ow.LwR _ _ _ _ _ _ _))))) : False).elim
                        · try simp only [decide_eq_true_eq, V.int.injEq] at h889
                          exact ⟨_, _, _, _, _, rfl, ((((Ow.Fm.refl.trans h715).same h882).same h884).same h888), (h888 _ _ (h884 _ _ (h882 _ _ h716))), (h888 _ _ (h884 _ _ (h882 _ _ h717))), (h888 _ _ (h884 _ _ (h882 _ _ h718))), (h888 _ _ (h884 _ _ (h882 _ _ h719))), (h888 _ _ (h884 _ _ (h882 _ _ h720))), (h888 _ _ (h884 _ _ (h882 _ _ h721))), (h888 _ _ (h884 _ _ (h882 _ _ h722))), (h888 _ _ (h884 _ _ (h882 _ _ h723))), (h888 _ _ (h884 _ _ (h882 _ _ h724))), trivial⟩
                      · refine fun t_56 h890 Hn_261 h891 => ?_
                        refine ⟨rfl, ?_⟩
                        refine ⟨rfl, ?_⟩
                        refine ⟨_, rfl, ?_⟩
                        refine Ow.ifneb (fun h892 => ?_) (fun h892 => ?_)
                        · try simp only [decide_eq_true_eq, V.int.injEq] at h892
                          exact ((by (subst_vars; first | exact h892 Iff.rfl | exact h892 trivial | exact h892 (Iff.trans (by assumption : _ = true ↔ Ow.Right _ _ _) (Iff.symm (by assumption : _ = true ↔ Ow.AllR _ _ _ _ _ _))) | exact Ow.no_T h892 (by assumption) (by assumption) | exact Ow.no_a h892 (by assumption) (by assumption) | exact Ow.no_b h892 (by assumption) (by assumption) | exact Ow.no_c h892 (by assumption) (by assumption) | exact h892 (Iff.trans (by assumption : _ = true ↔ Ow.WrongF _ _ _ _) (Iff.symm (by assumption : _ = true ↔ Ow.LwR _ _ _ _ _ _ _))))) : False).elim
                        · try simp only [decide_eq_true_eq, V.int.injEq] at h892
                          exact ⟨_, _, _, _, _, rfl, ((((Ow.Fm.refl.trans h715).same h882).same h884).same h891), (h891 _ _ (h884 _ _ (h882 _ _ h716))), (h891 _ _ (h884 _ _ (h882 _ _ h717))), (h891 _ _ (h884 _ _ (h882 _ _ h718))), (h891 _ _ (h884 _ _ (h882 _ _ h719))), (h891 _ _ (h884 _ _ (h882 _ _ h720))), (h891 _ _ (h884 _ _ (h882 _ _ h721))), (h891 _ _ (h884 _ _ (h882 _ _ h722))), (h891 _ _ (h884 _ _ (h882 _ _ h723))), (h891 _ _ (h884 _ _ (h882 _ _ h724))), trivial⟩
                    · refine iteF ?_
                      exact ⟨_, _, _, _, _, rfl, (((Ow.Fm.refl.trans h715).same h882).same h884), (h884 _ _ (h882 _ _ h716)), (h884 _ _ (h882 _ _ h717)), (h884 _ _ (h882 _ _ h718)), (h884 _ _ (h882 _ _ h719)), (h884 _ _ (h882 _ _ h720)), (h884 _ _ (h882 _ _ h721)), (h884 _ _ (h882 _ _ h722)), (h884 _ _ (h882 _ _ h723)), (h884 _ _ (h882 _ _ h724)), trivial⟩
                · refine ⟨_, rfl, ?_⟩
                  refine ⟨_, rfl, rfl, (by first | (walk_at "o2")), fun B_75 h_B_75 h0_B_75 => ?_⟩
                  refine ⟨_, _, rfl, rfl, ?_⟩
                  refine ⟨_, rfl, ?_⟩
                  refine ⟨_, rfl, ?_⟩
                  refine ⟨_, rfl, ?_⟩
                  refine Or.inr (Or.inl ?_)
                  refine ⟨_, _, _, _, _, _, _, _, rfl, (by first | (walk_at "o2")), (by first | (walk_at "o2")), (by first | (walk_at "o2")), (by first | (walk_at "o2")), h718, (by first | (walk_at "o2")), (by first | (walk_at "o2")), (by first | (walk_at "o2")), (by first | (walk_at "o2")), (by first | (walk_at "o2")), (by first | (walk_at "o2")), (by first | (walk_at "o2")), (by first | (walk_at "o2")), (by first | (walk_at "o2")), fun l_due_45 h893 Hn_262 h894 => ?_⟩
                  refine Ow.gnmS (σ' := [_, _, _, _, _, _, _, _, _, _, _, _]) rfl ?_
                  refine ⟨_, rfl, ?_⟩
                  refine ⟨_, rfl, ?_⟩
                  refine ⟨_, rfl, ?_⟩
                  refine ⟨_, rfl, ?_⟩
                  refine Or.inr (Or.inl ?_)
                  refine ⟨_, _, _, _, fm, _, rfl, (by first | (walk_at "o2")), (by first | (walk_at "o2")), (by first | (walk_at "o2")), (by first | (walk_at "o2")), (h894 _ _ h719), (by first | (walk_at "o2")), (by first | (walk_at "o2")), fun l_found_45 h895 Hn_263 h896 => ?_⟩
                  refine Ow.gnmS (σ' := [_, _, _, _, _, _, _, _, _, _, _, _]) rfl ?_
                  refine ⟨_, rfl, ?_⟩
                  refine ⟨_, _, _, _, true, rfl, .ty _, .base (.bl _), kit_ty (by decide +kernel), ?_⟩
                  refine ⟨_, rfl, ?_⟩
                  refine iteF ?_
                  refine ⟨_, rfl, ?_⟩
                  refine ⟨_, rfl, ?_⟩
                  refine ⟨rfl, ?_⟩
                  refine ⟨_, rfl, ?_⟩
                  refine Ow.ifneb (fun h897 => ?_) (fun h897 => ?_)
                  · try simp only [decide_eq_true_eq, V.int.injEq] at h897
                    exact ((by (subst_vars; first | exact h897 Iff.rfl | exact h897 trivial | exact h897 (Iff.trans (by assumption : _ = true ↔ Ow.Right _ _ _) (Iff.symm (by assumption : _ = true ↔ Ow.AllR _ _ _ _ _ _))) | exact Ow.no_T h897 (by assumption) (by assumption) | exact Ow.no_a h897 (by assumption) (by assumption) | exact Ow.no_b h897 (by assumption) (by assumption) | exact Ow.no_c h897 (by assumption) (by assumption) | exact h897 (Iff.trans (by assumption : _ = true ↔ Ow.WrongF _ _ _ _) (Iff.symm (by assumption : _ = true ↔ Ow.LwR _ _ _ _ _ _ _))))) : False).elim
                  · try simp only [decide_eq_true_eq, V.int.injEq] at h897
                    refine ⟨_, rfl, ?_⟩
                    refine ⟨_, _, rfl, rfl, ?_⟩
                    refine ⟨_, rfl, ?_⟩
                    refine Ow.ifd (fun h898 => ?_) (fun h898 => ?_)
                    · refine ⟨_, rfl, ?_⟩
                      refine ⟨rfl, ?_⟩
                      refine ⟨_, rfl, ?_⟩
                      refine iteF ?_
                      refine ⟨_, rfl, ?_⟩
                      refine Or.inl ?_
                      refine ⟨_, rfl, ?_⟩
                      refine ⟨_, rfl, ?_⟩
                      refine iteT ?_
                      refine ⟨_, rfl, ?_⟩
                      refine ⟨_, rfl, ?_⟩
                      refine ⟨_, rfl, ?_⟩
                      refine ⟨_, rfl, ?_⟩
                      refine ⟨_, rfl, ?_⟩
                      refine ⟨_, _, _, _, _, _, _, rfl, (by first | (walk_at "o2")), (by first | (walk_at "o2")), (by first | (walk_at "o2")), (by first | (walk_at "o2")), (h896 _ _ (h894 _ _ h718)), (by first | (walk_at "o2")), (by first | (walk_at "o2")), (by first | (walk_at "o2")), (by first | (walk_at "o2")), (by first | (walk_at "o2")), (by first | (walk_at "o2")), (by first | (walk_at "o2")), (by first | (walk_at "o2")), (by first | (walk_at "o2")), ?_, ?_⟩
                      · refine fun h899 Hn_264 h900 => ?_
                        refine ⟨rfl, ?_⟩
                        refine ⟨rfl, ?_⟩
                        refine ⟨_, rfl, ?_⟩
                        refine Ow.ifneb (fun h901 => ?_) (fun h901 => ?_)
                        · try simp only [decide_eq_true_eq, V.int.injEq] at h901
                          exact ((by (subst_vars; first | exact h901 Iff.rfl | exact h901 trivial | exact h901 (Iff.trans (by assumption : _ = true ↔ Ow.Right _ _ _) (Iff.symm (by assumption : _ = true ↔ Ow.AllR _ _ _ _ _ _))) | exact Ow.no_T h901 (by assumption) (by assumption) | exact Ow.no_a h901 (by assumption) (by assumption) | exact Ow.no_b h901 (by assumption) (by assumption) | exact Ow.no_c h901 (by assumption) (by assumption) | exact h901 (Iff.trans (by assumption : _ = true ↔ Ow.WrongF _ _ _ _) (Iff.symm (by assumption : _ = true ↔ Ow.LwR _ _ _ _ _ _ _))))) : False).elim
                        · try simp only [decide_eq_true_eq, V.int.injEq] at h901
                          exact ⟨_, _, _, _, _, rfl, ((((Ow.Fm.refl.trans h715).same h894).same h896).same h900), (h900 _ _ (h896 _ _ (h894 _ _ h716))), (h900 _ _ (h896 _ _ (h894 _ _ h717))), (h900 _ _ (h896 _ _ (h894 _ _ h718))), (h900 _ _ (h896 _ _ (h894 _ _ h719))), (h900 _ _ (h896 _ _ (h894 _ _ h720))), (h900 _ _ (h896 _ _ (h894 _ _ h721))), (h900 _ _ (h896 _ _ (h894 _ _ h722))), (h900 _ _ (h896 _ _ (h894 _ _ h723))), (h900 _ _ (h896 _ _ (h894 _ _ h724))), trivial⟩
                      · refine fun t_57 h902 Hn_265 h903 => ?_
                        refine ⟨rfl, ?_⟩
                        refine ⟨rfl, ?_⟩
                        refine ⟨_, rfl, ?_⟩
                        refine Ow.ifneb (fun h904 => ?_) (fun h904 => ?_)
                        · try simp only [decide_eq_true_eq, V.int.injEq] at h904
                          exact ((by (subst_vars; first | exact h904 Iff.rfl | exact h904 trivial | exact h904 (Iff.trans (by assumption : _ = true ↔ Ow.Right _ _ _) (Iff.symm (by assumption : _ = true ↔ Ow.AllR _ _ _ _ _ _))) | exact Ow.no_T h904 (by assumption) (by assumption) | exact Ow.no_a h904 (by assumption) (by assumption) | exact Ow.no_b h904 (by assumption) (by assumption) | exact Ow.no_c h904 (by assumption) (by assumption) | exact h904 (Iff.trans (by assumption : _ = true ↔ Ow.WrongF _ _ _ _) (Iff.symm (by assumption : _ = true ↔ Ow.LwR _ _ _ _ _ _ _))))) : False).elim
                        · try simp only [decide_eq_true_eq, V.int.injEq] at h904
                          exact ⟨_, _, _, _, _, rfl, ((((Ow.Fm.refl.trans h715).same h894).same h896).same h903), (h903 _ _ (h896 _ _ (h894 _ _ h716))), (h903 _ _ (h896 _ _ (h894 _ _ h717))), (h903 _ _ (h896 _ _ (h894 _ _ h718))), (h903 _ _ (h896 _ _ (h894 _ _ h719))), (h903 _ _ (h896 _ _ (h894 _ _ h720))), (h903 _ _ (h896 _ _ (h894 _ _ h721))), (h903 _ _ (h896 _ _ (h894 _ _ h722))), (h903 _ _ (h896 _ _ (h894 _ _ h723))), (h903 _ _ (h896 _ _ (h894 _ _ h724))), trivial⟩
                    · refine iteF ?_
                      exact ⟨_, _, _, _, _, rfl, (((Ow.Fm.refl.trans h715).same h894).same h896), (h896 _ _ (h894 _ _ h716)), (h896 _ _ (h894 _ _ h717)), (h896 _ _ (h894 _ _ h718)), (h896 _ _ (h894 _ _ h719)), (h896 _ _ (h894 _ _ h720)), (h896 _ _ (h894 _ _ h721)), (h896 _ _ (h894 _ _ h722)), (h896 _ _ (h894 _ _ h723)), (h896 _ _ (h894 _ _ h724)), trivial⟩
                · refine ⟨_, rfl, ?_⟩
                  refine ⟨_, rfl, rfl, (by first | (walk_at "o2")), fun B_76 h_B_76 h0_B_76 => ?_⟩
                  refine ⟨_, _, rfl, rfl, ?_⟩
                  refine ⟨_, rfl, ?_⟩
                  refine ⟨_, rfl, ?_⟩
                  refine ⟨_, rfl, ?_⟩
                  refine Or.inr (Or.inl ?_)
                  refine ⟨_, _, _, _, _, _, _, _, rfl, (by first | (walk_at "o2")), (by first | (walk_at "o2")), (by first | (walk_at "o2")), (by first | (walk_at "o2")), h718, (by first | (walk_at "o2")), (by first | (walk_at "o2")), (by first | (walk_at "o2")), (by first | (walk_at "o2")), (by first | (walk_at "o2")), (by first | (walk_at "o2")), (by first | (walk_at "o2")), (by first | (walk_at "o2")), (by first | (walk_at "o2")), fun l_due_46 h905 Hn_266 h906 => ?_⟩
                  refine Ow.gnmS (σ' := [_, _, _, _, _, _, _, _, _, _, _, _]) rfl ?_
                  refine ⟨_, rfl, ?_⟩
                  refine ⟨_, rfl, ?_⟩
                  refine ⟨_, rfl, ?_⟩
                  refine ⟨_, rfl, ?_⟩
                  refine Or.inr (Or.inl ?_)
                  refine ⟨_, _, _, _, fm, _, rfl, (by first | (walk_at "o2")), (by first | (walk_at "o2")), (by first | (walk_at "o2")), (by first | (walk_at "o2")), (h906 _ _ h719), (by first | (walk_at "o2")), (by first | (walk_at "o2")), fun l_found_46 h907 Hn_267 h908 => ?_⟩
                  refine Ow.gnmS (σ' := [_, _, _, _, _, _, _, _, _, _, _, _]) rfl ?_
                  refine ⟨_, rfl, ?_⟩
                  refine ⟨_, _, _, _, true, rfl, .ty _, .base (.bl _), kit_ty (by decide +kernel), ?_⟩
                  refine ⟨_, rfl, ?_⟩
                  refine iteF ?_
                  refine ⟨_, rfl, ?_⟩
                  refine ⟨_, rfl, ?_⟩
                  refine ⟨rfl, ?_⟩
                  refine ⟨_, rfl, ?_⟩
                  refine Ow.ifneb (fun h909 => ?_) (fun h909 => ?_)
                  · try simp only [decide_eq_true_eq, V.int.injEq] at h909
                    exact ((by (subst_vars; first | exact h909 Iff.rfl | exact h909 trivial | exact h909 (Iff.trans (by assumption : _ = true ↔ Ow.Right _ _ _) (Iff.symm (by assumption : _ = true ↔ Ow.AllR _ _ _ _ _ _))) | exact Ow.no_T h909 (by assumption) (by assumption) | exact Ow.no_a h909 (by assumption) (by assumption) | exact Ow.no_b h909 (by assumption) (by assumption) | exact Ow.no_c h909 (by assumption) (by assumption) | exact h909 (Iff.trans (by assumption : _ = true ↔ Ow.WrongF _ _ _ _) (Iff.symm (by assumption : _ = true ↔ Ow.LwR _ _ _ _ _ _ _))))) : False).elim
                  · try simp only [decide_eq_true_eq, V.int.injEq] at h909
                    refine ⟨_, rfl, ?_⟩
                    refine ⟨_, _, rfl, rfl, ?_⟩
                    refine ⟨_, rfl, ?_⟩
                    refine Ow.ifd (fun h910 => ?_) (fun h910 => ?_)
                    · refine ⟨_, rfl, ?_⟩
                      refine ⟨rfl, ?_⟩
                      refine ⟨_, rfl, ?_⟩
                      refine iteF ?_
                      refine ⟨_, rfl, ?_⟩
                      refine Or.inl ?_
                      refine ⟨_, rfl, ?_⟩
                      refine ⟨_, rfl, ?_⟩
                      refine iteT ?_
                      refine ⟨_, rfl, ?_⟩
                      refine ⟨_, rfl, ?_⟩
                      refine ⟨_, rfl, ?_⟩
                      refine ⟨_, rfl, ?_⟩
                      refine ⟨_, rfl, ?_⟩
                      refine ⟨_, _, _, _, _, _, _, rfl, (by first | (walk_at "o2")), (by first | (walk_at "o2")), (by first | (walk_at "o2")), (by first | (walk_at "o2")), (h908 _ _ (h906 _ _ h718)), (by first | (walk_at "o2")), (by first | (walk_at "o2")), (by first | (walk_at "o2")), (by first | (walk_at "o2")), (by first | (walk_at "o2")), (by first | (walk_at "o2")), (by first | (walk_at "o2")), (by first | (walk_at "o2")), (by first | (walk_at "o2")), ?_, ?_⟩
                      · refine fun h911 Hn_268 h912 => ?_
                        refine ⟨rfl, ?_⟩
                        refine ⟨rfl, ?_⟩
                        refine ⟨_, rfl, ?_⟩
                        refine Ow.ifneb (fun h913 => ?_) (fun h913 => ?_)
                        · try simp only [decide_eq_true_eq, V.int.injEq] at h913
                          exact ((by (subst_vars; first | exact h913 Iff.rfl | exact h913 trivial | exact h913 (Iff.trans (by assumption : _ = true ↔ Ow.Right _ _ _) (Iff.symm (by assumption : _ = true ↔ Ow.AllR _ _ _ _ _ _))) | exact Ow.no_T h913 (by assumption) (by assumption) | exact Ow.no_a h913 (by assumption) (by assumption) | exact Ow.no_b h913 (by assumption) (by assumption) | exact Ow.no_c h913 (by assumption) (by assumption) | exact h913 (Iff.trans (by assumption : _ = true ↔ Ow.WrongF _ _ _ _) (Iff.symm (by assumption : _ = true ↔ Ow.LwR _ _ _ _ _ _ _))))) : False).elim
                        · try simp only [decide_eq_true_eq, V.int.injEq] at h913
                          exact ⟨_, _, _, _, _, rfl, ((((Ow.Fm.refl.trans h715).same h906).same h908).same h912), (h912 _ _ (h908 _ _ (h906 _ _ h716))), (h912 _ _ (h908 _ _ (h906 _ _ h717))), (h912 _ _ (h908 _ _ (h906 _ _ h718))), (h912 _ _ (h908 _ _ (h906 _ _ h719))), (h912 _ _ (h908 _ _ (h906 _ _ h720))), (h912 _ _ (h908 _ _ (h906 _ _ h721))), (h912 _ _ (h908 _ _ (h906 _ _ h722))), (h912 _ _ (h908 _ _ (h906 _ _ h723))), (h912 _ _ (h908 _ _ (h906 _ _ h724))), trivial⟩
                      · refine fun t_58 h914 Hn_269 h915 => ?_
                        refine ⟨rfl, ?_⟩
                        refine ⟨rfl, ?_⟩
                        refine ⟨_, rfl, ?_⟩
                        refine Ow.ifneb (fun h916 => ?_) (fun h916 => ?_)
                        · try simp only [decide_eq_true_eq, V.int.injEq] at h916
                          exact ((by (subst_vars; first | exact h916 Iff.rfl | exact h916 trivial | exact h916 (Iff.trans (by assumption : _ = true ↔ Ow.Right _ _ _) (Iff.symm (by assumption : _ = true ↔ Ow.AllR _ _ _ _ _ _))) | exact Ow.no_T h916 (by assumption) (by assumption) | exact Ow.no_a h916 (by assumption) (by assumption) | exact Ow.no_b h916 (by assumption) (by assumption) | exact Ow.no_c h916 (by assumption) (by assumption) | exact h916 (Iff.trans (by assumption : _ = true ↔ Ow.WrongF _ _ _ _) (Iff.symm (by assumption : _ = true ↔ Ow.LwR _ _ _ _ _ _ _))))) : False).elim
                        · try simp only [decide_eq_true_eq, V.int.injEq] at h916
                          exact ⟨_, _, _, _, _, rfl, ((((Ow.Fm.refl.trans h715).same h906).same h908).same h915), (h915 _ _ (h908 _ _ (h906 _ _ h716))), (h915 _ _ (h908 _ _ (h906 _ _ h717))), (h915 _ _ (h908 _ _ (h906 _ _ h718))), (h915 _ _ (h908 _ _ (h906 _ _ h719))), (h915 _ _ (h908 _ _ (h906 _ _ h720))), (h915 _ _ (h908 _ _ (h906 _ _ h721))), (h915 _ _ (h908 _ _ (h906 _ _ h722))), (h915 _ _ (h908 _ _ (h906 _ _ h723))), (h915 _ _ (h908 _ _ (h906 _ _ h724))), trivial⟩
                    · refine iteF ?_
                      exact ⟨_, _, _, _, _, rfl, (((Ow.Fm.refl.trans h715).same h906).same h908), (h908 _ _ (h906 _ _ h716)), (h908 _ _ (h906 _ _ h717)), (h908 _ _ (h906 _ _ h718)), (h908 _ _ (h906 _ _ h719)), (h908 _ _ (h906 _ _ h720)), (h908 _ _ (h906 _ _ h721)), (h908 _ _ (h906 _ _ h722)), (h908 _ _ (h906 _ _ h723)), (h908 _ _ (h906 _ _ h724)), trivial⟩
                · refine ⟨_, rfl, ?_⟩
                  refine ⟨_, rfl, rfl, (by first | (walk_at "o2")), fun B_77 h_B_77 h0_B_77 => ?_⟩
                  refine ⟨_, _, rfl, rfl, ?_⟩
                  refine ⟨_, rfl, ?_⟩
                  refine ⟨_, rfl, ?_⟩
                  refine ⟨_, rfl, ?_⟩
                  refine Or.inr (Or.inr (Or.inr (Or.inl ?_)))
                  refine ⟨_, _, _, _, _, _, _, _, rfl, (by first | (walk_at "o2")), (by first | (walk_at "o2")), (by first | (walk_at "o2")), (by first | (walk_at "o2")), h718, (by first | (walk_at "o2")), (by first | (walk_at "o2")), (by first | (walk_at "o2")), (by first | (walk_at "o2")), (by first | (walk_at "o2")), (by first | (walk_at "o2")), (by first | (walk_at "o2")), (by first | (walk_at "o2")), (by first | (walk_at "o2")), fun Hn_270 h917 => ?_⟩
                  refine Ow.gnmS (σ' := [_, _, _, _, _, _, _, _, _, _, _, _]) rfl ?_
                  refine ⟨_, rfl, ?_⟩
                  refine ⟨_, rfl, ?_⟩
                  refine ⟨_, rfl, ?_⟩
                  refine ⟨_, rfl, ?_⟩
                  refine Or.inr (Or.inr (Or.inr (Or.inl ?_)))
                  refine ⟨_, _, _, _, fm, _, rfl, (by first | (walk_at "o2")), (by first | (walk_at "o2")), (by first | (walk_at "o2")), (by first | (walk_at "o2")), (h917 _ _ h719), (by first | (walk_at "o2")), (by first | (walk_at "o2")), fun Hn_271 h918 => ?_⟩
                  refine Ow.gnmS (σ' := [_, _, _, _, _, _, _, _, _, _, _, _]) rfl ?_
                  refine ⟨_, rfl, ?_⟩
                  refine ⟨_, _, _, _, true, rfl, .ty _, .base (.bl _), kit_ty (by decide +kernel), ?_⟩
                  refine ⟨_, rfl, ?_⟩
                  refine iteF ?_
                  refine ⟨_, rfl, ?_⟩
                  refine ⟨_, rfl, ?_⟩
                  refine ⟨rfl, ?_⟩
                  refine ⟨_, rfl, ?_⟩
                  refine Ow.ifneb (fun h919 => ?_) (fun h919 => ?_)
                  · try simp only [decide_eq_true_eq, V.int.injEq] at h919
                    exact ((by (subst_vars; first | exact h919 Iff.rfl | exact h919 trivial | exact h919 (Iff.trans (by assumption : _ = true ↔ Ow.Right _ _ _) (Iff.symm (by assumption : _ = true ↔ Ow.AllR _ _ _ _ _ _))) | exact Ow.no_T h919 (by assumption) (by assumption) | exact Ow.no_a h919 (by assumption) (by assumption) | exact Ow.no_b h919 (by assumption) (by assumption) | exact Ow.no_c h919 (by assumption) (by assumption) | exact h919 (Iff.trans (by assumption : _ = true ↔ Ow.WrongF _ _ _ _) (Iff.symm (by assumption : _ = true ↔ Ow.LwR _ _ _ _ _ _ _))))) : False).elim
                  · try simp only [decide_eq_true_eq, V.int.injEq] at h919
                    refine ⟨_, rfl, ?_⟩
                    refine ⟨_, _, rfl, rfl, ?_⟩
                    refine ⟨_, rfl, ?_⟩
                    refine Ow.ifd (fun h920 => ?_) (fun h920 => ?_)
                    · refine ⟨_, rfl, ?_⟩
                      refine ⟨rfl, ?_⟩
                      refine ⟨_, rfl, ?_⟩
                      refine iteF ?_
                      refine ⟨_, rfl, ?_⟩
                      refine Or.inr (Or.inr (Or.inr (Or.inl ?_)))
                      refine ⟨_, rfl, ?_⟩
                      refine ⟨_, rfl, ?_⟩
                      refine iteF ?_
                      refine iteF ?_
                      exact ⟨_, _, _, _, _, rfl, (((Ow.Fm.refl.trans h715).same h917).same h918), (h918 _ _ (h917 _ _ h716)), (h918 _ _ (h917 _ _ h717)), (h918 _ _ (h917 _ _ h718)), (h918 _ _ (h917 _ _ h719)), (h918 _ _ (h917 _ _ h720)), (h918 _ _ (h917 _ _ h721)), (h918 _ _ (h917 _ _ h722)), (h918 _ _ (h917 _ _ h723)), (h918 _ _ (h917 _ _ h724)), trivial⟩
                    · refine iteF ?_
                      exact ⟨_, _, _, _, _, rfl, (((Ow.Fm.refl.trans h715).same h917).same h918), (h918 _ _ (h917 _ _ h716)), (h918 _ _ (h917 _ _ h717)), (h918 _ _ (h917 _ _ h718)), (h918 _ _ (h917 _ _ h719)), (h918 _ _ (h917 _ _ h720)), (h918 _ _ (h917 _ _ h721)), (h918 _ _ (h917 _ _ h722)), (h918 _ _ (h917 _ _ h723)), (h918 _ _ (h917 _ _ h724)), trivial⟩
                · refine ⟨_, rfl, ?_⟩
                  refine ⟨_, rfl, rfl, (by first | (walk_at "o2")), fun B_78 h_B_78 h0_B_78 => ?_⟩
                  refine ⟨_, _, rfl, rfl, ?_⟩
                  refine ⟨_, rfl, ?_⟩
                  refine ⟨_, rfl, ?_⟩
                  refine ⟨_, rfl, ?_⟩
                  refine Or.inr (Or.inr (Or.inr (Or.inr (Or.inl ?_))))
                  refine ⟨_, _, _, _, _, _, _, _, _, rfl, (by first | (walk_at "o2")), (by first | (walk_at "o2")), (by first | (walk_at "o2")), (by first | (walk_at "o2")), h718, (by first | (walk_at "o2")), (by first | (walk_at "o2")), (by first | (walk_at "o2")), (by first | (walk_at "o2")), (by first | (walk_at "o2")), (by first | (walk_at "o2")), (by first | (walk_at "o2")), (by first | (walk_at "o2")), (by first | (walk_at "o2")), h724, fun Hn_272 h921 => ?_⟩
                  refine Ow.gnmS (σ' := [_, _, _, _, _, _, _, _, _, _, _, _]) rfl ?_
                  refine ⟨_, rfl, ?_⟩
                  refine ⟨_, rfl, ?_⟩
                  refine ⟨_, rfl, ?_⟩
                  refine ⟨_, rfl, ?_⟩
                  refine Or.inr (Or.inr (Or.inr (Or.inr (Or.inl ?_))))
                  refine ⟨_, _, _, _, fm, _, _, rfl, (by first | (walk_at "o2")), (by first | (walk_at "o2")), (by first | (walk_at "o2")), (by first | (walk_at "o2")), (h921 _ _ h719), (by first | (walk_at "o2")), (by first | (walk_at "o2")), (h921 _ _ h724), fun Hn_273 h922 => ?_⟩
                  refine Ow.gnmS (σ' := [_, _, _, _, _, _, _, _, _, _, _, _]) rfl ?_
                  refine ⟨_, rfl, ?_⟩
                  refine ⟨_, _, _, _, true, rfl, .ty _, .base (.bl _), kit_ty (by decide +kernel), ?_⟩
                  refine ⟨_, rfl, ?_⟩
                  refine iteF ?_
                  refine ⟨_, rfl, ?_⟩
                  refine ⟨_, rfl, ?_⟩
                  refine ⟨rfl, ?_⟩
                  refine ⟨_, rfl, ?_⟩
                  refine Ow.ifneb (fun h923 => ?_) (fun h923 => ?_)
                  · try simp only [decide_eq_true_eq, V.int.injEq] at h923
                    exact ((by (subst_vars; first | exact h923 Iff.rfl | exact h923 trivial | exact h923 (Iff.trans (by assumption : _ = true ↔ Ow.Right _ _ _) (Iff.symm (by assumption : _ = true ↔ Ow.AllR _ _ _ _ _ _))) | exact Ow.no_T h923 (by assumption) (by assumption) | exact Ow.no_a h923 (by assumption) (by assumption) | exact Ow.no_b h923 (by assumption) (by assumption) | exact Ow.no_c h923 (by assumption) (by assumption) | exact h923 (Iff.trans (by assumption : _ = true ↔ Ow.WrongF _ _ _ _) (Iff.symm (by assumption : _ = true ↔ Ow.LwR _ _ _ _ _ _ _))))) : False).elim
                  · try simp only [decide_eq_true_eq, V.int.injEq] at h923
                    refine ⟨_, rfl, ?_⟩
                    refine ⟨_, _, rfl, rfl, ?_⟩
                    refine ⟨_, rfl, ?_⟩
                    refine Ow.ifd (fun h924 => ?_) (fun h924 => ?_)
                    · refine ⟨_, rfl, ?_⟩
                      refine ⟨rfl, ?_⟩
                      refine ⟨_, rfl, ?_⟩
                      refine iteF ?_
                      refine ⟨_, rfl, ?_⟩
                      refine Or.inr (Or.inr (Or.inr (Or.inr (Or.inl ?_))))
                      refine ⟨_, _, rfl, (h922 _ _ (h921 _ _ h724)), ?_⟩
                      refine ⟨_, rfl, ?_⟩
                      refine iteF ?_
                      refine iteF ?_
                      exact ⟨_, _, _, _, _, rfl, (((Ow.Fm.refl.trans h715).same h921).same h922), (h922 _ _ (h921 _ _ h716)), (h922 _ _ (h921 _ _ h717)), (h922 _ _ (h921 _ _ h718)), (h922 _ _ (h921 _ _ h719)), (h922 _ _ (h921 _ _ h720)), (h922 _ _ (h921 _ _ h721)), (h922 _ _ (h921 _ _ h722)), (h922 _ _ (h921 _ _ h723)), (h922 _ _ (h921 _ _ h724)), trivial⟩
                    · refine iteF ?_
                      exact ⟨_, _, _, _, _, rfl, (((Ow.Fm.refl.trans h715).same h921).same h922), (h922 _ _ (h921 _ _ h716)), (h922 _ _ (h921 _ _ h717)), (h922 _ _ (h921 _ _ h718)), (h922 _ _ (h921 _ _ h719)), (h922 _ _ (h921 _ _ h720)), (h922 _ _ (h921 _ _ h721)), (h922 _ _ (h921 _ _ h722)), (h922 _ _ (h921 _ _ h723)), (h922 _ _ (h921 _ _ h724)), trivial⟩
              · rintro _ Hn_274 ⟨a9_13, c9_13, _, _, _, rfl, h925, h926, h927, h928, h929, h930, h931, h932, h933, h934, _⟩
                exact kont a9_13 c9_13 _ (Ow.Fm.refl.trans h925) h926
theorem ok_l_start (T : Tx K mg) : FnOk P w K mg base CX0 1 T.d_l_start.f T.d_l_start.fd ["_law_script", "_law_k"] (sp_l_start T) := by
  refine T.d_l_start.F.ok sc_l_start (fun vs H Q E h => ?_) (fun cdv A outer s H vs Q E hr h => ?_)
  · obtain ⟨script, k, ns, rfl, _⟩ := h
    rfl
  · obtain ⟨script, k, ns, rfl, c0, c1, kont⟩ := h
    refine ⟨_, (pss_cons (ps_set (i := 2) sc_l_start.nd rfl (Or.inl rfl) pe_int)
        (pss_cons (ps_if (pt_cmpR (Ow.op_neI hr.units) (pv 0) (pe_lst pa_nil) (nomark _)) (pss_one (ps_set (i := 2) sc_l_start.nd rfl (Or.inl rfl) (pe_ix ix_list (pv 0) (pe_op Ow.op_modN (pv 1) (Ow.pe_nmi (pe_callB call_len_seq (by rfl) T.z_len (by decide +kernel) (pa_cons (pv 0) pa_nil)))) (fun _ _ => rfl)))) pss_nil)
        (pss_cons (ps_set (i := 3) sc_l_start.nd rfl (Or.inl rfl) pe_int)
        (pss_cons (ps_if (pt_cmpR op_ge (pv 2) (Ow.pe_lit (1000000000000000000) (pe_op op_pow pe_int pe_int)) (nomark _)) (pss_one (ps_set (i := 3) sc_l_start.nd rfl (Or.inl rfl) (pv 2))) pss_nil)
        (pss_one (ps_ret (pe_lst (pa_cons (pv 3) (pa_cons (pe_op op_add (pe_op Ow.op_modN (pe_op op_add (pv 2) (pe_op Ow.op_mulN pe_int (pv 1))) pe_int) pe_int) pa_nil))))))))), ?_⟩
    refine ⟨_, rfl, ?_⟩
    refine ⟨by show 0 ≤ sizeLine; decide, fun p h_p => ?_⟩
    refine ⟨_, _, ns, [], rfl, rfl, (Ow.seq (Ow.same_new h_p) c0), (SqL.of upd_same), ?_⟩
    refine ⟨_, rfl, ?_⟩
    refine Ow.ifnd (fun h1 => ?_) (fun h1 => ?_)
    · have e1 : 0 < ns.length := List.length_pos_iff.mpr (by assumption)
      refine ⟨_, rfl, ?_⟩
      refine ⟨_, rfl, ?_⟩
      refine ⟨_, rfl, ?_⟩
      refine ⟨_, _, rfl, .inl (Ow.seq (Ow.same_new h_p) c0), ?_⟩
      refine ⟨_, rfl, fun len h_len => ?_⟩
      rw [List.length_map] at h_len
      refine ⟨_, _, rfl, rfl, (by first | (walk_at "o2")), fun r h_r h0_r h1_r => ?_⟩
      refine Ow.ixn (xs := ns) (i := r) (Ow.seq (Ow.same_new h_p) c0) (by first | (walk_at "o2")) (by first | (walk_at "o2")) (fun it h_it => ?_)
      refine ⟨_, rfl, ?_⟩
      refine ⟨_, _, rfl, rfl, ⟨by decide, by decide, by decide⟩, ?_⟩
      refine ⟨by decide, ?_⟩
      refine ⟨_, _, rfl, rfl, ?_⟩
      refine ⟨_, rfl, ?_⟩
      refine Ow.ifd (fun h2 => ?_) (fun h2 => ?_)
      · refine ⟨_, rfl, ?_⟩
        refine ⟨_, rfl, ?_⟩
        refine ⟨_, rfl, ?_⟩
        refine ⟨_, rfl, ?_⟩
        refine ⟨_, _, rfl, rfl, (by first | (walk_at "o2")), fun m h_m => ?_⟩
        refine ⟨_, _, rfl, rfl, ?_⟩
        refine ⟨_, _, rfl, rfl, (by first | (walk_at "o2")), fun r_2 h_r_2 h0_r_2 h1_r_2 => ?_⟩
        refine ⟨_, _, rfl, rfl, ?_⟩
        refine ⟨by show 2 ≤ sizeLine; decide, fun p_2 h_p_2 => ?_⟩
        exact kont it (r_2 + 1) _ _ ((Ow.same_new h_p).trans (Ow.same_new h_p_2)) (Same.free (Ow.same_new h_p) h_p_2) upd_same
      · refine ⟨_, rfl, ?_⟩
        refine ⟨_, rfl, ?_⟩
        refine ⟨_, rfl, ?_⟩
        refine ⟨_, _, rfl, rfl, (by first | (walk_at "o2")), fun m_2 h_m_2 => ?_⟩
        refine ⟨_, _, rfl, rfl, ?_⟩
        refine ⟨_, _, rfl, rfl, (by first | (walk_at "o2")), fun r_3 h_r_3 h0_r_3 h1_r_3 => ?_⟩
        refine ⟨_, _, rfl, rfl, ?_⟩
        refine ⟨by show 2 ≤ sizeLine; decide, fun p_3 h_p_3 => ?_⟩
        exact kont 0 (r_3 + 1) _ _ ((Ow.same_new h_p).trans (Ow.same_new h_p_3)) (Same.free (Ow.same_new h_p) h_p_3) upd_same
    · refine ⟨_, rfl, ?_⟩
      refine ⟨_, _, rfl, rfl, ⟨by decide, by decide, by decide⟩, ?_⟩
      refine ⟨by decide, ?_⟩
      refine ⟨_, _, rfl, rfl, ?_⟩
      refine ⟨_, rfl, ?_⟩
      refine Ow.ifd (fun h3 => ?_) (fun h3 => ?_)
      · refine ⟨_, rfl, ?_⟩
        refine ⟨_, rfl, ?_⟩
        refine ⟨_, rfl, ?_⟩
        refine ⟨_, rfl, ?_⟩
        refine ⟨_, _, rfl, rfl, (by first | (walk_at "o2")), fun m_3 h_m_3 => ?_⟩
        refine ⟨_, _, rfl, rfl, ?_⟩
        refine ⟨_, _, rfl, rfl, (by first | (walk_at "o2")), fun r_4 h_r_4 h0_r_4 h1_r_4 => ?_⟩
        refine ⟨_, _, rfl, rfl, ?_⟩
        refine ⟨by show 2 ≤ sizeLine; decide, fun p_4 h_p_4 => ?_⟩
        exact kont 0 (r_4 + 1) _ _ ((Ow.same_new h_p).trans (Ow.same_new h_p_4)) (Same.free (Ow.same_new h_p) h_p_4) upd_same
      · refine ⟨_, rfl, ?_⟩
        refine ⟨_, rfl, ?_⟩
        refine ⟨_, rfl, ?_⟩
        refine ⟨_, _, rfl, rfl, (by first | (walk_at "o2")), fun m_4 h_m_4 => ?_⟩
        refine ⟨_, _, rfl, rfl, ?_⟩
        refine ⟨_, _, rfl, rfl, (by first | (walk_at "o2")), fun r_5 h_r_5 h0_r_5 h1_r_5 => ?_⟩
        refine ⟨_, _, rfl, rfl, ?_⟩
        refine ⟨by show 2 ≤ sizeLine; decide, fun p_5 h_p_5 => ?_⟩
        exact kont 0 (r_5 + 1) _ _ ((Ow.same_new h_p).trans (Ow.same_new h_p_5)) (Same.free (Ow.same_new h_p) h_p_5) upd_same
theorem ok_law (T : Tx K mg) : FnOk P w K mg base CX0 8 T.d_law.f T.d_law.fd ["_law_script"] (sp_law K) := by
  refine T.d_law.F.ok sc_law (fun vs H Q E h => ?_) (fun cdv A outer s H vs Q E hr h => ?_)
  · obtain ⟨script, ns, rfl, _⟩ := h
    rfl
  · obtain ⟨script, ns, rfl, c0, c1, kont⟩ := h
    refine ⟨_, (pss_cons (ps_for PassesOwn.never rfl (pi_range1 (by rfl) T.z_range (pa_cons (Ow.pe_nmi (pe_callB (call_max2 rfl) (by rfl) T.z_max (by decide +kernel) (pa_cons pe_int (pa_cons (Ow.pe_nmi (pe_callB (call_min2 rfl) (by rfl) T.z_min (by decide +kernel) (pa_cons (Ow.pe_nmi (pe_callB call_len_seq (by rfl) T.z_len (by decide +kernel) (pa_cons (pv 0) pa_nil))) (pa_cons pe_int pa_nil)))) pa_nil)))) pa_nil)) (pg_name (i := 1) sc_law.nd rfl (Or.inl rfl)) (pss_one (ps_if (pt_not (pt_val (pe_call (Ow.ok_l_case T) (hr.mono (by decide : 7 ≤ 7)) (by rfl) T.d_l_case.m T.d_l_case.F.kp T.d_l_case.b .nil pass0 (pa_cons (pe_call (Ow.ok_l_start T) (hr.mono (by decide : 1 ≤ 7)) (by rfl) T.d_l_start.m T.d_l_start.F.kp T.d_l_start.b .nil pass0 (pa_cons (pv 0) (pa_cons (pv 1) pa_nil))) pa_nil)))) (pss_one (ps_ret pe_bl)) pss_nil)))
        (pss_one (ps_ret pe_bl))), ?_⟩
    refine ⟨_, rfl, ?_⟩
    refine ⟨_, _, rfl, .inl c0, ?_⟩
    refine ⟨_, rfl, fun len h_len => ?_⟩
    rw [List.length_map] at h_len
    refine ⟨_, _, rfl, ?_⟩
    refine ⟨_, rfl, fun m h_m => ?_⟩
    have hm_m := Ow.min_ite h_m
    refine ⟨_, _, rfl, ?_⟩
    refine ⟨_, rfl, fun m_2 h_m_2 => ?_⟩
    have hm_m_2 := Ow.max_ite h_m_2
    refine ⟨_, rfl, (by first | (walk_at "o2")), (by first | (walk_at "o2")), ?_⟩
    refine for_range (lo := 0) (fun i σ2 H2 => ∃ (v_1 : Option V), σ2 = [some (.ref script), v_1] ∧ Same _ H2) ⟨_, rfl, Same.refl _⟩ ?_ ?_
    · rintro i _ Hn h2 ⟨_, rfl, h1⟩
      refine Ow.gturn (fun l_k h_l_k => ?_)
      refine ⟨_, rfl, ?_⟩
      refine ⟨_, rfl, ?_⟩
      refine ⟨_, _, _, rfl, (Ow.seq h1 c0), (by first | (walk_at "o2")), fun a c p Hn_2 h3 h4 h5 => ?_⟩
      refine ⟨_, _, _, rfl, h5, fun a2 c2 Hn_3 h6 h7 => ?_⟩
      refine ⟨_, rfl, ?_⟩
      refine iteF ?_
      exact ⟨_, rfl, (Ow.same_frame (h1.trans h3) h6 (Same.free h1 h4))⟩
    · rintro _ Hn_4 ⟨_, rfl, h8⟩
      exact kont _ h8
end
def tx_mk {K : PySem.W.Frag} {h : Heap} {mg : Str → Option Value} (X : K.In h) (G : h.Ns mainGlobals mg) {K_Early : Addr} {K_Form : Addr} {K_More : Addr} {K_Scaled : Addr} {K_Shifted : Addr} {K_Wide : Addr}                {f_l_draw : Addr} {od_l_draw an_l_draw : Option Addr} {oc_l_draw kV_l_draw dc_l_draw pm_l_draw cd_l_draw ct_l_draw : Value} {sl_l_draw : Array (Option Value)} {f_l_divisor : Addr} {od_l_divisor an_l_divisor : Option Addr} {oc_l_divisor kV_l_divisor dc_l_divisor pm_l_divisor cd_l_divisor ct_l_divisor : Value} {sl_l_divisor : Array (Option Value)} {f_l_twos : Addr} {od_l_twos an_l_twos : Option Addr} {oc_l_twos kV_l_twos dc_l_twos pm_l_twos cd_l_twos ct_l_twos : Value} {sl_l_twos : Array (Option Value)} {f_l_near : Addr} {od_l_near an_l_near : Option Addr} {oc_l_near kV_l_near dc_l_near pm_l_near cd_l_near ct_l_near : Value} {sl_l_near : Array (Option Value)} {f_l_numbers : Addr} {od_l_numbers an_l_numbers : Option Addr} {oc_l_numbers kV_l_numbers dc_l_numbers pm_l_numbers cd_l_numbers ct_l_numbers : Value} {sl_l_numbers : Array (Option Value)} {f_is_whole : Addr} {od_is_whole an_is_whole : Option Addr} {oc_is_whole kV_is_whole dc_is_whole pm_is_whole cd_is_whole ct_is_whole : Value} {sl_is_whole : Array (Option Value)} {f_is_between : Addr} {od_is_between an_is_between : Option Addr} {oc_is_between kV_is_between dc_is_between pm_is_between cd_is_between ct_is_between : Value} {sl_is_between : Array (Option Value)} {f_Form___init__ : Addr} {od_Form___init__ an_Form___init__ : Option Addr} {oc_Form___init__ kV_Form___init__ dc_Form___init__ pm_Form___init__ cd_Form___init__ ct_Form___init__ : Value} {sl_Form___init__ : Array (Option Value)} {f_Wide___init__ : Addr} {od_Wide___init__ an_Wide___init__ : Option Addr} {oc_Wide___init__ kV_Wide___init__ dc_Wide___init__ pm_Wide___init__ cd_Wide___init__ ct_Wide___init__ : Value} {sl_Wide___init__ : Array (Option Value)} {f_Shifted___init__ : Addr} {od_Shifted___init__ an_Shifted___init__ : Option Addr} {oc_Shifted___init__ kV_Shifted___init__ dc_Shifted___init__ pm_Shifted___init__ cd_Shifted___init__ ct_Shifted___init__ : Value} {sl_Shifted___init__ : Array (Option Value)} {f_Scaled___init__ : Addr} {od_Scaled___init__ an_Scaled___init__ : Option Addr} {oc_Scaled___init__ kV_Scaled___init__ dc_Scaled___init__ pm_Scaled___init__ cd_Scaled___init__ ct_Scaled___init__ : Value} {sl_Scaled___init__ : Array (Option Value)} {f_Early___init__ : Addr} {od_Early___init__ an_Early___init__ : Option Addr} {oc_Early___init__ kV_Early___init__ dc_Early___init__ pm_Early___init__ cd_Early___init__ ct_Early___init__ : Value} {sl_Early___init__ : Array (Option Value)} {f_More___init__ : Addr} {od_More___init__ an_More___init__ : Option Addr} {oc_More___init__ kV_More___init__ dc_More___init__ pm_More___init__ cd_More___init__ ct_More___init__ : Value} {sl_More___init__ : Array (Option Value)} {f_l_make : Addr} {od_l_make an_l_make : Option Addr} {oc_l_make kV_l_make dc_l_make pm_l_make cd_l_make ct_l_make : Value} {sl_l_make : Array (Option Value)} {f_l_other : Addr} {od_l_other an_l_other : Option Addr} {oc_l_other kV_l_other dc_l_other pm_l_other cd_l_other ct_l_other : Value} {sl_l_other : Array (Option Value)} {f_need_width : Addr} {od_need_width an_need_width : Option Addr} {oc_need_width kV_need_width dc_need_width pm_need_width cd_need_width ct_need_width : Value} {sl_need_width : Array (Option Value)} {f_need_divisor : Addr} {od_need_divisor an_need_divisor : Option Addr} {oc_need_divisor kV_need_divisor dc_need_divisor pm_need_divisor cd_need_divisor ct_need_divisor : Value} {sl_need_divisor : Array (Option Value)} {f_Shifted_numbers_in : Addr} {od_Shifted_numbers_in an_Shifted_numbers_in : Option Addr} {oc_Shifted_numbers_in kV_Shifted_numbers_in dc_Shifted_numbers_in pm_Shifted_numbers_in cd_Shifted_numbers_in ct_Shifted_numbers_in : Value} {sl_Shifted_numbers_in : Array (Option Value)}  {f_Form_numbers_in : Addr} {od_Form_numbers_in an_Form_numbers_in : Option Addr} {oc_Form_numbers_in kV_Form_numbers_in dc_Form_numbers_in pm_Form_numbers_in cd_Form_numbers_in ct_Form_numbers_in : Value} {sl_Form_numbers_in : Array (Option Value)}   {f_More_numbers_in : Addr} {od_More_numbers_in an_More_numbers_in : Option Addr} {oc_More_numbers_in kV_More_numbers_in dc_More_numbers_in pm_More_numbers_in cd_More_numbers_in ct_More_numbers_in : Value} {sl_More_numbers_in : Array (Option Value)}  {f_Wide_numbers_in : Addr} {od_Wide_numbers_in an_Wide_numbers_in : Option Addr} {oc_Wide_numbers_in kV_Wide_numbers_in dc_Wide_numbers_in pm_Wide_numbers_in cd_Wide_numbers_in ct_Wide_numbers_in : Value} {sl_Wide_numbers_in : Array (Option Value)}  {f_twos_in : Addr} {od_twos_in an_twos_in : Option Addr} {oc_twos_in kV_twos_in dc_twos_in pm_twos_in cd_twos_in ct_twos_in : Value} {sl_twos_in : Array (Option Value)} {f_numbers_for : Addr} {od_numbers_for an_numbers_for : Option Addr} {oc_numbers_for kV_numbers_for dc_numbers_for pm_numbers_for cd_numbers_for ct_numbers_for : Value} {sl_numbers_for : Array (Option Value)} {f_first_too_great : Addr} {od_first_too_great an_first_too_great : Option Addr} {oc_first_too_great kV_first_too_great dc_first_too_great pm_first_too_great cd_first_too_great ct_first_too_great : Value} {sl_first_too_great : Array (Option Value)} {f_first_too_small : Addr} {od_first_too_small an_first_too_small : Option Addr} {oc_first_too_small kV_first_too_small dc_first_too_small pm_first_too_small cd_first_too_small ct_first_too_small : Value} {sl_first_too_small : Array (Option Value)} {f_least_wrong : Addr} {od_least_wrong an_least_wrong : Option Addr} {oc_least_wrong kV_least_wrong dc_least_wrong pm_least_wrong cd_least_wrong ct_least_wrong : Value} {sl_least_wrong : Array (Option Value)} {f_wrong_word : Addr} {od_wrong_word an_wrong_word : Option Addr} {oc_wrong_word kV_wrong_word dc_wrong_word pm_wrong_word cd_wrong_word ct_wrong_word : Value} {sl_wrong_word : Array (Option Value)} {f_l_whole : Addr} {od_l_whole an_l_whole : Option Addr} {oc_l_whole kV_l_whole dc_l_whole pm_l_whole cd_l_whole ct_l_whole : Value} {sl_l_whole : Array (Option Value)} {f_l_things : Addr} {od_l_things an_l_things : Option Addr} {oc_l_things kV_l_things dc_l_things pm_l_things cd_l_things ct_l_things : Value} {sl_l_things : Array (Option Value)} {f_l_corners : Addr} {od_l_corners an_l_corners : Option Addr} {oc_l_corners kV_l_corners dc_l_corners pm_l_corners cd_l_corners ct_l_corners : Value} {sl_l_corners : Array (Option Value)} {f_l_brought : Addr} {od_l_brought an_l_brought : Option Addr} {oc_l_brought kV_l_brought dc_l_brought pm_l_brought cd_l_brought ct_l_brought : Value} {sl_l_brought : Array (Option Value)} {f_l_right_to : Addr} {od_l_right_to an_l_right_to : Option Addr} {oc_l_right_to kV_l_right_to dc_l_right_to pm_l_right_to cd_l_right_to ct_l_right_to : Value} {sl_l_right_to : Array (Option Value)} {f_l_least : Addr} {od_l_least an_l_least : Option Addr} {oc_l_least kV_l_least dc_l_least pm_l_least cd_l_least ct_l_least : Value} {sl_l_least : Array (Option Value)} {f_corners_to : Addr} {od_corners_to an_corners_to : Option Addr} {oc_corners_to kV_corners_to dc_corners_to pm_corners_to cd_corners_to ct_corners_to : Value} {sl_corners_to : Array (Option Value)} {f_brought : Addr} {od_brought an_brought : Option Addr} {oc_brought kV_brought dc_brought pm_brought cd_brought ct_brought : Value} {sl_brought : Array (Option Value)} {f_holds_to : Addr} {od_holds_to an_holds_to : Option Addr} {oc_holds_to kV_holds_to dc_holds_to pm_holds_to cd_holds_to ct_holds_to : Value} {sl_holds_to : Array (Option Value)} {f_is_wrong_word : Addr} {od_is_wrong_word an_is_wrong_word : Option Addr} {oc_is_wrong_word kV_is_wrong_word dc_is_wrong_word pm_is_wrong_word cd_is_wrong_word ct_is_wrong_word : Value} {sl_is_wrong_word : Array (Option Value)} {f_l_first : Addr} {od_l_first an_l_first : Option Addr} {oc_l_first kV_l_first dc_l_first pm_l_first cd_l_first ct_l_first : Value} {sl_l_first : Array (Option Value)} {f_l_case : Addr} {od_l_case an_l_case : Option Addr} {oc_l_case kV_l_case dc_l_case pm_l_case cd_l_case ct_l_case : Value} {sl_l_case : Array (Option Value)} {f_l_start : Addr} {od_l_start an_l_start : Option Addr} {oc_l_start kV_l_start dc_l_start pm_l_start cd_l_start ct_l_start : Value} {sl_l_start : Array (Option Value)} {f_law : Addr} {od_law an_law : Option Addr} {oc_law kV_law dc_law pm_law cd_law ct_law : Value} {sl_law : Array (Option Value)}      {mcc_Form___init__ : Value} {tk_GREATEST_SHIFT : Tok} {tk_GREATEST_FACTOR : Tok} {tk_LEAST_WIDTH : Tok} {tk_GREATEST_WIDTH : Tok}          
    (ak_Early : PySem.W.nsIn K mainGlobals "Early" = some (some (.ref K_Early)))
    (kp_Early : PySem.W.plainGet K K_Early Str.empty = true)
    (kh_Early : PySem.W.hasDictIn K K_Early = true)
    (ko_Early : PySem.W.plainOver K K_Early = true)
    (ks_Early : PySem.W.findIn K (.ref K_Early) "__setattr__" = some (some (.builtin "object.__setattr__")))
    (ak_Form : PySem.W.nsIn K mainGlobals "Form" = some (some (.ref K_Form)))
    (kp_Form : PySem.W.plainGet K K_Form Str.empty = true)
    (kh_Form : PySem.W.hasDictIn K K_Form = true)
    (ko_Form : PySem.W.plainOver K K_Form = true)
    (ks_Form : PySem.W.findIn K (.ref K_Form) "__setattr__" = some (some (.builtin "object.__setattr__")))
    (ak_More : PySem.W.nsIn K mainGlobals "More" = some (some (.ref K_More)))
    (kp_More : PySem.W.plainGet K K_More Str.empty = true)
    (kh_More : PySem.W.hasDictIn K K_More = true)
    (ko_More : PySem.W.plainOver K K_More = true)
    (ks_More : PySem.W.findIn K (.ref K_More) "__setattr__" = some (some (.builtin "object.__setattr__")))
    (ak_Scaled : PySem.W.nsIn K mainGlobals "Scaled" = some (some (.ref K_Scaled)))
    (kp_Scaled : PySem.W.plainGet K K_Scaled Str.empty = true)
    (kh_Scaled : PySem.W.hasDictIn K K_Scaled = true)
    (ko_Scaled : PySem.W.plainOver K K_Scaled = true)
    (ks_Scaled : PySem.W.findIn K (.ref K_Scaled) "__setattr__" = some (some (.builtin "object.__setattr__")))
    (ak_Shifted : PySem.W.nsIn K mainGlobals "Shifted" = some (some (.ref K_Shifted)))
    (kp_Shifted : PySem.W.plainGet K K_Shifted Str.empty = true)
    (kh_Shifted : PySem.W.hasDictIn K K_Shifted = true)
    (ko_Shifted : PySem.W.plainOver K K_Shifted = true)
    (ks_Shifted : PySem.W.findIn K (.ref K_Shifted) "__setattr__" = some (some (.builtin "object.__setattr__")))
    (ak_Wide : PySem.W.nsIn K mainGlobals "Wide" = some (some (.ref K_Wide)))
    (kp_Wide : PySem.W.plainGet K K_Wide Str.empty = true)
    (kh_Wide : PySem.W.hasDictIn K K_Wide = true)
    (ko_Wide : PySem.W.plainOver K K_Wide = true)
    (ks_Wide : PySem.W.findIn K (.ref K_Wide) "__setattr__" = some (some (.builtin "object.__setattr__")))
    (nah_Early_early : PySem.W.findIn K (.ref K_Early) "early" = some none)
    (nah_Early_factor : PySem.W.findIn K (.ref K_Early) "factor" = some none)
    (nah_Early_shift : PySem.W.findIn K (.ref K_Early) "shift" = some none)
    (nah_More_early : PySem.W.findIn K (.ref K_More) "early" = some none)
    (nah_More_factor : PySem.W.findIn K (.ref K_More) "factor" = some none)
    (nah_More_shift : PySem.W.findIn K (.ref K_More) "shift" = some none)
    (nah_Scaled_early : PySem.W.findIn K (.ref K_Scaled) "early" = some none)
    (nah_Scaled_factor : PySem.W.findIn K (.ref K_Scaled) "factor" = some none)
    (nah_Scaled_shift : PySem.W.findIn K (.ref K_Scaled) "shift" = some none)
    (nah_Shifted_early : PySem.W.findIn K (.ref K_Shifted) "early" = some none)
    (nah_Shifted_factor : PySem.W.findIn K (.ref K_Shifted) "factor" = some none)
    (nah_Shifted_shift : PySem.W.findIn K (.ref K_Shifted) "shift" = some none)
    (nah_Wide_early : PySem.W.findIn K (.ref K_Wide) "early" = some none)
    (nah_Wide_factor : PySem.W.findIn K (.ref K_Wide) "factor" = some none)
    (nah_Wide_shift : PySem.W.findIn K (.ref K_Wide) "shift" = some none)
    (a_l_draw : PySem.W.nsIn K mainGlobals "_law_draw" = some (some (.ref f_l_draw)))
    (l_l_draw : K.lookup f_l_draw = some ⟨oc_l_draw, od_l_draw, .func (PySem.W.fnOf "_law_draw" "_law_draw" (defArgs s_l_draw) (defBody s_l_draw) (defScope s_l_draw) .none kV_l_draw dc_l_draw pm_l_draw an_l_draw cd_l_draw ct_l_draw), sl_l_draw⟩)
    (c_l_draw : PySem.W.codeIn K cd_l_draw "_law_draw" = true)
    (k_l_draw : PySem.W.keepIn K (.ref f_l_draw) = true)
    (a_l_divisor : PySem.W.nsIn K mainGlobals "_law_divisor" = some (some (.ref f_l_divisor)))
    (l_l_divisor : K.lookup f_l_divisor = some ⟨oc_l_divisor, od_l_divisor, .func (PySem.W.fnOf "_law_divisor" "_law_divisor" (defArgs s_l_divisor) (defBody s_l_divisor) (defScope s_l_divisor) .none kV_l_divisor dc_l_divisor pm_l_divisor an_l_divisor cd_l_divisor ct_l_divisor), sl_l_divisor⟩)
    (c_l_divisor : PySem.W.codeIn K cd_l_divisor "_law_divisor" = true)
    (k_l_divisor : PySem.W.keepIn K (.ref f_l_divisor) = true)
    (a_l_twos : PySem.W.nsIn K mainGlobals "_law_twos" = some (some (.ref f_l_twos)))
    (l_l_twos : K.lookup f_l_twos = some ⟨oc_l_twos, od_l_twos, .func (PySem.W.fnOf "_law_twos" "_law_twos" (defArgs s_l_twos) (defBody s_l_twos) (defScope s_l_twos) .none kV_l_twos dc_l_twos pm_l_twos an_l_twos cd_l_twos ct_l_twos), sl_l_twos⟩)
    (c_l_twos : PySem.W.codeIn K cd_l_twos "_law_twos" = true)
    (k_l_twos : PySem.W.keepIn K (.ref f_l_twos) = true)
    (a_l_near : PySem.W.nsIn K mainGlobals "_law_near" = some (some (.ref f_l_near)))
    (l_l_near : K.lookup f_l_near = some ⟨oc_l_near, od_l_near, .func (PySem.W.fnOf "_law_near" "_law_near" (defArgs s_l_near) (defBody s_l_near) (defScope s_l_near) .none kV_l_near dc_l_near pm_l_near an_l_near cd_l_near ct_l_near), sl_l_near⟩)
    (c_l_near : PySem.W.codeIn K cd_l_near "_law_near" = true)
    (k_l_near : PySem.W.keepIn K (.ref f_l_near) = true)
    (a_l_numbers : PySem.W.nsIn K mainGlobals "_law_numbers" = some (some (.ref f_l_numbers)))
    (l_l_numbers : K.lookup f_l_numbers = some ⟨oc_l_numbers, od_l_numbers, .func (PySem.W.fnOf "_law_numbers" "_law_numbers" (defArgs s_l_numbers) (defBody s_l_numbers) (defScope s_l_numbers) .none kV_l_numbers dc_l_numbers pm_l_numbers an_l_numbers cd_l_numbers ct_l_numbers), sl_l_numbers⟩)
    (c_l_numbers : PySem.W.codeIn K cd_l_numbers "_law_numbers" = true)
    (k_l_numbers : PySem.W.keepIn K (.ref f_l_numbers) = true)
    (a_is_whole : PySem.W.nsIn K mainGlobals "is_whole" = some (some (.ref f_is_whole)))
    (l_is_whole : K.lookup f_is_whole = some ⟨oc_is_whole, od_is_whole, .func (PySem.W.fnOf "is_whole" "is_whole" (defArgs s_is_whole) (defBody s_is_whole) (defScope s_is_whole) .none kV_is_whole dc_is_whole pm_is_whole an_is_whole cd_is_whole ct_is_whole), sl_is_whole⟩)
    (c_is_whole : PySem.W.codeIn K cd_is_whole "is_whole" = true)
    (k_is_whole : PySem.W.keepIn K (.ref f_is_whole) = true)
    (a_is_between : PySem.W.nsIn K mainGlobals "is_between" = some (some (.ref f_is_between)))
    (l_is_between : K.lookup f_is_between = some ⟨oc_is_between, od_is_between, .func (PySem.W.fnOf "is_between" "is_between" (defArgs s_is_between) (defBody s_is_between) (defScope s_is_between) .none kV_is_between dc_is_between pm_is_between an_is_between cd_is_between ct_is_between), sl_is_between⟩)
    (c_is_between : PySem.W.codeIn K cd_is_between "is_between" = true)
    (k_is_between : PySem.W.keepIn K (.ref f_is_between) = true)
    (l_Form___init__ : K.lookup f_Form___init__ = some ⟨oc_Form___init__, od_Form___init__, .func (PySem.W.fnOf "__init__" "Form.__init__" (defArgs s_Form___init__) (defBody s_Form___init__) (defScope s_Form___init__) .none kV_Form___init__ dc_Form___init__ pm_Form___init__ an_Form___init__ cd_Form___init__ ct_Form___init__), sl_Form___init__⟩)
    (c_Form___init__ : PySem.W.codeIn K cd_Form___init__ "Form.__init__" = true)
    (k_Form___init__ : PySem.W.keepIn K (.ref f_Form___init__) = true)
    (l_Wide___init__ : K.lookup f_Wide___init__ = some ⟨oc_Wide___init__, od_Wide___init__, .func (PySem.W.fnOf "__init__" "Wide.__init__" (defArgs s_Wide___init__) (defBody s_Wide___init__) (defScope s_Wide___init__) .none kV_Wide___init__ dc_Wide___init__ pm_Wide___init__ an_Wide___init__ cd_Wide___init__ ct_Wide___init__), sl_Wide___init__⟩)
    (c_Wide___init__ : PySem.W.codeIn K cd_Wide___init__ "Wide.__init__" = true)
    (k_Wide___init__ : PySem.W.keepIn K (.ref f_Wide___init__) = true)
    (l_Shifted___init__ : K.lookup f_Shifted___init__ = some ⟨oc_Shifted___init__, od_Shifted___init__, .func (PySem.W.fnOf "__init__" "Shifted.__init__" (defArgs s_Shifted___init__) (defBody s_Shifted___init__) (defScope s_Shifted___init__) .none kV_Shifted___init__ dc_Shifted___init__ pm_Shifted___init__ an_Shifted___init__ cd_Shifted___init__ ct_Shifted___init__), sl_Shifted___init__⟩)
    (c_Shifted___init__ : PySem.W.codeIn K cd_Shifted___init__ "Shifted.__init__" = true)
    (k_Shifted___init__ : PySem.W.keepIn K (.ref f_Shifted___init__) = true)
    (l_Scaled___init__ : K.lookup f_Scaled___init__ = some ⟨oc_Scaled___init__, od_Scaled___init__, .func (PySem.W.fnOf "__init__" "Scaled.__init__" (defArgs s_Scaled___init__) (defBody s_Scaled___init__) (defScope s_Scaled___init__) .none kV_Scaled___init__ dc_Scaled___init__ pm_Scaled___init__ an_Scaled___init__ cd_Scaled___init__ ct_Scaled___init__), sl_Scaled___init__⟩)
    (c_Scaled___init__ : PySem.W.codeIn K cd_Scaled___init__ "Scaled.__init__" = true)
    (k_Scaled___init__ : PySem.W.keepIn K (.ref f_Scaled___init__) = true)
    (l_Early___init__ : K.lookup f_Early___init__ = some ⟨oc_Early___init__, od_Early___init__, .func (PySem.W.fnOf "__init__" "Early.__init__" (defArgs s_Early___init__) (defBody s_Early___init__) (defScope s_Early___init__) .none kV_Early___init__ dc_Early___init__ pm_Early___init__ an_Early___init__ cd_Early___init__ ct_Early___init__), sl_Early___init__⟩)
    (c_Early___init__ : PySem.W.codeIn K cd_Early___init__ "Early.__init__" = true)
    (k_Early___init__ : PySem.W.keepIn K (.ref f_Early___init__) = true)
    (l_More___init__ : K.lookup f_More___init__ = some ⟨oc_More___init__, od_More___init__, .func (PySem.W.fnOf "__init__" "More.__init__" (defArgs s_More___init__) (defBody s_More___init__) (defScope s_More___init__) .none kV_More___init__ dc_More___init__ pm_More___init__ an_More___init__ cd_More___init__ ct_More___init__), sl_More___init__⟩)
    (c_More___init__ : PySem.W.codeIn K cd_More___init__ "More.__init__" = true)
    (k_More___init__ : PySem.W.keepIn K (.ref f_More___init__) = true)
    (a_l_make : PySem.W.nsIn K mainGlobals "_law_make" = some (some (.ref f_l_make)))
    (l_l_make : K.lookup f_l_make = some ⟨oc_l_make, od_l_make, .func (PySem.W.fnOf "_law_make" "_law_make" (defArgs s_l_make) (defBody s_l_make) (defScope s_l_make) .none kV_l_make dc_l_make pm_l_make an_l_make cd_l_make ct_l_make), sl_l_make⟩)
    (c_l_make : PySem.W.codeIn K cd_l_make "_law_make" = true)
    (k_l_make : PySem.W.keepIn K (.ref f_l_make) = true)
    (a_l_other : PySem.W.nsIn K mainGlobals "_law_other" = some (some (.ref f_l_other)))
    (l_l_other : K.lookup f_l_other = some ⟨oc_l_other, od_l_other, .func (PySem.W.fnOf "_law_other" "_law_other" (defArgs s_l_other) (defBody s_l_other) (defScope s_l_other) .none kV_l_other dc_l_other pm_l_other an_l_other cd_l_other ct_l_other), sl_l_other⟩)
    (c_l_other : PySem.W.codeIn K cd_l_other "_law_other" = true)
    (k_l_other : PySem.W.keepIn K (.ref f_l_other) = true)
    (a_need_width : PySem.W.nsIn K mainGlobals "need_width" = some (some (.ref f_need_width)))
    (l_need_width : K.lookup f_need_width = some ⟨oc_need_width, od_need_width, .func (PySem.W.fnOf "need_width" "need_width" (defArgs s_need_width) (defBody s_need_width) (defScope s_need_width) .none kV_need_width dc_need_width pm_need_width an_need_width cd_need_width ct_need_width), sl_need_width⟩)
    (c_need_width : PySem.W.codeIn K cd_need_width "need_width" = true)
    (k_need_width : PySem.W.keepIn K (.ref f_need_width) = true)
    (a_need_divisor : PySem.W.nsIn K mainGlobals "need_divisor" = some (some (.ref f_need_divisor)))
    (l_need_divisor : K.lookup f_need_divisor = some ⟨oc_need_divisor, od_need_divisor, .func (PySem.W.fnOf "need_divisor" "need_divisor" (defArgs s_need_divisor) (defBody s_need_divisor) (defScope s_need_divisor) .none kV_need_divisor dc_need_divisor pm_need_divisor an_need_divisor cd_need_divisor ct_need_divisor), sl_need_divisor⟩)
    (c_need_divisor : PySem.W.codeIn K cd_need_divisor "need_divisor" = true)
    (k_need_divisor : PySem.W.keepIn K (.ref f_need_divisor) = true)
    (l_Shifted_numbers_in : K.lookup f_Shifted_numbers_in = some ⟨oc_Shifted_numbers_in, od_Shifted_numbers_in, .func (PySem.W.fnOf "numbers_in" "Shifted.numbers_in" (defArgs s_Shifted_numbers_in) (defBody s_Shifted_numbers_in) (defScope s_Shifted_numbers_in) .none kV_Shifted_numbers_in dc_Shifted_numbers_in pm_Shifted_numbers_in an_Shifted_numbers_in cd_Shifted_numbers_in ct_Shifted_numbers_in), sl_Shifted_numbers_in⟩)
    (c_Shifted_numbers_in : PySem.W.codeIn K cd_Shifted_numbers_in "Shifted.numbers_in" = true)
    (k_Shifted_numbers_in : PySem.W.keepIn K (.ref f_Shifted_numbers_in) = true)
    (ma_Shifted_numbers_in : PySem.W.findIn K (.ref K_Shifted) "numbers_in" = some (some (.ref f_Shifted_numbers_in)))
    (mf_Shifted_numbers_in : PySem.W.isFn K (.ref f_Shifted_numbers_in) = true)
    (l_Form_numbers_in : K.lookup f_Form_numbers_in = some ⟨oc_Form_numbers_in, od_Form_numbers_in, .func (PySem.W.fnOf "numbers_in" "Form.numbers_in" (defArgs s_Form_numbers_in) (defBody s_Form_numbers_in) (defScope s_Form_numbers_in) .none kV_Form_numbers_in dc_Form_numbers_in pm_Form_numbers_in an_Form_numbers_in cd_Form_numbers_in ct_Form_numbers_in), sl_Form_numbers_in⟩)
    (c_Form_numbers_in : PySem.W.codeIn K cd_Form_numbers_in "Form.numbers_in" = true)
    (k_Form_numbers_in : PySem.W.keepIn K (.ref f_Form_numbers_in) = true)
    (ma_Early_numbers_in : PySem.W.findIn K (.ref K_Early) "numbers_in" = some (some (.ref f_Form_numbers_in)))
    (mf_Early_numbers_in : PySem.W.isFn K (.ref f_Form_numbers_in) = true)
    (ma_Scaled_numbers_in : PySem.W.findIn K (.ref K_Scaled) "numbers_in" = some (some (.ref f_Form_numbers_in)))
    (mf_Scaled_numbers_in : PySem.W.isFn K (.ref f_Form_numbers_in) = true)
    (l_More_numbers_in : K.lookup f_More_numbers_in = some ⟨oc_More_numbers_in, od_More_numbers_in, .func (PySem.W.fnOf "numbers_in" "More.numbers_in" (defArgs s_More_numbers_in) (defBody s_More_numbers_in) (defScope s_More_numbers_in) .none kV_More_numbers_in dc_More_numbers_in pm_More_numbers_in an_More_numbers_in cd_More_numbers_in ct_More_numbers_in), sl_More_numbers_in⟩)
    (c_More_numbers_in : PySem.W.codeIn K cd_More_numbers_in "More.numbers_in" = true)
    (k_More_numbers_in : PySem.W.keepIn K (.ref f_More_numbers_in) = true)
    (ma_More_numbers_in : PySem.W.findIn K (.ref K_More) "numbers_in" = some (some (.ref f_More_numbers_in)))
    (mf_More_numbers_in : PySem.W.isFn K (.ref f_More_numbers_in) = true)
    (l_Wide_numbers_in : K.lookup f_Wide_numbers_in = some ⟨oc_Wide_numbers_in, od_Wide_numbers_in, .func (PySem.W.fnOf "numbers_in" "Wide.numbers_in" (defArgs s_Wide_numbers_in) (defBody s_Wide_numbers_in) (defScope s_Wide_numbers_in) .none kV_Wide_numbers_in dc_Wide_numbers_in pm_Wide_numbers_in an_Wide_numbers_in cd_Wide_numbers_in ct_Wide_numbers_in), sl_Wide_numbers_in⟩)
    (c_Wide_numbers_in : PySem.W.codeIn K cd_Wide_numbers_in "Wide.numbers_in" = true)
    (k_Wide_numbers_in : PySem.W.keepIn K (.ref f_Wide_numbers_in) = true)
    (ma_Wide_numbers_in : PySem.W.findIn K (.ref K_Wide) "numbers_in" = some (some (.ref f_Wide_numbers_in)))
    (mf_Wide_numbers_in : PySem.W.isFn K (.ref f_Wide_numbers_in) = true)
    (a_twos_in : PySem.W.nsIn K mainGlobals "twos_in" = some (some (.ref f_twos_in)))
    (l_twos_in : K.lookup f_twos_in = some ⟨oc_twos_in, od_twos_in, .func (PySem.W.fnOf "twos_in" "twos_in" (defArgs s_twos_in) (defBody s_twos_in) (defScope s_twos_in) .none kV_twos_in dc_twos_in pm_twos_in an_twos_in cd_twos_in ct_twos_in), sl_twos_in⟩)
    (c_twos_in : PySem.W.codeIn K cd_twos_in "twos_in" = true)
    (k_twos_in : PySem.W.keepIn K (.ref f_twos_in) = true)
    (a_numbers_for : PySem.W.nsIn K mainGlobals "numbers_for" = some (some (.ref f_numbers_for)))
    (l_numbers_for : K.lookup f_numbers_for = some ⟨oc_numbers_for, od_numbers_for, .func (PySem.W.fnOf "numbers_for" "numbers_for" (defArgs s_numbers_for) (defBody s_numbers_for) (defScope s_numbers_for) .none kV_numbers_for dc_numbers_for pm_numbers_for an_numbers_for cd_numbers_for ct_numbers_for), sl_numbers_for⟩)
    (c_numbers_for : PySem.W.codeIn K cd_numbers_for "numbers_for" = true)
    (k_numbers_for : PySem.W.keepIn K (.ref f_numbers_for) = true)
    (a_first_too_great : PySem.W.nsIn K mainGlobals "first_too_great" = some (some (.ref f_first_too_great)))
    (l_first_too_great : K.lookup f_first_too_great = some ⟨oc_first_too_great, od_first_too_great, .func (PySem.W.fnOf "first_too_great" "first_too_great" (defArgs s_first_too_great) (defBody s_first_too_great) (defScope s_first_too_great) .none kV_first_too_great dc_first_too_great pm_first_too_great an_first_too_great cd_first_too_great ct_first_too_great), sl_first_too_great⟩)
    (c_first_too_great : PySem.W.codeIn K cd_first_too_great "first_too_great" = true)
    (k_first_too_great : PySem.W.keepIn K (.ref f_first_too_great) = true)
    (a_first_too_small : PySem.W.nsIn K mainGlobals "first_too_small" = some (some (.ref f_first_too_small)))
    (l_first_too_small : K.lookup f_first_too_small = some ⟨oc_first_too_small, od_first_too_small, .func (PySem.W.fnOf "first_too_small" "first_too_small" (defArgs s_first_too_small) (defBody s_first_too_small) (defScope s_first_too_small) .none kV_first_too_small dc_first_too_small pm_first_too_small an_first_too_small cd_first_too_small ct_first_too_small), sl_first_too_small⟩)
    (c_first_too_small : PySem.W.codeIn K cd_first_too_small "first_too_small" = true)
    (k_first_too_small : PySem.W.keepIn K (.ref f_first_too_small) = true)
    (a_least_wrong : PySem.W.nsIn K mainGlobals "least_wrong" = some (some (.ref f_least_wrong)))
    (l_least_wrong : K.lookup f_least_wrong = some ⟨oc_least_wrong, od_least_wrong, .func (PySem.W.fnOf "least_wrong" "least_wrong" (defArgs s_least_wrong) (defBody s_least_wrong) (defScope s_least_wrong) .none kV_least_wrong dc_least_wrong pm_least_wrong an_least_wrong cd_least_wrong ct_least_wrong), sl_least_wrong⟩)
    (c_least_wrong : PySem.W.codeIn K cd_least_wrong "least_wrong" = true)
    (k_least_wrong : PySem.W.keepIn K (.ref f_least_wrong) = true)
    (a_wrong_word : PySem.W.nsIn K mainGlobals "wrong_word" = some (some (.ref f_wrong_word)))
    (l_wrong_word : K.lookup f_wrong_word = some ⟨oc_wrong_word, od_wrong_word, .func (PySem.W.fnOf "wrong_word" "wrong_word" (defArgs s_wrong_word) (defBody s_wrong_word) (defScope s_wrong_word) .none kV_wrong_word dc_wrong_word pm_wrong_word an_wrong_word cd_wrong_word ct_wrong_word), sl_wrong_word⟩)
    (c_wrong_word : PySem.W.codeIn K cd_wrong_word "wrong_word" = true)
    (k_wrong_word : PySem.W.keepIn K (.ref f_wrong_word) = true)
    (a_l_whole : PySem.W.nsIn K mainGlobals "_law_whole" = some (some (.ref f_l_whole)))
    (l_l_whole : K.lookup f_l_whole = some ⟨oc_l_whole, od_l_whole, .func (PySem.W.fnOf "_law_whole" "_law_whole" (defArgs s_l_whole) (defBody s_l_whole) (defScope s_l_whole) .none kV_l_whole dc_l_whole pm_l_whole an_l_whole cd_l_whole ct_l_whole), sl_l_whole⟩)
    (c_l_whole : PySem.W.codeIn K cd_l_whole "_law_whole" = true)
    (k_l_whole : PySem.W.keepIn K (.ref f_l_whole) = true)
    (a_l_things : PySem.W.nsIn K mainGlobals "_law_things" = some (some (.ref f_l_things)))
    (l_l_things : K.lookup f_l_things = some ⟨oc_l_things, od_l_things, .func (PySem.W.fnOf "_law_things" "_law_things" (defArgs s_l_things) (defBody s_l_things) (defScope s_l_things) .none kV_l_things dc_l_things pm_l_things an_l_things cd_l_things ct_l_things), sl_l_things⟩)
    (c_l_things : PySem.W.codeIn K cd_l_things "_law_things" = true)
    (k_l_things : PySem.W.keepIn K (.ref f_l_things) = true)
    (a_l_corners : PySem.W.nsIn K mainGlobals "_law_corners" = some (some (.ref f_l_corners)))
    (l_l_corners : K.lookup f_l_corners = some ⟨oc_l_corners, od_l_corners, .func (PySem.W.fnOf "_law_corners" "_law_corners" (defArgs s_l_corners) (defBody s_l_corners) (defScope s_l_corners) .none kV_l_corners dc_l_corners pm_l_corners an_l_corners cd_l_corners ct_l_corners), sl_l_corners⟩)
    (c_l_corners : PySem.W.codeIn K cd_l_corners "_law_corners" = true)
    (k_l_corners : PySem.W.keepIn K (.ref f_l_corners) = true)
    (a_l_brought : PySem.W.nsIn K mainGlobals "_law_brought" = some (some (.ref f_l_brought)))
    (l_l_brought : K.lookup f_l_brought = some ⟨oc_l_brought, od_l_brought, .func (PySem.W.fnOf "_law_brought" "_law_brought" (defArgs s_l_brought) (defBody s_l_brought) (defScope s_l_brought) .none kV_l_brought dc_l_brought pm_l_brought an_l_brought cd_l_brought ct_l_brought), sl_l_brought⟩)
    (c_l_brought : PySem.W.codeIn K cd_l_brought "_law_brought" = true)
    (k_l_brought : PySem.W.keepIn K (.ref f_l_brought) = true)
    (a_l_right_to : PySem.W.nsIn K mainGlobals "_law_right_to" = some (some (.ref f_l_right_to)))
    (l_l_right_to : K.lookup f_l_right_to = some ⟨oc_l_right_to, od_l_right_to, .func (PySem.W.fnOf "_law_right_to" "_law_right_to" (defArgs s_l_right_to) (defBody s_l_right_to) (defScope s_l_right_to) .none kV_l_right_to dc_l_right_to pm_l_right_to an_l_right_to cd_l_right_to ct_l_right_to), sl_l_right_to⟩)
    (c_l_right_to : PySem.W.codeIn K cd_l_right_to "_law_right_to" = true)
    (k_l_right_to : PySem.W.keepIn K (.ref f_l_right_to) = true)
    (a_l_least : PySem.W.nsIn K mainGlobals "_law_least" = some (some (.ref f_l_least)))
    (l_l_least : K.lookup f_l_least = some ⟨oc_l_least, od_l_least, .func (PySem.W.fnOf "_law_least" "_law_least" (defArgs s_l_least) (defBody s_l_least) (defScope s_l_least) .none kV_l_least dc_l_least pm_l_least an_l_least cd_l_least ct_l_least), sl_l_least⟩)
    (c_l_least : PySem.W.codeIn K cd_l_least "_law_least" = true)
    (k_l_least : PySem.W.keepIn K (.ref f_l_least) = true)
    (a_corners_to : PySem.W.nsIn K mainGlobals "corners_to" = some (some (.ref f_corners_to)))
    (l_corners_to : K.lookup f_corners_to = some ⟨oc_corners_to, od_corners_to, .func (PySem.W.fnOf "corners_to" "corners_to" (defArgs s_corners_to) (defBody s_corners_to) (defScope s_corners_to) .none kV_corners_to dc_corners_to pm_corners_to an_corners_to cd_corners_to ct_corners_to), sl_corners_to⟩)
    (c_corners_to : PySem.W.codeIn K cd_corners_to "corners_to" = true)
    (k_corners_to : PySem.W.keepIn K (.ref f_corners_to) = true)
    (a_brought : PySem.W.nsIn K mainGlobals "brought" = some (some (.ref f_brought)))
    (l_brought : K.lookup f_brought = some ⟨oc_brought, od_brought, .func (PySem.W.fnOf "brought" "brought" (defArgs s_brought) (defBody s_brought) (defScope s_brought) .none kV_brought dc_brought pm_brought an_brought cd_brought ct_brought), sl_brought⟩)
    (c_brought : PySem.W.codeIn K cd_brought "brought" = true)
    (k_brought : PySem.W.keepIn K (.ref f_brought) = true)
    (a_holds_to : PySem.W.nsIn K mainGlobals "holds_to" = some (some (.ref f_holds_to)))
    (l_holds_to : K.lookup f_holds_to = some ⟨oc_holds_to, od_holds_to, .func (PySem.W.fnOf "holds_to" "holds_to" (defArgs s_holds_to) (defBody s_holds_to) (defScope s_holds_to) .none kV_holds_to dc_holds_to pm_holds_to an_holds_to cd_holds_to ct_holds_to), sl_holds_to⟩)
    (c_holds_to : PySem.W.codeIn K cd_holds_to "holds_to" = true)
    (k_holds_to : PySem.W.keepIn K (.ref f_holds_to) = true)
    (a_is_wrong_word : PySem.W.nsIn K mainGlobals "is_wrong_word" = some (some (.ref f_is_wrong_word)))
    (l_is_wrong_word : K.lookup f_is_wrong_word = some ⟨oc_is_wrong_word, od_is_wrong_word, .func (PySem.W.fnOf "is_wrong_word" "is_wrong_word" (defArgs s_is_wrong_word) (defBody s_is_wrong_word) (defScope s_is_wrong_word) .none kV_is_wrong_word dc_is_wrong_word pm_is_wrong_word an_is_wrong_word cd_is_wrong_word ct_is_wrong_word), sl_is_wrong_word⟩)
    (c_is_wrong_word : PySem.W.codeIn K cd_is_wrong_word "is_wrong_word" = true)
    (k_is_wrong_word : PySem.W.keepIn K (.ref f_is_wrong_word) = true)
    (a_l_first : PySem.W.nsIn K mainGlobals "_law_first" = some (some (.ref f_l_first)))
    (l_l_first : K.lookup f_l_first = some ⟨oc_l_first, od_l_first, .func (PySem.W.fnOf "_law_first" "_law_first" (defArgs s_l_first) (defBody s_l_first) (defScope s_l_first) .none kV_l_first dc_l_first pm_l_first an_l_first cd_l_first ct_l_first), sl_l_first⟩)
    (c_l_first : PySem.W.codeIn K cd_l_first "_law_first" = true)
    (k_l_first : PySem.W.keepIn K (.ref f_l_first) = true)
    (a_l_case : PySem.W.nsIn K mainGlobals "_law_case" = some (some (.ref f_l_case)))
    (l_l_case : K.lookup f_l_case = some ⟨oc_l_case, od_l_case, .func (PySem.W.fnOf "_law_case" "_law_case" (defArgs s_l_case) (defBody s_l_case) (defScope s_l_case) .none kV_l_case dc_l_case pm_l_case an_l_case cd_l_case ct_l_case), sl_l_case⟩)
    (c_l_case : PySem.W.codeIn K cd_l_case "_law_case" = true)
    (k_l_case : PySem.W.keepIn K (.ref f_l_case) = true)
    (a_l_start : PySem.W.nsIn K mainGlobals "_law_start" = some (some (.ref f_l_start)))
    (l_l_start : K.lookup f_l_start = some ⟨oc_l_start, od_l_start, .func (PySem.W.fnOf "_law_start" "_law_start" (defArgs s_l_start) (defBody s_l_start) (defScope s_l_start) .none kV_l_start dc_l_start pm_l_start an_l_start cd_l_start ct_l_start), sl_l_start⟩)
    (c_l_start : PySem.W.codeIn K cd_l_start "_law_start" = true)
    (k_l_start : PySem.W.keepIn K (.ref f_l_start) = true)
    (a_law : PySem.W.nsIn K mainGlobals "law" = some (some (.ref f_law)))
    (l_law : K.lookup f_law = some ⟨oc_law, od_law, .func (PySem.W.fnOf "law" "law" (defArgs s_law) (defBody s_law) (defScope s_law) .none kV_law dc_law pm_law an_law cd_law ct_law), sl_law⟩)
    (c_law : PySem.W.codeIn K cd_law "law" = true)
    (k_law : PySem.W.keepIn K (.ref f_law) = true)
    (km_Early : PySem.W.makesIn K K_Early = true)
    (kin_Early : PySem.W.findIn K (.ref K_Early) "__init__" = some (some (.ref f_Early___init__)))
    (kif_Early : PySem.W.isFn K (.ref f_Early___init__) = true)
    (kk_Early : PySem.W.keepIn K (.ref K_Early) = true)
    (km_More : PySem.W.makesIn K K_More = true)
    (kin_More : PySem.W.findIn K (.ref K_More) "__init__" = some (some (.ref f_More___init__)))
    (kif_More : PySem.W.isFn K (.ref f_More___init__) = true)
    (kk_More : PySem.W.keepIn K (.ref K_More) = true)
    (km_Scaled : PySem.W.makesIn K K_Scaled = true)
    (kin_Scaled : PySem.W.findIn K (.ref K_Scaled) "__init__" = some (some (.ref f_Scaled___init__)))
    (kif_Scaled : PySem.W.isFn K (.ref f_Scaled___init__) = true)
    (kk_Scaled : PySem.W.keepIn K (.ref K_Scaled) = true)
    (km_Shifted : PySem.W.makesIn K K_Shifted = true)
    (kin_Shifted : PySem.W.findIn K (.ref K_Shifted) "__init__" = some (some (.ref f_Shifted___init__)))
    (kif_Shifted : PySem.W.isFn K (.ref f_Shifted___init__) = true)
    (kk_Shifted : PySem.W.keepIn K (.ref K_Shifted) = true)
    (km_Wide : PySem.W.makesIn K K_Wide = true)
    (kin_Wide : PySem.W.findIn K (.ref K_Wide) "__init__" = some (some (.ref f_Wide___init__)))
    (kif_Wide : PySem.W.isFn K (.ref f_Wide___init__) = true)
    (kk_Wide : PySem.W.keepIn K (.ref K_Wide) = true)
    (ct_Form___init__ : PySem.W.typeIn K (.ref K_Form) = some mcc_Form___init__)
    (cr_Form___init__ : PySem.W.readsIn K K_Form mcc_Form___init__ = true)
    (cg_Form___init__ : PySem.W.specialIn K (.ref K_Form) "__getattribute__" = some (some (.builtin "type.__getattribute__")))
    (cv_Form___init__ : PySem.W.findCls K (.ref K_Form) mcc_Form___init__ "__init__" = some (.val (.ref f_Form___init__)))
    (ag_GREATEST_SHIFT : PySem.W.nsIn K mainGlobals "GREATEST_SHIFT" = some (some (.int 64 tk_GREATEST_SHIFT)))
    (ag_GREATEST_FACTOR : PySem.W.nsIn K mainGlobals "GREATEST_FACTOR" = some (some (.int 4294967295 tk_GREATEST_FACTOR)))
    (ag_LEAST_WIDTH : PySem.W.nsIn K mainGlobals "LEAST_WIDTH" = some (some (.int 4 tk_LEAST_WIDTH)))
    (ag_GREATEST_WIDTH : PySem.W.nsIn K mainGlobals "GREATEST_WIDTH" = some (some (.int 32 tk_GREATEST_WIDTH)))
    (zz_max : PySem.W.nsIn K mainGlobals "max" = some none)
    (zz_min : PySem.W.nsIn K mainGlobals "min" = some none)
    (zz_isinstance : PySem.W.nsIn K mainGlobals "isinstance" = some none)
    (zz_bool : PySem.W.nsIn K mainGlobals "bool" = some none)
    (zz_int : PySem.W.nsIn K mainGlobals "int" = some none)
    (zz_str : PySem.W.nsIn K mainGlobals "str" = some none)
    (zz_sorted : PySem.W.nsIn K mainGlobals "sorted" = some none)
    (zz_set : PySem.W.nsIn K mainGlobals "set" = some none)
    (zz_range : PySem.W.nsIn K mainGlobals "range" = some none)
    (zz_len : PySem.W.nsIn K mainGlobals "len" = some none) : Tx K mg where
  k_Early := ⟨K_Early, PySem.W.mg_of X G ak_Early, ⟨kp_Early, kh_Early, ko_Early, ks_Early⟩⟩
  k_Form := ⟨K_Form, PySem.W.mg_of X G ak_Form, ⟨kp_Form, kh_Form, ko_Form, ks_Form⟩⟩
  k_More := ⟨K_More, PySem.W.mg_of X G ak_More, ⟨kp_More, kh_More, ko_More, ks_More⟩⟩
  k_Scaled := ⟨K_Scaled, PySem.W.mg_of X G ak_Scaled, ⟨kp_Scaled, kh_Scaled, ko_Scaled, ks_Scaled⟩⟩
  k_Shifted := ⟨K_Shifted, PySem.W.mg_of X G ak_Shifted, ⟨kp_Shifted, kh_Shifted, ko_Shifted, ks_Shifted⟩⟩
  k_Wide := ⟨K_Wide, PySem.W.mg_of X G ak_Wide, ⟨kp_Wide, kh_Wide, ko_Wide, ks_Wide⟩⟩
  na_Early_early := nah_Early_early
  na_Early_factor := nah_Early_factor
  na_Early_shift := nah_Early_shift
  na_More_early := nah_More_early
  na_More_factor := nah_More_factor
  na_More_shift := nah_More_shift
  na_Scaled_early := nah_Scaled_early
  na_Scaled_factor := nah_Scaled_factor
  na_Scaled_shift := nah_Scaled_shift
  na_Shifted_early := nah_Shifted_early
  na_Shifted_factor := nah_Shifted_factor
  na_Shifted_shift := nah_Shifted_shift
  na_Wide_early := nah_Wide_early
  na_Wide_factor := nah_Wide_factor
  na_Wide_shift := nah_Wide_shift
  d_l_draw := ⟨f_l_draw, _, fun_mk (st := s_l_draw) l_l_draw c_l_draw k_l_draw, (fun_mk (st := s_l_draw) l_l_draw c_l_draw k_l_draw).binds fun _ _ _ _ _ _ us hl => match us, hl with | [_, _], _ => rfl, PySem.W.mg_of X G a_l_draw⟩
  d_l_divisor := ⟨f_l_divisor, _, fun_mk (st := s_l_divisor) l_l_divisor c_l_divisor k_l_divisor, (fun_mk (st := s_l_divisor) l_l_divisor c_l_divisor k_l_divisor).binds fun _ _ _ _ _ _ us hl => match us, hl with | [_, _], _ => rfl, PySem.W.mg_of X G a_l_divisor⟩
  d_l_twos := ⟨f_l_twos, _, fun_mk (st := s_l_twos) l_l_twos c_l_twos k_l_twos, (fun_mk (st := s_l_twos) l_l_twos c_l_twos k_l_twos).binds fun _ _ _ _ _ _ us hl => match us, hl with | [_], _ => rfl, PySem.W.mg_of X G a_l_twos⟩
  d_l_near := ⟨f_l_near, _, fun_mk (st := s_l_near) l_l_near c_l_near k_l_near, (fun_mk (st := s_l_near) l_l_near c_l_near k_l_near).binds fun _ _ _ _ _ _ us hl => match us, hl with | [_, _, _], _ => rfl, PySem.W.mg_of X G a_l_near⟩
  d_l_numbers := ⟨f_l_numbers, _, fun_mk (st := s_l_numbers) l_l_numbers c_l_numbers k_l_numbers, (fun_mk (st := s_l_numbers) l_l_numbers c_l_numbers k_l_numbers).binds fun _ _ _ _ _ _ us hl => match us, hl with | [_, _], _ => rfl, PySem.W.mg_of X G a_l_numbers⟩
  d_is_whole := ⟨f_is_whole, _, fun_mk (st := s_is_whole) l_is_whole c_is_whole k_is_whole, (fun_mk (st := s_is_whole) l_is_whole c_is_whole k_is_whole).binds fun _ _ _ _ _ _ us hl => match us, hl with | [_], _ => rfl, PySem.W.mg_of X G a_is_whole⟩
  d_is_between := ⟨f_is_between, _, fun_mk (st := s_is_between) l_is_between c_is_between k_is_between, (fun_mk (st := s_is_between) l_is_between c_is_between k_is_between).binds fun _ _ _ _ _ _ us hl => match us, hl with | [_, _, _], _ => rfl, PySem.W.mg_of X G a_is_between⟩
  d_Form___init__ := ⟨f_Form___init__, _, fun_mk (st := s_Form___init__) l_Form___init__ c_Form___init__ k_Form___init__, (fun_mk (st := s_Form___init__) l_Form___init__ c_Form___init__ k_Form___init__).binds fun _ _ _ _ _ _ us hl => match us, hl with | [_, _, _, _, _], _ => rfl⟩
  d_Wide___init__ := ⟨f_Wide___init__, _, fun_mk (st := s_Wide___init__) l_Wide___init__ c_Wide___init__ k_Wide___init__, (fun_mk (st := s_Wide___init__) l_Wide___init__ c_Wide___init__ k_Wide___init__).binds fun _ _ _ _ _ _ us hl => match us, hl with | [_, _, _], _ => rfl⟩
  d_Shifted___init__ := ⟨f_Shifted___init__, _, fun_mk (st := s_Shifted___init__) l_Shifted___init__ c_Shifted___init__ k_Shifted___init__, (fun_mk (st := s_Shifted___init__) l_Shifted___init__ c_Shifted___init__ k_Shifted___init__).binds fun _ _ _ _ _ _ us hl => match us, hl with | [_, _], _ => rfl⟩
  d_Scaled___init__ := ⟨f_Scaled___init__, _, fun_mk (st := s_Scaled___init__) l_Scaled___init__ c_Scaled___init__ k_Scaled___init__, (fun_mk (st := s_Scaled___init__) l_Scaled___init__ c_Scaled___init__ k_Scaled___init__).binds fun _ _ _ _ _ _ us hl => match us, hl with | [_, _, _], _ => rfl⟩
  d_Early___init__ := ⟨f_Early___init__, _, fun_mk (st := s_Early___init__) l_Early___init__ c_Early___init__ k_Early___init__, (fun_mk (st := s_Early___init__) l_Early___init__ c_Early___init__ k_Early___init__).binds fun _ _ _ _ _ _ us hl => match us, hl with | [_, _, _, _], _ => rfl⟩
  d_More___init__ := ⟨f_More___init__, _, fun_mk (st := s_More___init__) l_More___init__ c_More___init__ k_More___init__, (fun_mk (st := s_More___init__) l_More___init__ c_More___init__ k_More___init__).binds fun _ _ _ _ _ _ us hl => match us, hl with | [_, _, _], _ => rfl⟩
  d_l_make := ⟨f_l_make, _, fun_mk (st := s_l_make) l_l_make c_l_make k_l_make, (fun_mk (st := s_l_make) l_l_make c_l_make k_l_make).binds fun _ _ _ _ _ _ us hl => match us, hl with | [_], _ => rfl, PySem.W.mg_of X G a_l_make⟩
  d_l_other := ⟨f_l_other, _, fun_mk (st := s_l_other) l_l_other c_l_other k_l_other, (fun_mk (st := s_l_other) l_l_other c_l_other k_l_other).binds fun _ _ _ _ _ _ us hl => match us, hl with | [_, _, _, _], _ => rfl, PySem.W.mg_of X G a_l_other⟩
  d_need_width := ⟨f_need_width, _, fun_mk (st := s_need_width) l_need_width c_need_width k_need_width, (fun_mk (st := s_need_width) l_need_width c_need_width k_need_width).binds fun _ _ _ _ _ _ us hl => match us, hl with | [_], _ => rfl, PySem.W.mg_of X G a_need_width⟩
  d_need_divisor := ⟨f_need_divisor, _, fun_mk (st := s_need_divisor) l_need_divisor c_need_divisor k_need_divisor, (fun_mk (st := s_need_divisor) l_need_divisor c_need_divisor k_need_divisor).binds fun _ _ _ _ _ _ us hl => match us, hl with | [_, _], _ => rfl, PySem.W.mg_of X G a_need_divisor⟩
  d_Shifted_numbers_in := ⟨f_Shifted_numbers_in, _, fun_mk (st := s_Shifted_numbers_in) l_Shifted_numbers_in c_Shifted_numbers_in k_Shifted_numbers_in, (fun_mk (st := s_Shifted_numbers_in) l_Shifted_numbers_in c_Shifted_numbers_in k_Shifted_numbers_in).binds fun _ _ _ _ _ _ us hl => match us, hl with | [_, _], _ => rfl⟩
  mt_Shifted_numbers_in := ⟨ma_Shifted_numbers_in, mf_Shifted_numbers_in, k_Shifted_numbers_in⟩
  d_Form_numbers_in := ⟨f_Form_numbers_in, _, fun_mk (st := s_Form_numbers_in) l_Form_numbers_in c_Form_numbers_in k_Form_numbers_in, (fun_mk (st := s_Form_numbers_in) l_Form_numbers_in c_Form_numbers_in k_Form_numbers_in).binds fun _ _ _ _ _ _ us hl => match us, hl with | [_, _], _ => rfl⟩
  mt_Early_numbers_in := ⟨ma_Early_numbers_in, mf_Early_numbers_in, k_Form_numbers_in⟩
  mt_Scaled_numbers_in := ⟨ma_Scaled_numbers_in, mf_Scaled_numbers_in, k_Form_numbers_in⟩
  d_More_numbers_in := ⟨f_More_numbers_in, _, fun_mk (st := s_More_numbers_in) l_More_numbers_in c_More_numbers_in k_More_numbers_in, (fun_mk (st := s_More_numbers_in) l_More_numbers_in c_More_numbers_in k_More_numbers_in).binds fun _ _ _ _ _ _ us hl => match us, hl with | [_, _], _ => rfl⟩
  mt_More_numbers_in := ⟨ma_More_numbers_in, mf_More_numbers_in, k_More_numbers_in⟩
  d_Wide_numbers_in := ⟨f_Wide_numbers_in, _, fun_mk (st := s_Wide_numbers_in) l_Wide_numbers_in c_Wide_numbers_in k_Wide_numbers_in, (fun_mk (st := s_Wide_numbers_in) l_Wide_numbers_in c_Wide_numbers_in k_Wide_numbers_in).binds fun _ _ _ _ _ _ us hl => match us, hl with | [_, _], _ => rfl⟩
  mt_Wide_numbers_in := ⟨ma_Wide_numbers_in, mf_Wide_numbers_in, k_Wide_numbers_in⟩
  d_twos_in := ⟨f_twos_in, _, fun_mk (st := s_twos_in) l_twos_in c_twos_in k_twos_in, (fun_mk (st := s_twos_in) l_twos_in c_twos_in k_twos_in).binds fun _ _ _ _ _ _ us hl => match us, hl with | [_], _ => rfl, PySem.W.mg_of X G a_twos_in⟩
  d_numbers_for := ⟨f_numbers_for, _, fun_mk (st := s_numbers_for) l_numbers_for c_numbers_for k_numbers_for, (fun_mk (st := s_numbers_for) l_numbers_for c_numbers_for k_numbers_for).binds fun _ _ _ _ _ _ us hl => match us, hl with | [_, _, _], _ => rfl, PySem.W.mg_of X G a_numbers_for⟩
  d_first_too_great := ⟨f_first_too_great, _, fun_mk (st := s_first_too_great) l_first_too_great c_first_too_great k_first_too_great, (fun_mk (st := s_first_too_great) l_first_too_great c_first_too_great k_first_too_great).binds fun _ _ _ _ _ _ us hl => match us, hl with | [_, _, _, _], _ => rfl, PySem.W.mg_of X G a_first_too_great⟩
  d_first_too_small := ⟨f_first_too_small, _, fun_mk (st := s_first_too_small) l_first_too_small c_first_too_small k_first_too_small, (fun_mk (st := s_first_too_small) l_first_too_small c_first_too_small k_first_too_small).binds fun _ _ _ _ _ _ us hl => match us, hl with | [_, _, _, _], _ => rfl, PySem.W.mg_of X G a_first_too_small⟩
  d_least_wrong := ⟨f_least_wrong, _, fun_mk (st := s_least_wrong) l_least_wrong c_least_wrong k_least_wrong, (fun_mk (st := s_least_wrong) l_least_wrong c_least_wrong k_least_wrong).binds fun _ _ _ _ _ _ us hl => match us, hl with | [_, _, _], _ => rfl, PySem.W.mg_of X G a_least_wrong⟩
  d_wrong_word := ⟨f_wrong_word, _, fun_mk (st := s_wrong_word) l_wrong_word c_wrong_word k_wrong_word, (fun_mk (st := s_wrong_word) l_wrong_word c_wrong_word k_wrong_word).binds fun _ _ _ _ _ _ us hl => match us, hl with | [_, _, _], _ => rfl, PySem.W.mg_of X G a_wrong_word⟩
  d_l_whole := ⟨f_l_whole, _, fun_mk (st := s_l_whole) l_l_whole c_l_whole k_l_whole, (fun_mk (st := s_l_whole) l_l_whole c_l_whole k_l_whole).binds fun _ _ _ _ _ _ us hl => match us, hl with | [_], _ => rfl, PySem.W.mg_of X G a_l_whole⟩
  d_l_things := ⟨f_l_things, _, fun_mk (st := s_l_things) l_l_things c_l_things k_l_things, (fun_mk (st := s_l_things) l_l_things c_l_things k_l_things).binds fun _ _ _ _ _ _ us hl => match us, hl with | [_, _, _, _], _ => rfl, PySem.W.mg_of X G a_l_things⟩
  d_l_corners := ⟨f_l_corners, _, fun_mk (st := s_l_corners) l_l_corners c_l_corners k_l_corners, (fun_mk (st := s_l_corners) l_l_corners c_l_corners k_l_corners).binds fun _ _ _ _ _ _ us hl => match us, hl with | [_, _], _ => rfl, PySem.W.mg_of X G a_l_corners⟩
  d_l_brought := ⟨f_l_brought, _, fun_mk (st := s_l_brought) l_l_brought c_l_brought k_l_brought, (fun_mk (st := s_l_brought) l_l_brought c_l_brought k_l_brought).binds fun _ _ _ _ _ _ us hl => match us, hl with | [_, _], _ => rfl, PySem.W.mg_of X G a_l_brought⟩
  d_l_right_to := ⟨f_l_right_to, _, fun_mk (st := s_l_right_to) l_l_right_to c_l_right_to k_l_right_to, (fun_mk (st := s_l_right_to) l_l_right_to c_l_right_to k_l_right_to).binds fun _ _ _ _ _ _ us hl => match us, hl with | [_, _, _], _ => rfl, PySem.W.mg_of X G a_l_right_to⟩
  d_l_least := ⟨f_l_least, _, fun_mk (st := s_l_least) l_l_least c_l_least k_l_least, (fun_mk (st := s_l_least) l_l_least c_l_least k_l_least).binds fun _ _ _ _ _ _ us hl => match us, hl with | [_, _, _, _], _ => rfl, PySem.W.mg_of X G a_l_least⟩
  d_corners_to := ⟨f_corners_to, _, fun_mk (st := s_corners_to) l_corners_to c_corners_to k_corners_to, (fun_mk (st := s_corners_to) l_corners_to c_corners_to k_corners_to).binds fun _ _ _ _ _ _ us hl => match us, hl with | [_, _], _ => rfl, PySem.W.mg_of X G a_corners_to⟩
  d_brought := ⟨f_brought, _, fun_mk (st := s_brought) l_brought c_brought k_brought, (fun_mk (st := s_brought) l_brought c_brought k_brought).binds fun _ _ _ _ _ _ us hl => match us, hl with | [_, _], _ => rfl, PySem.W.mg_of X G a_brought⟩
  d_holds_to := ⟨f_holds_to, _, fun_mk (st := s_holds_to) l_holds_to c_holds_to k_holds_to, (fun_mk (st := s_holds_to) l_holds_to c_holds_to k_holds_to).binds fun _ _ _ _ _ _ us hl => match us, hl with | [_, _, _], _ => rfl, PySem.W.mg_of X G a_holds_to⟩
  d_is_wrong_word := ⟨f_is_wrong_word, _, fun_mk (st := s_is_wrong_word) l_is_wrong_word c_is_wrong_word k_is_wrong_word, (fun_mk (st := s_is_wrong_word) l_is_wrong_word c_is_wrong_word k_is_wrong_word).binds fun _ _ _ _ _ _ us hl => match us, hl with | [_, _, _, _], _ => rfl, PySem.W.mg_of X G a_is_wrong_word⟩
  d_l_first := ⟨f_l_first, _, fun_mk (st := s_l_first) l_l_first c_l_first k_l_first, (fun_mk (st := s_l_first) l_l_first c_l_first k_l_first).binds fun _ _ _ _ _ _ us hl => match us, hl with | [_, _, _], _ => rfl, PySem.W.mg_of X G a_l_first⟩
  d_l_case := ⟨f_l_case, _, fun_mk (st := s_l_case) l_l_case c_l_case k_l_case, (fun_mk (st := s_l_case) l_l_case c_l_case k_l_case).binds fun _ _ _ _ _ _ us hl => match us, hl with | [_], _ => rfl, PySem.W.mg_of X G a_l_case⟩
  d_l_start := ⟨f_l_start, _, fun_mk (st := s_l_start) l_l_start c_l_start k_l_start, (fun_mk (st := s_l_start) l_l_start c_l_start k_l_start).binds fun _ _ _ _ _ _ us hl => match us, hl with | [_, _], _ => rfl, PySem.W.mg_of X G a_l_start⟩
  d_law := ⟨f_law, _, fun_mk (st := s_law) l_law c_law k_law, (fun_mk (st := s_law) l_law c_law k_law).binds fun _ _ _ _ _ _ us hl => match us, hl with | [_], _ => rfl, PySem.W.mg_of X G a_law⟩
  mk_Early := ⟨km_Early, kin_Early, kif_Early, kk_Early⟩
  mk_More := ⟨km_More, kin_More, kif_More, kk_More⟩
  mk_Scaled := ⟨km_Scaled, kin_Scaled, kif_Scaled, kk_Scaled⟩
  mk_Shifted := ⟨km_Shifted, kin_Shifted, kif_Shifted, kk_Shifted⟩
  mk_Wide := ⟨km_Wide, kin_Wide, kif_Wide, kk_Wide⟩
  cc_Form___init__ := ⟨mcc_Form___init__, ⟨cr_Form___init__, cg_Form___init__⟩, cv_Form___init__⟩
  g_GREATEST_SHIFT := ⟨_, PySem.W.mg_of X G ag_GREATEST_SHIFT⟩
  g_GREATEST_FACTOR := ⟨_, PySem.W.mg_of X G ag_GREATEST_FACTOR⟩
  g_LEAST_WIDTH := ⟨_, PySem.W.mg_of X G ag_LEAST_WIDTH⟩
  g_GREATEST_WIDTH := ⟨_, PySem.W.mg_of X G ag_GREATEST_WIDTH⟩
  z_max := PySem.W.mg_none_of X G zz_max
  z_min := PySem.W.mg_none_of X G zz_min
  z_isinstance := PySem.W.mg_none_of X G zz_isinstance
  z_bool := PySem.W.mg_none_of X G zz_bool
  z_int := PySem.W.mg_none_of X G zz_int
  z_str := PySem.W.mg_none_of X G zz_str
  z_sorted := PySem.W.mg_none_of X G zz_sorted
  z_set := PySem.W.mg_none_of X G zz_set
  z_range := PySem.W.mg_none_of X G zz_range
  z_len := PySem.W.mg_none_of X G zz_len
theorem all_mk {l : PySem.W.OpenLaw} {w : World} {K : PySem.W.Frag} {h : Heap} {mg : Str → Option Value} {fa : Addr} (hfa : mg "law" = some (.ref fa)) (T : Tx K mg) :
    ∃ fd : FuncData, (∀ (s : Shared) (v : Value), BindsTo s fd ⟨[v], []⟩ [("_law_script", v)]) ∧ ∀ base : Heap, K.In base → base.Ns mainGlobals mg → FnOk l.prog w K mg base CX0 8 fa fd ["_law_script"] (sp_law K) := by
  have e := hfa.symm.trans T.d_law.m
  cases e
  refine ⟨T.d_law.fd, fun s v => ?_, fun base _ _ => ok_law T⟩
  obtain ⟨oc, od, kV, doc, pm, an, cdv, ct, osl, e, _, _⟩ := T.d_law.F.ex
  rw [e]
  exact .of_eq rfl
theorem walk {l : PySem.W.OpenLaw} {q : Program} {loose : List Str} {XP : (Str → Option Value) → Heap → Prop} {YP : World → Heap → Prop} {d : DefRec} {K : Params → PySem.W.Frag} (hn : l.most = some 63) (hdf : d.params.defaults = [])
    (hY : ∀ (w : World) (h : Heap), YP w h → (K w.params).In h)
    (F : ∀ (w : World) (mg : Str → Option Value) (fa : Addr) (h : Heap), (K w.params).In h → h.Ns mainGlobals mg → mg d.name = some (.ref fa) →
      ∃ fd : FuncData, (∀ (s : Shared) (u : Value), BindsTo s fd ⟨[u], []⟩ [("_law_script", u)]) ∧ ∀ base : Heap, (K w.params).In base → base.Ns mainGlobals mg → FnOk l.prog w (K w.params) mg base CX0 8 fa fd ["_law_script"] (sp_law (K w.params))) :
    PySem.W.WalkO q loose XP YP l.row.toRowW d [] (fun f vs => PySem.call f vs) :=
  L2.walk_of (n := 63) (k := 8) (x := "_law_script") (CX := fun _ => CX0) (sp := fun w => sp_law (K w.params)) hn (by decide) hdf ⟨rfl, by decide, by decide⟩ hY F (fun _ _ a ns hl _ hS => ⟨a, ns, rfl, hS, hl, fun _ _ => rfl⟩) fun _ _ _ _ _ z => z
end Ow
open PySem PySem.W PyProof.Rows
set_option maxRecDepth 100000 in
set_option maxHeartbeats 0 in
set_option pp.deepTerms.threshold 3 in
set_option pp.maxSteps 150 in
theorem PySem.Challenge.cw_overwise_k30_words_that_are_shown_holds : PySem.Challenge.rw_overwise_k30_words_that_are_shown.Holds := by
  w_on; o_law; k_head; (case hw => w_witness2)
  k_fill
  refine _root_.Ow.walk (l := PySem.Challenge.rw_overwise_k30_words_that_are_shown) rfl rfl (fun w h Y => PySem.W.kIn_of Y) ?F
  case F =>
    intro w mg fa h KX G hmg
    refine' _root_.Ow.all_mk (h := h) hmg (_root_.Ow.tx_mk KX G ?ak_Early ?kp_Early ?kh_Early ?ko_Early ?ks_Early ?ak_Form ?kp_Form ?kh_Form ?ko_Form ?ks_Form ?ak_More ?kp_More ?kh_More ?ko_More ?ks_More ?ak_Scaled ?kp_Scaled ?kh_Scaled ?ko_Scaled ?ks_Scaled ?ak_Shifted ?kp_Shifted ?kh_Shifted ?ko_Shifted ?ks_Shifted ?ak_Wide ?kp_Wide ?kh_Wide ?ko_Wide ?ks_Wide ?nah_Early_early ?nah_Early_factor ?nah_Early_shift ?nah_More_early ?nah_More_factor ?nah_More_shift ?nah_Scaled_early ?nah_Scaled_factor ?nah_Scaled_shift ?nah_Shifted_early ?nah_Shifted_factor ?nah_Shifted_shift ?nah_Wide_early ?nah_Wide_factor ?nah_Wide_shift ?a_l_draw ?l_l_draw ?c_l_draw ?k_l_draw ?a_l_divisor ?l_l_divisor ?c_l_divisor ?k_l_divisor ?a_l_twos ?l_l_twos ?c_l_twos ?k_l_twos ?a_l_near ?l_l_near ?c_l_near ?k_l_near ?a_l_numbers ?l_l_numbers ?c_l_numbers ?k_l_numbers ?a_is_whole ?l_is_whole ?c_is_whole ?k_is_whole ?a_is_between ?l_is_between ?c_is_between ?k_is_between ?l_Form___init__ ?c_Form___init__ ?k_Form___init__ ?l_Wide___init__ ?c_Wide___init__ ?k_Wide___init__ ?l_Shifted___init__ ?c_Shifted___init__ ?k_Shifted___init__ ?l_Scaled___init__ ?c_Scaled___init__ ?k_Scaled___init__ ?l_Early___init__ ?c_Early___init__ ?k_Early___init__ ?l_More___init__ ?c_More___init__ ?k_More___init__ ?a_l_make ?l_l_make ?c_l_make ?k_l_make ?a_l_other ?l_l_other ?c_l_other ?k_l_other ?a_need_width ?l_need_width ?c_need_width ?k_need_width ?a_need_divisor ?l_need_divisor ?c_need_divisor ?k_need_divisor ?l_Shifted_numbers_in ?c_Shifted_numbers_in ?k_Shifted_numbers_in ?ma_Shifted_numbers_in ?mf_Shifted_numbers_in ?l_Form_numbers_in ?c_Form_numbers_in ?k_Form_numbers_in ?ma_Early_numbers_in ?mf_Early_numbers_in ?ma_Scaled_numbers_in ?mf_Scaled_numbers_in ?l_More_numbers_in ?c_More_numbers_in ?k_More_numbers_in ?ma_More_numbers_in ?mf_More_numbers_in ?l_Wide_numbers_in ?c_Wide_numbers_in ?k_Wide_numbers_in ?ma_Wide_numbers_in ?mf_Wide_numbers_in ?a_twos_in ?l_twos_in ?c_twos_in ?k_twos_in ?a_numbers_for ?l_numbers_for ?c_numbers_for ?k_numbers_for ?a_first_too_great ?l_first_too_great ?c_first_too_great ?k_first_too_great ?a_first_too_small ?l_first_too_small ?c_first_too_small ?k_first_too_small ?a_least_wrong ?l_least_wrong ?c_least_wrong ?k_least_wrong ?a_wrong_word ?l_wrong_word ?c_wrong_word ?k_wrong_word ?a_l_whole ?l_l_whole ?c_l_whole ?k_l_whole ?a_l_things ?l_l_things ?c_l_things ?k_l_things ?a_l_corners ?l_l_corners ?c_l_corners ?k_l_corners ?a_l_brought ?l_l_brought ?c_l_brought ?k_l_brought ?a_l_right_to ?l_l_right_to ?c_l_right_to ?k_l_right_to ?a_l_least ?l_l_least ?c_l_least ?k_l_least ?a_corners_to ?l_corners_to ?c_corners_to ?k_corners_to ?a_brought ?l_brought ?c_brought ?k_brought ?a_holds_to ?l_holds_to ?c_holds_to ?k_holds_to ?a_is_wrong_word ?l_is_wrong_word ?c_is_wrong_word ?k_is_wrong_word ?a_l_first ?l_l_first ?c_l_first ?k_l_first ?a_l_case ?l_l_case ?c_l_case ?k_l_case ?a_l_start ?l_l_start ?c_l_start ?k_l_start ?a_law ?l_law ?c_law ?k_law ?km_Early ?kin_Early ?kif_Early ?kk_Early ?km_More ?kin_More ?kif_More ?kk_More ?km_Scaled ?kin_Scaled ?kif_Scaled ?kk_Scaled ?km_Shifted ?kin_Shifted ?kif_Shifted ?kk_Shifted ?km_Wide ?kin_Wide ?kif_Wide ?kk_Wide ?ct_Form___init__ ?cr_Form___init__ ?cg_Form___init__ ?cv_Form___init__ ?ag_GREATEST_SHIFT ?ag_GREATEST_FACTOR ?ag_LEAST_WIDTH ?ag_GREATEST_WIDTH ?zz_max ?zz_min ?zz_isinstance ?zz_bool ?zz_int ?zz_str ?zz_sorted ?zz_set ?zz_range ?zz_len)
    (case ak_Early => k_is)
    (case kp_Early => k_is)
    (case ak_Form => k_is)
    (case kp_Form => k_is)
    (case ak_More => k_is)
    (case kp_More => k_is)
    (case ak_Scaled => k_is)
    (case kp_Scaled => k_is)
    (case ak_Shifted => k_is)
    (case kp_Shifted => k_is)
    (case ak_Wide => k_is)
    (case kp_Wide => k_is)
    (case ma_Shifted_numbers_in => k_is)
    (case ma_Early_numbers_in => k_is)
    (case ma_Scaled_numbers_in => k_is)
    (case ma_More_numbers_in => k_is)
    (case ma_Wide_numbers_in => k_is)
    (case kin_Early => k_is)
    (case kin_More => k_is)
    (case kin_Scaled => k_is)
    (case kin_Shifted => k_is)
    (case kin_Wide => k_is)
    (case ct_Form___init__ => k_is)
    (case cv_Form___init__ => k_is)
    (case kh_Early => k_is)
    (case ko_Early => k_is)
    (case ks_Early => k_is)
    (case kh_Form => k_is)
    (case ko_Form => k_is)
    (case ks_Form => k_is)
    (case kh_More => k_is)
    (case ko_More => k_is)
    (case ks_More => k_is)
    (case kh_Scaled => k_is)
    (case ko_Scaled => k_is)
    (case ks_Scaled => k_is)
    (case kh_Shifted => k_is)
    (case ko_Shifted => k_is)
    (case ks_Shifted => k_is)
    (case kh_Wide => k_is)
    (case ko_Wide => k_is)
    (case ks_Wide => k_is)
    (case nah_Early_early => k_is)
    (case nah_Early_factor => k_is)
    (case nah_Early_shift => k_is)
    (case nah_More_early => k_is)
    (case nah_More_factor => k_is)
    (case nah_More_shift => k_is)
    (case nah_Scaled_early => k_is)
    (case nah_Scaled_factor => k_is)
    (case nah_Scaled_shift => k_is)
    (case nah_Shifted_early => k_is)
    (case nah_Shifted_factor => k_is)
    (case nah_Shifted_shift => k_is)
    (case nah_Wide_early => k_is)
    (case nah_Wide_factor => k_is)
    (case nah_Wide_shift => k_is)
    (case a_l_draw => k_is)
    (case l_l_draw => k_is)
    (case c_l_draw => k_is)
    (case k_l_draw => k_is)
    (case a_l_divisor => k_is)
    (case l_l_divisor => k_is)
    (case c_l_divisor => k_is)
    (case k_l_divisor => k_is)
    (case a_l_twos => k_is)
    (case l_l_twos => k_is)
    (case c_l_twos => k_is)
    (case k_l_twos => k_is)
    (case a_l_near => k_is)
    (case l_l_near => k_is)
    (case c_l_near => k_is)
    (case k_l_near => k_is)
    (case a_l_numbers => k_is)
    (case l_l_numbers => k_is)
    (case c_l_numbers => k_is)
    (case k_l_numbers => k_is)
    (case a_is_whole => k_is)
    (case l_is_whole => k_is)
    (case c_is_whole => k_is)
    (case k_is_whole => k_is)
    (case a_is_between => k_is)
    (case l_is_between => k_is)
    (case c_is_between => k_is)
    (case k_is_between => k_is)
    (case l_Form___init__ => k_is)
    (case c_Form___init__ => k_is)
    (case k_Form___init__ => k_is)
    (case l_Wide___init__ => k_is)
    (case c_Wide___init__ => k_is)
    (case k_Wide___init__ => k_is)
    (case l_Shifted___init__ => k_is)
    (case c_Shifted___init__ => k_is)
    (case k_Shifted___init__ => k_is)
    (case l_Scaled___init__ => k_is)
    (case c_Scaled___init__ => k_is)
    (case k_Scaled___init__ => k_is)
    (case l_Early___init__ => k_is)
    (case c_Early___init__ => k_is)
    (case k_Early___init__ => k_is)
    (case l_More___init__ => k_is)
    (case c_More___init__ => k_is)
    (case k_More___init__ => k_is)
    (case a_l_make => k_is)
    (case l_l_make => k_is)
    (case c_l_make => k_is)
    (case k_l_make => k_is)
    (case a_l_other => k_is)
    (case l_l_other => k_is)
    (case c_l_other => k_is)
    (case k_l_other => k_is)
    (case a_need_width => k_is)
    (case l_need_width => k_is)
    (case c_need_width => k_is)
    (case k_need_width => k_is)
    (case a_need_divisor => k_is)
    (case l_need_divisor => k_is)
    (case c_need_divisor => k_is)
    (case k_need_divisor => k_is)
    (case l_Shifted_numbers_in => k_is)
    (case c_Shifted_numbers_in => k_is)
    (case k_Shifted_numbers_in => k_is)
    (case mf_Shifted_numbers_in => k_is)
    (case l_Form_numbers_in => k_is)
    (case c_Form_numbers_in => k_is)
    (case k_Form_numbers_in => k_is)
    (case mf_Early_numbers_in => k_is)
    (case mf_Scaled_numbers_in => k_is)
    (case l_More_numbers_in => k_is)
    (case c_More_numbers_in => k_is)
    (case k_More_numbers_in => k_is)
    (case mf_More_numbers_in => k_is)
    (case l_Wide_numbers_in => k_is)
    (case c_Wide_numbers_in => k_is)
    (case k_Wide_numbers_in => k_is)
    (case mf_Wide_numbers_in => k_is)
    (case a_twos_in => k_is)
    (case l_twos_in => k_is)
    (case c_twos_in => k_is)
    (case k_twos_in => k_is)
    (case a_numbers_for => k_is)
    (case l_numbers_for => k_is)
    (case c_numbers_for => k_is)
    (case k_numbers_for => k_is)
    (case a_first_too_great => k_is)
    (case l_first_too_great => k_is)
    (case c_first_too_great => k_is)
    (case k_first_too_great => k_is)
    (case a_first_too_small => k_is)
    (case l_first_too_small => k_is)
    (case c_first_too_small => k_is)
    (case k_first_too_small => k_is)
    (case a_least_wrong => k_is)
    (case l_least_wrong => k_is)
    (case c_least_wrong => k_is)
    (case k_least_wrong => k_is)
    (case a_wrong_word => k_is)
    (case l_wrong_word => k_is)
    (case c_wrong_word => k_is)
    (case k_wrong_word => k_is)
    (case a_l_whole => k_is)
    (case l_l_whole => k_is)
    (case c_l_whole => k_is)
    (case k_l_whole => k_is)
    (case a_l_things => k_is)
    (case l_l_things => k_is)
    (case c_l_things => k_is)
    (case k_l_things => k_is)
    (case a_l_corners => k_is)
    (case l_l_corners => k_is)
    (case c_l_corners => k_is)
    (case k_l_corners => k_is)
    (case a_l_brought => k_is)
    (case l_l_brought => k_is)
    (case c_l_brought => k_is)
    (case k_l_brought => k_is)
    (case a_l_right_to => k_is)
    (case l_l_right_to => k_is)
    (case c_l_right_to => k_is)
    (case k_l_right_to => k_is)
    (case a_l_least => k_is)
    (case l_l_least => k_is)
    (case c_l_least => k_is)
    (case k_l_least => k_is)
    (case a_corners_to => k_is)
    (case l_corners_to => k_is)
    (case c_corners_to => k_is)
    (case k_corners_to => k_is)
    (case a_brought => k_is)
    (case l_brought => k_is)
    (case c_brought => k_is)
    (case k_brought => k_is)
    (case a_holds_to => k_is)
    (case l_holds_to => k_is)
    (case c_holds_to => k_is)
    (case k_holds_to => k_is)
    (case a_is_wrong_word => k_is)
    (case l_is_wrong_word => k_is)
    (case c_is_wrong_word => k_is)
    (case k_is_wrong_word => k_is)
    (case a_l_first => k_is)
    (case l_l_first => k_is)
    (case c_l_first => k_is)
    (case k_l_first => k_is)
    (case a_l_case => k_is)
    (case l_l_case => k_is)
    (case c_l_case => k_is)
    (case k_l_case => k_is)
    (case a_l_start => k_is)
    (case l_l_start => k_is)
    (case c_l_start => k_is)
    (case k_l_start => k_is)
    (case a_law => k_is)
    (case l_law => k_is)
    (case c_law => k_is)
    (case k_law => k_is)
    (case km_Early => k_is)
    (case kif_Early => k_is)
    (case kk_Early => k_is)
    (case km_More => k_is)
    (case kif_More => k_is)
    (case kk_More => k_is)
    (case km_Scaled => k_is)
    (case kif_Scaled => k_is)
    (case kk_Scaled => k_is)
    (case km_Shifted => k_is)
    (case kif_Shifted => k_is)
    (case kk_Shifted => k_is)
    (case km_Wide => k_is)
    (case kif_Wide => k_is)
    (case kk_Wide => k_is)
    (case cr_Form___init__ => k_is)
    (case cg_Form___init__ => k_is)
    (case ag_GREATEST_SHIFT => k_is)
    (case ag_GREATEST_FACTOR => k_is)
    (case ag_LEAST_WIDTH => k_is)
    (case ag_GREATEST_WIDTH => k_is)
    (case zz_max => k_is)
    (case zz_min => k_is)
    (case zz_isinstance => k_is)
    (case zz_bool => k_is)
    (case zz_int => k_is)
    (case zz_str => k_is)
    (case zz_sorted => k_is)
    (case zz_set => k_is)
    (case zz_range => k_is)
    (case zz_len => k_is)
