import PyProof.Rows.All
import Wide.All
import OpenK.AllK
import Wide.FinOn
import HandS.ForMost
import HandS.Wide
import HandS.WideBits
import HandS.IsInst
import HandS.Style
import PySem.Challenge.RW_overwise_k04_halves_and_carries
set_option Elab.async false
set_option linter.all false
set_option maxRecDepth 100000
set_option maxHeartbeats 4000000
/-! ### own rules and steps -/
namespace Ow
open PySem L2
section
variable {Q : VK} {H H' : Hp} {A B : Prop}
theorem gi {e : Int} (h : ∀ x, x = e → Q (.int x) H) : Q (.int e) H := h e rfl
theorem gl {e n : Int} (h : e = n) (q : Q (.int n) H) : Q (.int e) H := h ▸ q
theorem gs {e n : Str} (h : e = n) (q : Q (.str n) H) : Q (.str e) H := h ▸ q
theorem p2 (k : Nat) : (0 : Int) < 2 ^ k := Int.pow_pos (by decide)
theorem gpow {k : Nat} (h : ∀ x, x = (2 : Int) ^ k → 0 < x → Q (.int x) H) : Q (.int (1 * 2 ^ k)) H := by
  rw [Int.one_mul]; exact h _ rfl (p2 k)
theorem gmod {i j : Int} (hj : 0 < j) (h : ∀ x, x = i % j → 0 ≤ x → x < j → Q (.int x) H) : Q (.int (i % j)) H :=
  h _ rfl (Int.emod_nonneg _ (by omega)) (Int.emod_lt_of_pos _ hj)
theorem gmax {i j : Int} (h : ∀ x, (i ≤ x ∧ j ≤ x ∧ (x = i ∨ x = j)) → Q (.int x) H) : Q (.int (if j > i then j else i)) H := by
  apply h; split <;> omega
theorem gmin {i j : Int} (h : ∀ x, (x ≤ i ∧ x ≤ j ∧ (x = i ∨ x = j)) → Q (.int x) H) : Q (.int (if j < i then j else i)) H := by
  apply h; split <;> omega
theorem max_ite {x i j : Int} (h : x = if j > i then j else i) : i ≤ x ∧ j ≤ x ∧ (x = i ∨ x = j) := by split at h <;> omega
theorem min_ite {x i j : Int} (h : x = if j < i then j else i) : x ≤ i ∧ x ≤ j ∧ (x = i ∨ x = j) := by split at h <;> omega
theorem abs_ite {x i : Int} (h : x = if i < 0 then -i else i) : (0 ≤ i ∧ x = i) ∨ (i < 0 ∧ x = -i) := by split at h <;> omega
theorem eqi {a b : Int} (h : a = b) (q : Q (.int b) H) : Q (.int a) H := h ▸ q
theorem eqb {a b : Bool} (h : a = b) (q : Q (.bl b) H) : Q (.bl a) H := h ▸ q
theorem eqd {P : Prop} [Decidable P] (h : P) (q : Q (.bl true) H) : Q (.bl (decide P)) H := by rw [decide_eq_true h]; exact q
theorem eqnd {P : Prop} [Decidable P] (h : ¬ P) (q : Q (.bl true) H) : Q (.bl (!decide P)) H := by rw [decide_eq_false h]; exact q
theorem eqeqi {i j : Int} (h : i = j) (q : Q (.bl true) H) : Q (.bl (decide (V.int i = V.int j))) H := by rw [decide_eq_true (by rw [h])]; exact q
theorem eqnei {i j : Int} (h : i ≠ j) (q : Q (.bl true) H) : Q (.bl (!decide (V.int i = V.int j))) H := by
  rw [decide_eq_false (fun z => h (V.int.inj z))]; exact q
theorem ginteq {i j : Int} (h : ∀ n : Int, ((n = 1 ∧ i = j) ∨ (n = 0 ∧ i ≠ j)) → Q (.int n) H) : Q (.int (if decide (V.int i = V.int j) = true then 1 else 0)) H := by
  by_cases e : i = j
  · rw [if_pos (decide_eq_true (by rw [e]))]; exact h _ (.inl ⟨rfl, e⟩)
  · rw [if_neg (fun z => e (V.int.inj (of_decide_eq_true z)))]; exact h _ (.inr ⟨rfl, e⟩)
theorem gintd {P : Prop} [Decidable P] (h : ∀ n : Int, ((n = 1 ∧ P) ∨ (n = 0 ∧ ¬ P)) → Q (.int n) H) : Q (.int (if decide P = true then 1 else 0)) H := by
  by_cases e : P
  · rw [if_pos (decide_eq_true e)]; exact h _ (.inl ⟨rfl, e⟩)
  · rw [if_neg (fun z => e (of_decide_eq_true z))]; exact h _ (.inr ⟨rfl, e⟩)
theorem ifb {b : Bool} (h1 : b = true → A) (h2 : b = false → B) : if b = true then A else B := by
  cases b
  · exact iteF (h2 rfl)
  · exact iteT (h1 rfl)
theorem ifd {P : Prop} [Decidable P] (h1 : P → A) (h2 : ¬ P → B) : if decide P = true then A else B := by
  by_cases e : P
  · rw [if_pos (decide_eq_true e)]; exact h1 e
  · rw [if_neg (fun z => e (of_decide_eq_true z))]; exact h2 e
theorem ifnd {P : Prop} [Decidable P] (h1 : ¬ P → A) (h2 : P → B) : if (!decide P) = true then A else B := by
  by_cases e : P
  · rw [decide_eq_true e]; exact iteF (h2 e)
  · rw [decide_eq_false e]; exact iteT (h1 e)
theorem ifeqi {i j : Int} (h1 : i = j → A) (h2 : i ≠ j → B) : if decide (V.int i = V.int j) = true then A else B :=
  ifd (fun e => h1 (V.int.inj e)) (fun e => h2 (fun z => e (by rw [z])))
theorem ifnei {i j : Int} (h1 : i ≠ j → A) (h2 : i = j → B) : if (!decide (V.int i = V.int j)) = true then A else B :=
  ifnd (fun e => h1 (fun z => e (by rw [z]))) (fun e => h2 (V.int.inj e))
theorem ifeqs {i j : Str} (h1 : i = j → A) (h2 : i ≠ j → B) : if decide (V.str i = V.str j) = true then A else B :=
  ifd (fun e => h1 (V.str.inj e)) (fun e => h2 (fun z => e (by rw [z])))
theorem ifnes {i j : Str} (h1 : i ≠ j → A) (h2 : i = j → B) : if (!decide (V.str i = V.str j)) = true then A else B :=
  ifnd (fun e => h1 (fun z => e (by rw [z]))) (fun e => h2 (V.str.inj e))
/-! heaps -/
theorem at_new {p q : Addr} {u o : HO} (hp : H p = none) (h : H q = some o) : upd H p u q = some o := by rw [upd_ne (ne_of_none h hp)]; exact h
theorem at_mut {b q : Addr} {u o : HO} (hn : q ≠ b) (h : H q = some o) : upd H b u q = some o := by rw [upd_ne hn]; exact h
theorem same_new {p : Addr} {u : HO} (hp : H p = none) : Same H (upd H p u) := fun _ _ h => at_new hp h
theorem same_mut {b : Addr} {u : HO} (s : Same H H') (hb : H b = none) : Same H (upd H' b u) := fun q o h => by rw [upd_ne (ne_of_none h hb)]; exact s q o h
theorem ne_sym {a b : Addr} (h : a ≠ b) : b ≠ a := fun z => h z.symm
theorem seq {K : PySem.W.Frag} {a : Addr} {xs : List V} (e : Same H H') (h : SqL K H a xs) : SqL K H' a xs := e.seq h
theorem seqT {K : PySem.W.Frag} {a : Addr} {xs : List V} (e : Same H H') (h : SqT K H a xs) : SqT K H' a xs := by
  rcases h with (h | ⟨o, h⟩) | h
  · exact .inl (.inl (e _ _ h))
  · exact .inl (.inr ⟨o, e _ _ h⟩)
  · exact .inr h
end
/-! operators -/
section
variable {X : Cx}
/-- named answers -/
theorem op_mulN : OpR X (binaryOp .Mult) (fun x y H Q => ∃ i j, x = .int i ∧ y = .int j ∧ CMul i j ∧ ∀ z, z = i * j → Q (.int z) H) := by
  intro pins s σ H x y v u Q I rx ry q
  obtain ⟨i, j, rfl, rfl, hc, q⟩ := q
  exact op_mul pins s σ H _ _ v u Q I rx ry ⟨i, j, rfl, rfl, hc, q _ rfl⟩
theorem op_mulXN : OpR X (binaryOp .Mult) (fun x y H Q => ∃ i j, x = .int i ∧ y = .int j ∧ CMulX i j ∧ ∀ z, z = i * j → Q (.int z) H) := by
  intro pins s σ H x y v u Q I rx ry q
  obtain ⟨i, j, rfl, rfl, hc, q⟩ := q
  exact op_mulX pins s σ H _ _ v u Q I rx ry ⟨i, j, rfl, rfl, hc, q _ rfl⟩
theorem op_divN : OpR X (binaryOp .FloorDiv) (fun x y H Q => ∃ i j, x = .int i ∧ y = .int j ∧ CDivW i j ∧ ∀ z, z = i / j → Q (.int z) H) := by
  intro pins s σ H x y v u Q I rx ry q
  obtain ⟨i, j, rfl, rfl, hc, q⟩ := q
  exact op_fdivW pins s σ H _ _ v u Q I rx ry ⟨i, j, rfl, rfl, hc, q _ rfl⟩
theorem op_shlN : OpR X (binaryOp .LShift) (fun x y H Q => ∃ i j, x = .int i ∧ y = .int j ∧ CPow i j ∧ ∀ z, z = i * 2 ^ j.toNat → Q (.int z) H) := by
  intro pins s σ H x y v u Q I rx ry q
  obtain ⟨i, j, rfl, rfl, hc, q⟩ := q
  exact op_shl pins s σ H _ _ v u Q I rx ry ⟨i, j, rfl, rfl, hc, q _ rfl⟩
theorem op_shlXN : OpR X (binaryOp .LShift) (fun x y H Q => ∃ i j, x = .int i ∧ y = .int j ∧ CShl i j ∧ ∀ z, z = i * 2 ^ j.toNat → Q (.int z) H) := by
  intro pins s σ H x y v u Q I rx ry q
  obtain ⟨i, j, rfl, rfl, hc, q⟩ := q
  exact op_shlW pins s σ H _ _ v u Q I rx ry ⟨i, j, rfl, rfl, hc, q _ rfl⟩
theorem op_shrN : OpR X (binaryOp .RShift) (fun x y H Q => ∃ i j, x = .int i ∧ y = .int j ∧ 0 ≤ j ∧ ∀ z, z = i / 2 ^ j.toNat → Q (.int z) H) := by
  intro pins s σ H x y v u Q I rx ry q
  obtain ⟨i, j, rfl, rfl, hc, q⟩ := q
  exact op_shr pins s σ H _ _ v u Q I rx ry ⟨i, j, rfl, rfl, hc, q _ rfl⟩
theorem op_modN : OpR X (binaryOp .Mod) (fun x y H Q => ∃ i j, x = .int i ∧ y = .int j ∧ 0 < j ∧ ∀ z, z = i % j → 0 ≤ z → z < j → Q (.int z) H) := by
  intro pins s σ H x y v u Q I rx ry q
  obtain ⟨i, j, rfl, rfl, hc, q⟩ := q
  exact op_mod pins s σ H _ _ v u Q I rx ry ⟨i, j, rfl, rfl, hc, q _ rfl (Int.emod_nonneg _ (by omega)) (Int.emod_lt_of_pos _ hc)⟩
theorem op_shl1 : OpR X (binaryOp .LShift) (fun x y H Q => ∃ j, x = .int 1 ∧ y = .int j ∧ (0 ≤ j ∧ j ≤ 1000000) ∧ ∀ z, z = 2 ^ j.toNat → 0 < z → Q (.int z) H) := by
  intro pins s σ H x y v u Q I rx ry q
  obtain ⟨j, rfl, rfl, ⟨h0, h1⟩, q⟩ := q
  refine op_shl pins s σ H _ _ v u Q I rx ry ⟨1, j, rfl, rfl, ⟨h0, h1, by decide⟩, ?_⟩
  show Q (.int (1 * 2 ^ j.toNat)) H
  rw [Int.one_mul]
  exact q _ rfl (p2 _)
theorem op_mask : OpR X (binaryOp .BitAnd) (fun x y H Q => ∃ (i j : Int) (k : Nat), x = .int i ∧ y = .int j ∧ j = 2 ^ k - 1 ∧ ∀ r, r = i % 2 ^ k → 0 ≤ r → r < 2 ^ k → Q (.int r) H) := by
  intro pins s σ H x y v u Q I rx ry h
  obtain ⟨i, j, k, rfl, rfl, rfl, q⟩ := h
  refine op_andM pins s σ H _ _ v u Q I rx ry ⟨i, k, rfl, rfl, q _ rfl (Int.emod_nonneg _ ?_) (Int.emod_lt_of_pos _ (p2 k))⟩
  have := p2 k; omega
theorem op_bor : OpR X (binaryOp .BitOr) (fun x y H Q => ∃ (i j : Int), x = .int i ∧ y = .int j ∧ 0 ≤ i ∧ 0 ≤ j ∧ ∀ r, r = Builtin.bitOr i j → 0 ≤ r → Q (.int r) H) := by
  intro pins s σ H x y v u Q I rx ry h
  obtain ⟨i, j, rfl, rfl, h0, h1, q⟩ := h
  refine op_or pins s σ H _ _ v u Q I rx ry ⟨i, j, rfl, rfl, q _ rfl ?_⟩
  rw [bitOr_nn h0 h1]
  exact Int.natCast_nonneg _
theorem call_intb : CallR X (.type "int") (fun xs H Q => ∃ k, xs = [.bl k] ∧ ∀ n : Int, ((n = 1 ∧ k = true) ∨ (n = 0 ∧ k = false)) → Q (.int n) H) := by
  intro pins s σ H xs us Q I r h
  obtain ⟨k, rfl, q⟩ := h
  refine call_int1 pins s σ H _ us Q I r (.inr ⟨k, rfl, ?_⟩)
  cases k
  · exact q _ (.inr ⟨rfl, rfl⟩)
  · exact q _ (.inl ⟨rfl, rfl⟩)
/-- an int's value by a name -/
def tNmi (t : TE) : TE := fun σ H Q => t σ H fun v H1 => ∃ i, v = .int i ∧ ∀ x, x = i → Q (.int x) H1
theorem pe_nmi {e : Expr} {t : TE} (h : PE X e t) : PE X e (tNmi t) := ⟨fun pins s σ H Q I q => thn (h.run pins s σ H _ I q) fun _ _ z => by
  obtain ⟨v, H1, I1, r1, i, rfl, q1⟩ := z
  exact ⟨.int i, H1, I1, r1, q1 i rfl⟩⟩
/-- a reckoned constant -/
def tLit (n : Int) (t : TE) : TE := fun σ H Q => t σ H fun v H1 => v = .int n ∧ Q (.int n) H1
theorem pe_lit (n : Int) {e : Expr} {t : TE} (h : PE X e t) : PE X e (tLit n t) := ⟨fun pins s σ H Q I q => thn (h.run pins s σ H _ I q) fun _ _ z => by
  obtain ⟨v, H1, I1, r1, rfl, q1⟩ := z
  exact ⟨.int n, H1, I1, r1, q1⟩⟩
end
theorem pow2_mono {a b : Nat} (h : a ≤ b) : (2 : Int) ^ a ≤ 2 ^ b := by
  have e : (2 : Int) ^ b = 2 ^ a * 2 ^ (b - a) := by rw [← Int.pow_add, show a + (b - a) = b by omega]
  rw [e]
  have h1 := p2 a
  have h2 := p2 (b - a)
  calc (2 : Int) ^ a = 2 ^ a * 1 := by omega
    _ ≤ 2 ^ a * 2 ^ (b - a) := Int.mul_le_mul_of_nonneg_left (by omega) (by omega)
theorem pow2_pred {w : Int} (h : 1 ≤ w) : (2 : Int) ^ w.toNat = 2 * 2 ^ (w - 1).toNat := by
  have e : w.toNat = (w - 1).toNat + 1 := by omega
  rw [e, Int.pow_succ, Int.mul_comm]
theorem pow2_lt {a b : Int} (h0 : 0 ≤ a) (h : a < b) : (2 : Int) ^ a.toNat < 2 ^ b.toNat := by
  have h1 := pow2_mono (a := a.toNat) (b := (b - 1).toNat) (by omega)
  have h2 := pow2_pred (w := b) (by omega)
  have h3 := p2 (b - 1).toNat
  omega
theorem pow2_le32 {w : Int} (h : w ≤ 32) : (2 : Int) ^ w.toNat ≤ 4294967296 := pow2_mono (b := 32) (by omega)
theorem pow2_le64 {w : Int} (h : w ≤ 64) : (2 : Int) ^ w.toNat ≤ 18446744073709551616 := pow2_mono (b := 64) (by omega)
theorem divw64 {i j : Int} (h0 : 0 < j) (h : j ≤ 18446744073709551616) : CDivW i j := wide_div h0 (b := 65) (by omega) (by decide) (by decide)
/-- all but the object at b is as it was -/
def Fm (b : Addr) (H H' : Hp) : Prop := ∀ q o, q ≠ b → H q = some o → H' q = some o
theorem Fm.refl {b : Addr} {H : Hp} : Fm b H H := fun _ _ _ h => h
theorem Fm.same {b : Addr} {H H1 H2 : Hp} (a : Fm b H H1) (s : Same H1 H2) : Fm b H H2 := fun q o n h => s q o (a q o n h)
theorem Fm.mut {b : Addr} {H H1 : Hp} {u : HO} (a : Fm b H H1) : Fm b H (upd H1 b u) := fun q o n h => by rw [upd_ne n]; exact a q o n h
theorem Fm.mutF {b c : Addr} {H H1 : Hp} {u : HO} (a : Fm b H H1) (hc : H c = none) : Fm b H (upd H1 c u) := fun q o n h => by rw [upd_ne (ne_of_none h hc)]; exact a q o n h
theorem Fm.trans {b : Addr} {H H1 H2 : Hp} (a : Fm b H H1) (s : Fm b H1 H2) : Fm b H H2 := fun q o n h => s q o n (a q o n h)
theorem Fm.frameF {b c : Addr} {H H1 H2 : Hp} (a : Fm b H H1) (s : Fm c H1 H2) (hc : H c = none) : Fm b H H2 := fun q o n h => s q o (ne_of_none h hc) (a q o n h)
theorem Fm.free {b : Addr} {H H' : Hp} (a : Fm b H H') {o : HO} {l : Addr} (hb : H' b = some o) (h : H' l = none) : H l = none := by
  cases e : H l with
  | none => rfl
  | some u =>
    have n : l ≠ b := fun z => by rw [z, hb] at h; cases h
    rw [a l u n e] at h; cases h
theorem same_frame {c : Addr} {H H1 H2 : Hp} (s : Same H H1) (f : Fm c H1 H2) (hc : H c = none) : Same H H2 := fun q o h => f q o (ne_of_none h hc) (s q o h)
/-! items -/
section
variable {K : PySem.W.Frag} {H : Hp} {Q : VK} {a : Addr}
theorem ixi {xs : List Int} {i : Int} (h : SqL K H a (xs.map V.int)) (h0 : 0 ≤ i) (h1 : i < xs.length) (q : ∀ y, xs[i.toNat]? = some y → Q (.int y) H) : rIxL K (.ref a) (.int i) H Q := by
  obtain ⟨n, rfl⟩ : ∃ n : Nat, i = n := ⟨i.toNat, by omega⟩
  have hl : n < xs.length := by omega
  refine ⟨a, _, _, .int (xs[n]'hl), rfl, rfl, h, atI_nat ?_, q _ (List.getElem?_eq_getElem hl)⟩
  rw [List.getElem?_map, List.getElem?_eq_getElem hl]
  all_goals rfl
theorem inV_int {y : Int} {xs : List Int} (h : y ∈ xs) : (if false = true then !(inV (.int y) (xs.map V.int)) else inV (.int y) (xs.map V.int)) = true := by
  rw [if_neg Bool.false_ne_true]
  unfold inV
  rw [List.any_map, List.any_eq_true]
  exact ⟨y, h, by simp [eqV]⟩
theorem ixn {xs : List Int} {i : Int} (h : SqL K H a (xs.map V.int)) (h0 : 0 ≤ i) (h1 : i < xs.length) (q : ∀ y, xs[i.toNat]? = some y → Q (.int y) H) : rIxL K (.ref a) (.int i) H Q := ixi h h0 h1 q
theorem ixi3 {x0 x1 x2 : Int} {i : Int} (h : SqL K H a [.int x0, .int x1, .int x2]) (hi : 0 ≤ i ∧ i < 3) (q : ∀ y, ((i = 0 ∧ y = x0) ∨ (i = 1 ∧ y = x1) ∨ (i = 2 ∧ y = x2)) → Q (.int y) H) : rIxL K (.ref a) (.int i) H Q := by
  refine ixi (xs := [x0, x1, x2]) h hi.1 hi.2 fun y hy => q y ?_
  have : i = 0 ∨ i = 1 ∨ i = 2 := by omega
  rcases this with rfl | rfl | rfl <;> simp at hy <;> omega
theorem ixi4 {x0 x1 x2 x3 : Int} {i : Int} (h : SqL K H a [.int x0, .int x1, .int x2, .int x3]) (hi : 0 ≤ i ∧ i < 4) (q : ∀ y, ((i = 0 ∧ y = x0) ∨ (i = 1 ∧ y = x1) ∨ (i = 2 ∧ y = x2) ∨ (i = 3 ∧ y = x3)) → Q (.int y) H) : rIxL K (.ref a) (.int i) H Q := by
  refine ixi (xs := [x0, x1, x2, x3]) h hi.1 hi.2 fun y hy => q y ?_
  have : i = 0 ∨ i = 1 ∨ i = 2 ∨ i = 3 := by omega
  rcases this with rfl | rfl | rfl | rfl <;> simp at hy <;> omega
theorem ixi5 {x0 x1 x2 x3 x4 : Int} {i : Int} (h : SqL K H a [.int x0, .int x1, .int x2, .int x3, .int x4]) (hi : 0 ≤ i ∧ i < 5) (q : ∀ y, ((i = 0 ∧ y = x0) ∨ (i = 1 ∧ y = x1) ∨ (i = 2 ∧ y = x2) ∨ (i = 3 ∧ y = x3) ∨ (i = 4 ∧ y = x4)) → Q (.int y) H) : rIxL K (.ref a) (.int i) H Q := by
  refine ixi (xs := [x0, x1, x2, x3, x4]) h hi.1 hi.2 fun y hy => q y ?_
  have : i = 0 ∨ i = 1 ∨ i = 2 ∨ i = 3 ∨ i = 4 := by omega
  rcases this with rfl | rfl | rfl | rfl | rfl <;> simp at hy <;> omega
theorem gturn {n i : Nat} {σ : L2.St} {R : L2.St → Hp → Prop} (h : ∀ x : Int, x = (i : Int) → gName n (.int x) σ H R) : gName n (.int (0 + (i : Int))) σ H R := h _ (by omega)
/-! a for over a written list, turn by turn -/
def unr (K : PySem.W.Frag) (a : Addr) (xs : List V) (g : TG) (tb : TS) (D : Ends) : List V → L2.St → Hp → Prop
  | [], σ, H => SqL K H a xs ∧ D.nx σ H
  | x :: r, σ, H => SqL K H a xs ∧ g x σ H fun σ2 H2 => tb { D with nx := unr K a xs g tb D r, ct := unr K a xs g tb D r, bk := D.nx } σ2 H2
theorem un_start {xs : List V} {g : TG} {tb : TS} {D : Ends} {σ : L2.St} (h : unr K a xs g tb D xs σ H) :
    ∃ W : Nat → Nat → L2.St → Hp → Prop, (∃ m, W 0 m σ H) ∧ ∀ i m σ H, W i m σ H →
      ((Itl K a).stop i H ∧ D.nx σ H) ∨ ((Itl K a).go i H ∧ ∃ N : L2.St → Hp → Prop, (∀ σ' H', N σ' H' → ∃ m', m' < m ∧ W (i + 1) m' σ' H') ∧ ∀ x H', (Itl K a).yld i H x H' → g x σ H' fun σ2 H2 => tb { D with nx := N, ct := N, bk := D.nx } σ2 H2) := by
  refine ⟨fun i m σ H => m = xs.length - i ∧ i ≤ xs.length ∧ unr K a xs g tb D (xs.drop i) σ H, ⟨xs.length, by simp, Nat.zero_le _, h⟩, ?_⟩
  rintro i m σ H ⟨rfl, hi, p⟩
  by_cases hlt : i < xs.length
  · rw [List.drop_eq_getElem_cons hlt] at p
    obtain ⟨q, p⟩ := p
    refine .inr ⟨⟨xs, xs[i], q, by simp [hlt]⟩, unr K a xs g tb D (xs.drop (i + 1)), fun σ' H' p' => ⟨xs.length - (i + 1), by omega, rfl, hlt, p'⟩, fun x H' y => ?_⟩
    obtain ⟨e, y⟩ := y
    subst e
    have e2 := y xs q
    rw [List.getElem?_eq_getElem hlt] at e2
    cases e2
    exact p
  · have e : i = xs.length := by omega
    subst e
    rw [List.drop_length] at p
    obtain ⟨q, p⟩ := p
    exact .inl ⟨⟨xs, q, Nat.le_refl _⟩, p⟩
end
/-- a def that stands behind the top -/
structure Dk (K : PySem.W.Frag) (mg : Str → Option Value) (x qual : Str) (st : Stmt) (ps : List Str) : Type where
  f : Addr
  fd : FuncData
  F : Fun K x qual st f fd
  b : Binds K fd ps []
  m : mg x = some (.ref f)
end Ow

namespace Ow
open PySem L2
local macro_rules | `(tactic| walk_at "ob") => `(tactic| first | assumption | omega | exact ⟨by omega, by omega⟩ | exact ⟨by omega, by omega, by omega⟩ | exact Ow.divw64 (by omega) (by omega) | exact Or.inl ⟨by omega, by omega⟩ | exact Or.inr ⟨by omega, by omega⟩)

/-- the count of a word -/
def cnt (w a : Int) : Int := if a < 2 ^ (w - 1).toNat then a else a - 2 ^ w.toNat
theorem dm (a : Int) {n : Int} (h : 0 < n) : a = a / n * n + a % n ∧ 0 ≤ a % n ∧ a % n < n :=
  ⟨(Int.ediv_mul_add_emod a n).symm, Int.emod_nonneg _ (by omega), Int.emod_lt_of_pos _ h⟩
theorem quo01 {a n : Int} (h : 0 < n) (h0 : 0 ≤ a) (h1 : a < 2 * n) : a / n = 0 ∨ a / n = 1 := by
  have h2 : a / n < 2 := Int.ediv_lt_of_lt_mul h h1
  have h3 : 0 ≤ a / n := Int.ediv_nonneg h0 (by omega)
  omega
theorem gapx {a b n : Int} (h : 0 < n) (a0 : 0 ≤ a) (a1 : a < n) (b0 : 0 ≤ b) (b1 : b < n) : (a - b) % n = if a < b then a - b + n else a - b := by
  split
  · rw [← Int.add_emod_right, Int.emod_eq_of_lt (by omega) (by omega)]
  · rw [Int.emod_eq_of_lt (by omega) (by omega)]
theorem high_lt {a b n : Int} (h : 0 < n) (a0 : 0 ≤ a) (a1 : a < n) (b0 : 0 ≤ b) (b1 : b < n) : 0 ≤ a * b / n ∧ a * b / n < n := by
  have h1 : 0 ≤ a * b := Int.mul_nonneg a0 b0
  refine ⟨Int.ediv_nonneg h1 (by omega), Int.ediv_lt_of_lt_mul h ?_⟩
  calc a * b ≤ a * n := Int.mul_le_mul_of_nonneg_left (by omega) a0
    _ < n * n := Int.mul_lt_mul_of_pos_right a1 h
theorem rgt {a : Int} (a0 : 0 ≤ a) (k : Nat) : 0 ≤ a / 2 ^ k ∧ a / 2 ^ k ≤ a := by
  refine ⟨Int.ediv_nonneg a0 (by have := p2 k; omega), Int.ediv_le_self _ a0⟩
theorem sub_mod (a n : Int) : (a - a % n) % n = 0 := by
  have h := Int.ediv_mul_add_emod a n
  have e : a - a % n = n * (a / n) := by rw [Int.mul_comm]; omega
  rw [e, Int.mul_emod_right]
theorem top_bit {w a : Int} (hw : 1 ≤ w) (h0 : 0 ≤ a) (h1 : a < 2 ^ w.toNat) : (a / 2 ^ (w - 1).toNat = 1 ∧ 2 ^ (w - 1).toNat ≤ a) ∨ (a / 2 ^ (w - 1).toNat = 0 ∧ a < 2 ^ (w - 1).toNat) := by
  have e := pow2_pred hw
  have p := p2 (w - 1).toNat
  by_cases h : a < 2 ^ (w - 1).toNat
  · exact .inr ⟨Int.ediv_eq_zero_of_lt h0 h, h⟩
  · refine .inl ⟨?_, by omega⟩
    have h2 := quo01 p h0 (by omega)
    have h3 : 1 ≤ a / 2 ^ (w - 1).toNat := (Int.le_ediv_iff_mul_le p).mpr (by omega)
    omega
/-- the count of the rest of a number that is a count -/
theorem cnt_rest {w x : Int} (hw : 1 ≤ w) (h0 : -(2 ^ (w - 1).toNat) ≤ x) (h1 : x < 2 ^ (w - 1).toNat) : cnt w (x % 2 ^ w.toNat) = x := by
  have e := pow2_pred hw
  have p := p2 (w - 1).toNat
  unfold cnt
  by_cases h : 0 ≤ x
  · rw [Int.emod_eq_of_lt h (by omega), if_pos h1]
  · rw [← Int.add_emod_right, Int.emod_eq_of_lt (by omega) (by omega), if_neg (by omega)]
    omega
theorem cnt_lt {w a : Int} (hw : 1 ≤ w) (h0 : 0 ≤ a) (h1 : a < 2 ^ w.toNat) : -(2 ^ (w - 1).toNat) ≤ cnt w a ∧ cnt w a < 2 ^ (w - 1).toNat := by
  have e := pow2_pred hw
  unfold cnt
  split <;> omega
theorem down {x n : Int} (h : 0 < n) : 0 ≤ x - x / n * n ∧ x - x / n * n < n := by
  have := dm x h
  omega
theorem slid {w x k : Int} (hw : 1 ≤ w) (h0 : -(2 ^ (w - 1).toNat) ≤ x) (h1 : x < 2 ^ (w - 1).toNat) (n : Nat) :
    0 ≤ x - cnt w (x / 2 ^ n % 2 ^ w.toNat) * 2 ^ n ∧ x - cnt w (x / 2 ^ n % 2 ^ w.toNat) * 2 ^ n < 2 ^ n := by
  have p := p2 n
  have p1 := p2 (w - 1).toNat
  have a1 : -(2 ^ (w - 1).toNat) ≤ x / 2 ^ n := by
    refine (Int.le_ediv_iff_mul_le p).mpr ?_
    have : (2 : Int) ^ (w - 1).toNat * 1 ≤ 2 ^ (w - 1).toNat * 2 ^ n := Int.mul_le_mul_of_nonneg_left (by omega) (by omega)
    have e : -(2 : Int) ^ (w - 1).toNat * 2 ^ n = -(2 ^ (w - 1).toNat * 2 ^ n) := Int.neg_mul _ _
    omega
  have a2 : x / 2 ^ n < 2 ^ (w - 1).toNat := by
    refine Int.ediv_lt_of_lt_mul p ?_
    have : (2 : Int) ^ (w - 1).toNat * 1 ≤ 2 ^ (w - 1).toNat * 2 ^ n := Int.mul_le_mul_of_nonneg_left (by omega) (by omega)
    omega
  rw [cnt_rest hw a1 a2]
  exact down p

def top (i : Nat) : Stmt := PySem.Challenge.pw_overwise_k04_halves_and_carries.main.body.getD i (.Pass ⟨0, 0, 0, 0⟩)
abbrev s_l_box : Stmt := top 18
theorem sc_l_box : FnScope ["_law_cell_here"] ["_law_cell_here"] (defScope s_l_box) := ⟨rfl, rfl, rfl, by decide +kernel, rfl, by decide +kernel, by decide +kernel⟩
def sp_l_box (K : PySem.W.Frag) : Sp := fun vs H Q E => ∃ (cell : Int), vs = [.int cell] ∧ (∀ (a : Int), ∀ (m : Int), ∀ p, H p = none → Q (.ref p) (upd H p (.lst [.int (a), .int (m), .int (0)])))
abbrev s_l_take : Stmt := top 19
theorem sc_l_take : FnScope ["_law_box_here", "_law_many", "_law_digit", "_law_number"] ["_law_box_here", "_law_many"] (defScope s_l_take) := ⟨rfl, rfl, rfl, by decide +kernel, rfl, by decide +kernel, by decide +kernel⟩
def sp_l_take (K : PySem.W.Frag) : Sp := fun vs H Q E => ∃ (box : Addr) (many : Int) (a : Int) (m : Int) (c : Int), vs = [.ref box, .int many] ∧ H box = some (.lst [.int (a), .int (m), .int (c)]) ∧ (0 < many) ∧ (many ≤ 18446744073709551616) ∧ (∀ (r : Int), ∀ (a2 : Int), ∀ (c2 : Int), (0 ≤ r) → (r < many) → Q (.int (r)) (upd H box (.lst [.int (a2), .int (m), .int (c2)])))
abbrev s_l_bits : Stmt := top 20
theorem sc_l_bits : FnScope ["_law_box_here", "_law_width", "_law_way", "_law_half", "_law_high"] ["_law_box_here", "_law_width"] (defScope s_l_bits) := ⟨rfl, rfl, rfl, by decide +kernel, rfl, by decide +kernel, by decide +kernel⟩
def sp_l_bits (K : PySem.W.Frag) : Sp := fun vs H Q E => ∃ (box : Addr) (width : Int) (a : Int) (m : Int) (c : Int), vs = [.ref box, .int width] ∧ H box = some (.lst [.int (a), .int (m), .int (c)]) ∧ (4 ≤ width) ∧ (width ≤ 32) ∧ (∀ (r : Int), ∀ (a2 : Int), ∀ (c2 : Int), (0 ≤ r) → (r < 2 ^ width.toNat) → ∀ H', Ow.Fm box H H' → H' box = some (.lst [.int (a2), .int (m), .int (c2)]) → Q (.int (r)) H')
abbrev s_l_cell : Stmt := top 17
theorem sc_l_cell : FnScope ["_law_script", "_law_k"] ["_law_script", "_law_k"] (defScope s_l_cell) := ⟨rfl, rfl, rfl, by decide +kernel, rfl, by decide +kernel, by decide +kernel⟩
def sp_l_cell (K : PySem.W.Frag) : Sp := fun vs H Q E => ∃ (script : Addr) (k : Int) (ns : List Int), vs = [.ref script, .int k] ∧ SqL K H script (ns.map V.int) ∧ (0 ≤ k) ∧ (∀ (x : Int), Q (.int (x)) H)
abbrev s_is_whole : Stmt := top 6
theorem sc_is_whole : FnScope ["thing"] ["thing"] (defScope s_is_whole) := ⟨rfl, rfl, rfl, by decide +kernel, rfl, by decide +kernel, by decide +kernel⟩
def sp_is_whole (K : PySem.W.Frag) : Sp := fun vs H Q E => ∃ (thing : Int), vs = [.int thing] ∧ (Q (.bl (true)) H)
abbrev s_need_width : Stmt := top 7
theorem sc_need_width : FnScope ["width"] ["width"] (defScope s_need_width) := ⟨rfl, rfl, rfl, by decide +kernel, rfl, by decide +kernel, by decide +kernel⟩
def sp_need_width (K : PySem.W.Frag) : Sp := fun vs H Q E => ∃ (width : Int), vs = [.int width] ∧ (4 ≤ width) ∧ (width ≤ 32) ∧ (Q (.non) H)
abbrev s_cut : Stmt := top 8
theorem sc_cut : FnScope ["width", "number"] ["width", "number"] (defScope s_cut) := ⟨rfl, rfl, rfl, by decide +kernel, rfl, by decide +kernel, by decide +kernel⟩
def sp_cut (K : PySem.W.Frag) : Sp := fun vs H Q E => ∃ (width : Int) (number : Int), vs = [.int width, .int number] ∧ (0 ≤ width) ∧ (width ≤ 64) ∧ (∀ (r : Int), (r = number % 2 ^ width.toNat) → (0 ≤ r) → (r < 2 ^ width.toNat) → Q (.int (r)) H)
abbrev s_sum_of : Stmt := top 9
theorem sc_sum_of : FnScope ["width", "a", "b"] ["width", "a", "b"] (defScope s_sum_of) := ⟨rfl, rfl, rfl, by decide +kernel, rfl, by decide +kernel, by decide +kernel⟩
def sp_sum_of (K : PySem.W.Frag) : Sp := fun vs H Q E => ∃ (width : Int) (a : Int) (b : Int), vs = [.int width, .int a, .int b] ∧ (4 ≤ width) ∧ (width ≤ 32) ∧ (0 ≤ a) ∧ (a < 2 ^ width.toNat) ∧ (0 ≤ b) ∧ (b < 2 ^ width.toNat) ∧ (∀ (x : Int), ∀ (y : Int), (a + b = y * 2 ^ width.toNat + x) → (0 ≤ x) → (x < 2 ^ width.toNat) → (y = 0 ∨ y = 1) → ∀ p, H p = none → Q (.ref p) (upd H p (.tup [.int (x), .int (y)])))
abbrev s_gap_of : Stmt := top 10
theorem sc_gap_of : FnScope ["width", "a", "b"] ["width", "a", "b"] (defScope s_gap_of) := ⟨rfl, rfl, rfl, by decide +kernel, rfl, by decide +kernel, by decide +kernel⟩
def sp_gap_of (K : PySem.W.Frag) : Sp := fun vs H Q E => ∃ (width : Int) (a : Int) (b : Int), vs = [.int width, .int a, .int b] ∧ (4 ≤ width) ∧ (width ≤ 32) ∧ (0 ≤ a) ∧ (a < 2 ^ width.toNat) ∧ (0 ≤ b) ∧ (b < 2 ^ width.toNat) ∧ (∀ (x : Int), ∀ (y : Int), (a - b = x - y * 2 ^ width.toNat) → (0 ≤ x) → (x < 2 ^ width.toNat) → (y = 0 ∨ y = 1) → ∀ p, H p = none → Q (.ref p) (upd H p (.tup [.int (x), .int (y)])))
abbrev s_low_product : Stmt := top 11
theorem sc_low_product : FnScope ["width", "a", "b"] ["width", "a", "b"] (defScope s_low_product) := ⟨rfl, rfl, rfl, by decide +kernel, rfl, by decide +kernel, by decide +kernel⟩
def sp_low_product (K : PySem.W.Frag) : Sp := fun vs H Q E => ∃ (width : Int) (a : Int) (b : Int), vs = [.int width, .int a, .int b] ∧ (4 ≤ width) ∧ (width ≤ 32) ∧ (0 ≤ a) ∧ (a < 2 ^ width.toNat) ∧ (0 ≤ b) ∧ (b < 2 ^ width.toNat) ∧ (∀ (r : Int), (r = a * b % 2 ^ width.toNat) → (0 ≤ r) → (r < 2 ^ width.toNat) → Q (.int (r)) H)
abbrev s_high_product : Stmt := top 12
theorem sc_high_product : FnScope ["width", "a", "b"] ["width", "a", "b"] (defScope s_high_product) := ⟨rfl, rfl, rfl, by decide +kernel, rfl, by decide +kernel, by decide +kernel⟩
def sp_high_product (K : PySem.W.Frag) : Sp := fun vs H Q E => ∃ (width : Int) (a : Int) (b : Int), vs = [.int width, .int a, .int b] ∧ (4 ≤ width) ∧ (width ≤ 32) ∧ (0 ≤ a) ∧ (a < 2 ^ width.toNat) ∧ (0 ≤ b) ∧ (b < 2 ^ width.toNat) ∧ (∀ (r : Int), (r = a * b / 2 ^ width.toNat) → (0 ≤ r) → (r < 2 ^ width.toNat) → Q (.int (r)) H)
abbrev s_l_word : Stmt := top 21
theorem sc_l_word : FnScope ["_law_found", "_law_width"] ["_law_found", "_law_width"] (defScope s_l_word) := ⟨rfl, rfl, rfl, by decide +kernel, rfl, by decide +kernel, by decide +kernel⟩
def sp_l_word (K : PySem.W.Frag) : Sp := fun vs H Q E => ∃ (found : Int) (width : Int), vs = [.int found, .int width] ∧ (4 ≤ width) ∧ (width ≤ 32) ∧ (0 ≤ found) ∧ (found < 2 ^ width.toNat) ∧ (Q (.bl (true)) H)
abbrev s_l_two : Stmt := top 22
theorem sc_l_two : FnScope ["_law_found", "_law_width"] ["_law_found", "_law_width"] (defScope s_l_two) := ⟨rfl, rfl, rfl, by decide +kernel, rfl, by decide +kernel, by decide +kernel⟩
def sp_l_two (K : PySem.W.Frag) : Sp := fun vs H Q E => ∃ (found : Addr) (width : Int) (x : Int) (y : Int), vs = [.ref found, .int width] ∧ H found = some (.tup [.int (x), .int (y)]) ∧ (4 ≤ width) ∧ (width ≤ 32) ∧ (0 ≤ x) ∧ (x < 2 ^ width.toNat) ∧ (y = 0 ∨ y = 1) ∧ (∀ H', Same H H' → Q (.bl (true)) H')
abbrev s_l_both_right : Stmt := top 23
theorem sc_l_both_right : FnScope ["_law_width", "_law_a", "_law_b", "_law_size", "_law_whole", "_law_gap", "_law_low", "_law_high"] ["_law_width", "_law_a", "_law_b"] (defScope s_l_both_right) := ⟨rfl, rfl, rfl, by decide +kernel, rfl, by decide +kernel, by decide +kernel⟩
def sp_l_both_right (K : PySem.W.Frag) : Sp := fun vs H Q E => ∃ (width : Int) (a : Int) (b : Int), vs = [.int width, .int a, .int b] ∧ (4 ≤ width) ∧ (width ≤ 32) ∧ (0 ≤ a) ∧ (a < 2 ^ width.toNat) ∧ (0 ≤ b) ∧ (b < 2 ^ width.toNat) ∧ (∀ H', Same H H' → Q (.bl (true)) H')
abbrev s_left : Stmt := top 13
theorem sc_left : FnScope ["width", "a", "k"] ["width", "a", "k"] (defScope s_left) := ⟨rfl, rfl, rfl, by decide +kernel, rfl, by decide +kernel, by decide +kernel⟩
def sp_left (K : PySem.W.Frag) : Sp := fun vs H Q E => ∃ (width : Int) (a : Int) (k : Int), vs = [.int width, .int a, .int k] ∧ (4 ≤ width) ∧ (width ≤ 32) ∧ (0 ≤ a) ∧ (a < 2 ^ width.toNat) ∧ (0 ≤ k) ∧ (k < width) ∧ (∀ (r : Int), ((a * 2 ^ k.toNat - r) % 2 ^ width.toNat = 0) → (0 ≤ r) → (r < 2 ^ width.toNat) → Q (.int (r)) H)
abbrev s_right : Stmt := top 14
theorem sc_right : FnScope ["width", "a", "k"] ["width", "a", "k"] (defScope s_right) := ⟨rfl, rfl, rfl, by decide +kernel, rfl, by decide +kernel, by decide +kernel⟩
def sp_right (K : PySem.W.Frag) : Sp := fun vs H Q E => ∃ (width : Int) (a : Int) (k : Int), vs = [.int width, .int a, .int k] ∧ (4 ≤ width) ∧ (width ≤ 32) ∧ (0 ≤ a) ∧ (a < 2 ^ width.toNat) ∧ (0 ≤ k) ∧ (k < width) ∧ (∀ (r : Int), (0 ≤ a - r * 2 ^ k.toNat) → (a - r * 2 ^ k.toNat < 2 ^ k.toNat) → (0 ≤ r) → (r < 2 ^ width.toNat) → Q (.int (r)) H)
abbrev s_slide : Stmt := top 15
theorem sc_slide : FnScope ["width", "a", "k"] ["width", "a", "k"] (defScope s_slide) := ⟨rfl, rfl, rfl, by decide +kernel, rfl, by decide +kernel, by decide +kernel⟩
def sp_slide (K : PySem.W.Frag) : Sp := fun vs H Q E => ∃ (width : Int) (a : Int) (k : Int), vs = [.int width, .int a, .int k] ∧ (4 ≤ width) ∧ (width ≤ 32) ∧ (0 ≤ a) ∧ (a < 2 ^ width.toNat) ∧ (0 ≤ k) ∧ (k < width) ∧ (∀ (r : Int), (0 ≤ Ow.cnt width a - Ow.cnt width r * 2 ^ k.toNat) → (Ow.cnt width a - Ow.cnt width r * 2 ^ k.toNat < 2 ^ k.toNat) → (0 ≤ r) → (r < 2 ^ width.toNat) → Q (.int (r)) H)
abbrev s_l_count : Stmt := top 24
theorem sc_l_count : FnScope ["_law_width", "_law_word_here"] ["_law_width", "_law_word_here"] (defScope s_l_count) := ⟨rfl, rfl, rfl, by decide +kernel, rfl, by decide +kernel, by decide +kernel⟩
def sp_l_count (K : PySem.W.Frag) : Sp := fun vs H Q E => ∃ (width : Int) (word : Int), vs = [.int width, .int word] ∧ (4 ≤ width) ∧ (width ≤ 32) ∧ (0 ≤ word) ∧ (word < 2 ^ width.toNat) ∧ (∀ (r : Int), (r = Ow.cnt width word) → (-4294967296 ≤ r) → (r ≤ 4294967296) → Q (.int (r)) H)
abbrev s_l_moved_right : Stmt := top 25
theorem sc_l_moved_right : FnScope ["_law_width", "_law_a", "_law_k", "_law_up", "_law_down", "_law_slid"] ["_law_width", "_law_a", "_law_k"] (defScope s_l_moved_right) := ⟨rfl, rfl, rfl, by decide +kernel, rfl, by decide +kernel, by decide +kernel⟩
def sp_l_moved_right (K : PySem.W.Frag) : Sp := fun vs H Q E => ∃ (width : Int) (a : Int) (k : Int), vs = [.int width, .int a, .int k] ∧ (4 ≤ width) ∧ (width ≤ 32) ∧ (0 ≤ a) ∧ (a < 2 ^ width.toNat) ∧ (0 ≤ k) ∧ (k < width) ∧ (Q (.bl (true)) H)
abbrev s_law : Stmt := top 26
theorem sc_law : FnScope ["_law_script", "_law_j", "_law_box_here", "_law_width", "_law_a", "_law_b", "_law_k", "_law_one", "_law_other", "_law_word_here", "_law_places"] ["_law_script"] (defScope s_law) := ⟨rfl, rfl, rfl, by decide +kernel, rfl, by decide +kernel, by decide +kernel⟩
def sp_law (K : PySem.W.Frag) : Sp := fun vs H Q E => ∃ (script : Addr) (ns : List Int), vs = [.ref script] ∧ SqL K H script (ns.map V.int) ∧ (ns.length ≤ 63) ∧ (∀ H', Same H H' → Q (.bl (true)) H')
structure Tx (K : PySem.W.Frag) (mg : Str → Option Value) : Type where
  d_l_box : Ow.Dk K mg "_law_box" "_law_box" s_l_box ["_law_cell_here"]
  d_l_take : Ow.Dk K mg "_law_take" "_law_take" s_l_take ["_law_box_here", "_law_many"]
  d_l_bits : Ow.Dk K mg "_law_bits" "_law_bits" s_l_bits ["_law_box_here", "_law_width"]
  d_l_cell : Ow.Dk K mg "_law_cell" "_law_cell" s_l_cell ["_law_script", "_law_k"]
  d_is_whole : Ow.Dk K mg "is_whole" "is_whole" s_is_whole ["thing"]
  d_need_width : Ow.Dk K mg "need_width" "need_width" s_need_width ["width"]
  d_cut : Ow.Dk K mg "cut" "cut" s_cut ["width", "number"]
  d_sum_of : Ow.Dk K mg "sum_of" "sum_of" s_sum_of ["width", "a", "b"]
  d_gap_of : Ow.Dk K mg "gap_of" "gap_of" s_gap_of ["width", "a", "b"]
  d_low_product : Ow.Dk K mg "low_product" "low_product" s_low_product ["width", "a", "b"]
  d_high_product : Ow.Dk K mg "high_product" "high_product" s_high_product ["width", "a", "b"]
  d_l_word : Ow.Dk K mg "_law_word" "_law_word" s_l_word ["_law_found", "_law_width"]
  d_l_two : Ow.Dk K mg "_law_two" "_law_two" s_l_two ["_law_found", "_law_width"]
  d_l_both_right : Ow.Dk K mg "_law_both_right" "_law_both_right" s_l_both_right ["_law_width", "_law_a", "_law_b"]
  d_left : Ow.Dk K mg "left" "left" s_left ["width", "a", "k"]
  d_right : Ow.Dk K mg "right" "right" s_right ["width", "a", "k"]
  d_slide : Ow.Dk K mg "slide" "slide" s_slide ["width", "a", "k"]
  d_l_count : Ow.Dk K mg "_law_count" "_law_count" s_l_count ["_law_width", "_law_word_here"]
  d_l_moved_right : Ow.Dk K mg "_law_moved_right" "_law_moved_right" s_l_moved_right ["_law_width", "_law_a", "_law_k"]
  d_law : Ow.Dk K mg "law" "law" s_law ["_law_script"]
  g_LEAST_WIDTH : ∃ t, mg "LEAST_WIDTH" = some (.int 4 t)
  g_GREATEST_WIDTH : ∃ t, mg "GREATEST_WIDTH" = some (.int 32 t)
  z_max : mg "max" = none
  z_len : mg "len" = none
  z_isinstance : mg "isinstance" = none
  z_bool : mg "bool" = none
  z_int : mg "int" = none
  z_tuple : mg "tuple" = none
  z_range : mg "range" = none
  z_min : mg "min" = none
section
variable {P : Program} {w : World} {K : PySem.W.Frag} {mg : Str → Option Value} {base : Heap}
theorem ok_l_box (T : Tx K mg) : FnOk P w K mg base CX0 1 T.d_l_box.f T.d_l_box.fd ["_law_cell_here"] (sp_l_box K) := by
  refine T.d_l_box.F.ok sc_l_box (fun vs H Q E h => ?_) (fun cdv A outer s H vs Q E hr h => ?_)
  · obtain ⟨cell, rfl, _⟩ := h
    rfl
  · obtain ⟨cell, rfl, kont⟩ := h
    refine ⟨_, (pss_one (ps_ret (pe_lst (pa_cons (Ow.pe_nmi (pe_callB (call_max2 rfl) (by rfl) T.z_max (by decide +kernel) (pa_cons pe_int (pa_cons (pe_op op_sub (pv 0) (Ow.pe_lit (1000000000000000000) (pe_op op_pow pe_int pe_int))) pa_nil)))) (pa_cons (pe_op Ow.op_modN (pv 0) pe_int) (pa_cons pe_int pa_nil)))))), ?_⟩
    refine ⟨_, rfl, ?_⟩
    refine ⟨_, _, rfl, rfl, ⟨by decide, by decide, by decide⟩, ?_⟩
    refine ⟨by decide, ?_⟩
    refine ⟨_, _, rfl, rfl, ?_⟩
    refine ⟨_, _, rfl, ?_⟩
    refine ⟨_, rfl, fun m h_m => ?_⟩
    have hm_m := Ow.max_ite h_m
    refine ⟨_, rfl, ?_⟩
    refine ⟨_, _, rfl, rfl, (by first | assumption | exact Ow.divw64 (by omega) (by omega) | exact Or.inl ⟨by omega, by omega⟩ | exact Or.inr ⟨by omega, by omega⟩ | exact ⟨by omega, by omega⟩ | exact ⟨by omega, by omega, by omega⟩ | omega | (subst_vars; omega)), fun r h_r h0_r h1_r => ?_⟩
    refine ⟨by show 3 ≤ sizeLine; decide, fun p h_p => ?_⟩
    exact kont m r _ h_p
theorem ok_l_take (T : Tx K mg) : FnOk P w K mg base CX0 1 T.d_l_take.f T.d_l_take.fd ["_law_box_here", "_law_many"] (sp_l_take K) := by
  refine T.d_l_take.F.ok sc_l_take (fun vs H Q E h => ?_) (fun cdv A outer s H vs Q E hr h => ?_)
  · obtain ⟨box, many, a, m, c, rfl, _⟩ := h
    rfl
  · obtain ⟨box, many, a, m, c, rfl, c0, c1, c2, kont⟩ := h
    refine ⟨_, (pss_cons (ps_if (pt_cmpR op_gt (pe_ix ix_list (pv 0) pe_int (fun _ _ => rfl)) pe_int (nomark _)) (pss_cons (ps_set (i := 2) sc_l_take.nd rfl (Or.inl rfl) (pe_op Ow.op_modN (pe_ix ix_list (pv 0) pe_int (fun _ _ => rfl)) (pv 1)))
        (pss_cons (ps_asg (pe_op Ow.op_divN (pe_ix ix_list (pv 0) pe_int (fun _ _ => rfl)) (pv 1)) (pg_sub (pv 0) pe_int set_list))
        (pss_one (ps_ret (pv 2))))) pss_nil)
        (pss_cons (ps_asg (Ow.pe_nmi (pe_op op_add (pe_ix ix_list (pv 0) pe_int (fun _ _ => rfl)) pe_int)) (pg_sub (pv 0) pe_int set_list))
        (pss_cons (ps_set (i := 3) sc_l_take.nd rfl (Or.inl rfl) (pe_op Ow.op_modN (pe_op Ow.op_mulN (pe_op op_add (pe_op op_add (pe_ix ix_list (pv 0) pe_int (fun _ _ => rfl)) (pe_op Ow.op_mulN pe_int (pe_ix ix_list (pv 0) pe_int (fun _ _ => rfl)))) pe_int) pe_int) pe_int))
        (pss_cons (ps_set (i := 3) sc_l_take.nd rfl (Or.inl rfl) (pe_op Ow.op_modN (pe_op op_add (pe_op op_add (pe_op Ow.op_mulN (pv 3) (pv 3)) (pe_op Ow.op_mulN pe_int (pe_ix ix_list (pv 0) pe_int (fun _ _ => rfl)))) pe_int) pe_int))
        (pss_one (ps_ret (pe_op Ow.op_modN (pe_op Ow.op_divN (pe_op Ow.op_modN (pe_op Ow.op_mulN (pv 3) (pe_op op_add (pv 3) pe_int)) pe_int) pe_int) (pv 1)))))))), ?_⟩
    refine ⟨_, rfl, ?_⟩
    refine ⟨_, _, _, _, rfl, rfl, (SqL.of c0), (by first | rfl | decide), ?_⟩
    refine ⟨_, _, rfl, rfl, ?_⟩
    refine ⟨_, rfl, ?_⟩
    refine Ow.ifd (fun h1 => ?_) (fun h1 => ?_)
    · refine ⟨_, rfl, ?_⟩
      refine ⟨_, _, _, _, rfl, rfl, (SqL.of c0), (by first | rfl | decide), ?_⟩
      refine ⟨_, rfl, ?_⟩
      refine ⟨_, _, rfl, rfl, (by first | assumption | exact Ow.divw64 (by omega) (by omega) | exact Or.inl ⟨by omega, by omega⟩ | exact Or.inr ⟨by omega, by omega⟩ | exact ⟨by omega, by omega⟩ | exact ⟨by omega, by omega, by omega⟩ | omega | (subst_vars; omega)), fun r h_r h0_r h1_r => ?_⟩
      refine ⟨_, rfl, ?_⟩
      refine ⟨_, _, _, _, rfl, rfl, (SqL.of c0), (by first | rfl | decide), ?_⟩
      refine ⟨_, rfl, ?_⟩
      refine ⟨_, _, rfl, rfl, (by first | assumption | exact Ow.divw64 (by omega) (by omega) | exact Or.inl ⟨by omega, by omega⟩ | exact Or.inr ⟨by omega, by omega⟩ | exact ⟨by omega, by omega⟩ | exact ⟨by omega, by omega, by omega⟩ | omega | (subst_vars; omega)), fun q h_q => ?_⟩
      refine ⟨_, rfl, ?_⟩
      refine ⟨_, _, _, 0, rfl, rfl, c0, rfl, ?_⟩
      refine ⟨_, rfl, ?_⟩
      exact kont r q c (by first | assumption | exact Ow.divw64 (by omega) (by omega) | exact Or.inl ⟨by omega, by omega⟩ | exact Or.inr ⟨by omega, by omega⟩ | exact ⟨by omega, by omega⟩ | exact ⟨by omega, by omega, by omega⟩ | omega | (subst_vars; omega)) (by first | assumption | exact Ow.divw64 (by omega) (by omega) | exact Or.inl ⟨by omega, by omega⟩ | exact Or.inr ⟨by omega, by omega⟩ | exact ⟨by omega, by omega⟩ | exact ⟨by omega, by omega, by omega⟩ | omega | (subst_vars; omega))
    · refine ⟨_, rfl, ?_⟩
      refine ⟨_, _, _, _, rfl, rfl, (SqL.of c0), (by first | rfl | decide), ?_⟩
      refine ⟨_, _, rfl, rfl, ?_⟩
      refine ⟨_, rfl, fun t h_t => ?_⟩
      refine ⟨_, rfl, ?_⟩
      refine ⟨_, _, _, 2, rfl, rfl, c0, rfl, ?_⟩
      refine ⟨_, rfl, ?_⟩
      refine ⟨_, _, _, _, rfl, rfl, (SqL.of upd_same), (by first | rfl | decide), ?_⟩
      refine ⟨_, rfl, ?_⟩
      refine ⟨_, _, _, _, rfl, rfl, (SqL.of upd_same), (by first | rfl | decide), ?_⟩
      refine ⟨_, _, rfl, rfl, (by first | assumption | exact Ow.divw64 (by omega) (by omega) | exact Or.inl ⟨by omega, by omega⟩ | exact Or.inr ⟨by omega, by omega⟩ | exact ⟨by omega, by omega⟩ | exact ⟨by omega, by omega, by omega⟩ | omega | (subst_vars; omega)), fun m_2 h_m_2 => ?_⟩
      refine ⟨_, _, rfl, rfl, ?_⟩
      refine ⟨_, _, rfl, rfl, ?_⟩
      refine ⟨_, _, rfl, rfl, (by first | assumption | exact Ow.divw64 (by omega) (by omega) | exact Or.inl ⟨by omega, by omega⟩ | exact Or.inr ⟨by omega, by omega⟩ | exact ⟨by omega, by omega⟩ | exact ⟨by omega, by omega, by omega⟩ | omega | (subst_vars; omega)), fun m_3 h_m_3 => ?_⟩
      refine ⟨_, _, rfl, rfl, (by first | assumption | exact Ow.divw64 (by omega) (by omega) | exact Or.inl ⟨by omega, by omega⟩ | exact Or.inr ⟨by omega, by omega⟩ | exact ⟨by omega, by omega⟩ | exact ⟨by omega, by omega, by omega⟩ | omega | (subst_vars; omega)), fun r_2 h_r_2 h0_r_2 h1_r_2 => ?_⟩
      refine ⟨_, rfl, ?_⟩
      refine ⟨_, rfl, ?_⟩
      refine ⟨_, _, rfl, rfl, (by first | assumption | exact Ow.divw64 (by omega) (by omega) | exact Or.inl ⟨by omega, by omega⟩ | exact Or.inr ⟨by omega, by omega⟩ | exact ⟨by omega, by omega⟩ | exact ⟨by omega, by omega, by omega⟩ | omega | (subst_vars; omega)), fun m_4 h_m_4 => ?_⟩
      refine ⟨_, rfl, ?_⟩
      refine ⟨_, _, _, _, rfl, rfl, (SqL.of upd_same), (by first | rfl | decide), ?_⟩
      refine ⟨_, _, rfl, rfl, (by first | assumption | exact Ow.divw64 (by omega) (by omega) | exact Or.inl ⟨by omega, by omega⟩ | exact Or.inr ⟨by omega, by omega⟩ | exact ⟨by omega, by omega⟩ | exact ⟨by omega, by omega, by omega⟩ | omega | (subst_vars; omega)), fun m_5 h_m_5 => ?_⟩
      refine ⟨_, _, rfl, rfl, ?_⟩
      refine ⟨_, _, rfl, rfl, ?_⟩
      refine ⟨_, _, rfl, rfl, (by first | assumption | exact Ow.divw64 (by omega) (by omega) | exact Or.inl ⟨by omega, by omega⟩ | exact Or.inr ⟨by omega, by omega⟩ | exact ⟨by omega, by omega⟩ | exact ⟨by omega, by omega, by omega⟩ | omega | (subst_vars; omega)), fun r_3 h_r_3 h0_r_3 h1_r_3 => ?_⟩
      refine ⟨_, rfl, ?_⟩
      refine ⟨_, rfl, ?_⟩
      refine ⟨_, _, rfl, rfl, ?_⟩
      refine ⟨_, _, rfl, rfl, (by first | assumption | exact Ow.divw64 (by omega) (by omega) | exact Or.inl ⟨by omega, by omega⟩ | exact Or.inr ⟨by omega, by omega⟩ | exact ⟨by omega, by omega⟩ | exact ⟨by omega, by omega, by omega⟩ | omega | (subst_vars; omega)), fun m_6 h_m_6 => ?_⟩
      refine ⟨_, _, rfl, rfl, (by first | assumption | exact Ow.divw64 (by omega) (by omega) | exact Or.inl ⟨by omega, by omega⟩ | exact Or.inr ⟨by omega, by omega⟩ | exact ⟨by omega, by omega⟩ | exact ⟨by omega, by omega, by omega⟩ | omega | (subst_vars; omega)), fun r_4 h_r_4 h0_r_4 h1_r_4 => ?_⟩
      refine ⟨_, _, rfl, rfl, (by first | assumption | exact Ow.divw64 (by omega) (by omega) | exact Or.inl ⟨by omega, by omega⟩ | exact Or.inr ⟨by omega, by omega⟩ | exact ⟨by omega, by omega⟩ | exact ⟨by omega, by omega, by omega⟩ | omega | (subst_vars; omega)), fun q_2 h_q_2 => ?_⟩
      refine ⟨_, rfl, ?_⟩
      refine ⟨_, _, rfl, rfl, (by first | assumption | exact Ow.divw64 (by omega) (by omega) | exact Or.inl ⟨by omega, by omega⟩ | exact Or.inr ⟨by omega, by omega⟩ | exact ⟨by omega, by omega⟩ | exact ⟨by omega, by omega, by omega⟩ | omega | (subst_vars; omega)), fun r_5 h_r_5 h0_r_5 h1_r_5 => ?_⟩
      exact kont r_5 a t (by first | assumption | exact Ow.divw64 (by omega) (by omega) | exact Or.inl ⟨by omega, by omega⟩ | exact Or.inr ⟨by omega, by omega⟩ | exact ⟨by omega, by omega⟩ | exact ⟨by omega, by omega, by omega⟩ | omega | (subst_vars; omega)) (by first | assumption | exact Ow.divw64 (by omega) (by omega) | exact Or.inl ⟨by omega, by omega⟩ | exact Or.inr ⟨by omega, by omega⟩ | exact ⟨by omega, by omega⟩ | exact ⟨by omega, by omega, by omega⟩ | omega | (subst_vars; omega))
theorem ok_l_bits (T : Tx K mg) : FnOk P w K mg base CX0 2 T.d_l_bits.f T.d_l_bits.fd ["_law_box_here", "_law_width"] (sp_l_bits K) := by
  refine T.d_l_bits.F.ok sc_l_bits (fun vs H Q E h => ?_) (fun cdv A outer s H vs Q E hr h => ?_)
  · obtain ⟨box, width, a, m, c, rfl, _⟩ := h
    rfl
  · obtain ⟨box, width, a, m, c, rfl, c0, c1, c2, kont⟩ := h
    have p32_width := Ow.pow2_le32 (w := width) (by omega)
    have p0_width := Ow.p2 width.toNat
    refine ⟨_, (pss_cons (ps_set (i := 2) sc_l_bits.nd rfl (Or.inl rfl) (pe_call (Ow.ok_l_take T) (hr.mono (by decide : 1 ≤ 1)) (by rfl) T.d_l_take.m T.d_l_take.F.kp T.d_l_take.b .nil pass0 (pa_cons (pv 0) (pa_cons pe_int pa_nil))))
        (pss_cons (ps_if (pt_cmpR op_lt (pv 2) pe_int (nomark _)) (pss_cons (ps_set (i := 3) sc_l_bits.nd rfl (Or.inl rfl) (pe_op Ow.op_shl1 pe_int (pe_op op_sub (pv 1) pe_int)))
        (pss_one (ps_ret (pe_ix ix_list (pe_lst (pa_cons pe_int (pa_cons (pe_op op_sub (pe_op Ow.op_mulN pe_int (pv 3)) pe_int) (pa_cons (pv 3) (pa_cons (pe_op op_sub (pv 3) pe_int) (pa_cons (pe_op Ow.op_shl1 pe_int (pe_call (Ow.ok_l_take T) (hr.mono (by decide : 1 ≤ 1)) (by rfl) T.d_l_take.m T.d_l_take.F.kp T.d_l_take.b .nil pass0 (pa_cons (pv 0) (pa_cons (pv 1) pa_nil)))) pa_nil)))))) (pv 2) (fun _ _ => rfl))))) pss_nil)
        (pss_cons (ps_if (pt_cmpR op_gt (pe_ix ix_list (pv 0) pe_int (fun _ _ => rfl)) pe_int (nomark _)) (pss_one (ps_ret (pe_call (Ow.ok_l_take T) (hr.mono (by decide : 1 ≤ 1)) (by rfl) T.d_l_take.m T.d_l_take.F.kp T.d_l_take.b .nil pass0 (pa_cons (pv 0) (pa_cons (pe_op Ow.op_shl1 pe_int (pv 1)) pa_nil))))) pss_nil)
        (pss_cons (ps_set (i := 4) sc_l_bits.nd rfl (Or.inl rfl) (pe_call (Ow.ok_l_take T) (hr.mono (by decide : 1 ≤ 1)) (by rfl) T.d_l_take.m T.d_l_take.F.kp T.d_l_take.b .nil pass0 (pa_cons (pv 0) (pa_cons pe_int pa_nil))))
        (pss_one (ps_ret (pe_op Ow.op_mask (pe_op Ow.op_bor (pe_op Ow.op_shlN (pv 4) pe_int) (pe_call (Ow.ok_l_take T) (hr.mono (by decide : 1 ≤ 1)) (by rfl) T.d_l_take.m T.d_l_take.F.kp T.d_l_take.b .nil pass0 (pa_cons (pv 0) (pa_cons pe_int pa_nil)))) (pe_op op_sub (pe_op Ow.op_shl1 pe_int (pv 1)) pe_int)))))))), ?_⟩
    refine ⟨_, rfl, ?_⟩
    refine ⟨_, _, _, _, _, rfl, c0, (by first | assumption | exact Ow.divw64 (by omega) (by omega) | exact Or.inl ⟨by omega, by omega⟩ | exact Or.inr ⟨by omega, by omega⟩ | exact ⟨by omega, by omega⟩ | exact ⟨by omega, by omega, by omega⟩ | omega | (subst_vars; omega)), (by first | assumption | exact Ow.divw64 (by omega) (by omega) | exact Or.inl ⟨by omega, by omega⟩ | exact Or.inr ⟨by omega, by omega⟩ | exact ⟨by omega, by omega⟩ | exact ⟨by omega, by omega, by omega⟩ | omega | (subst_vars; omega)), fun l_way a2 c2 h1 h2 => ?_⟩
    refine ⟨_, rfl, ?_⟩
    refine ⟨_, _, rfl, rfl, ?_⟩
    refine ⟨_, rfl, ?_⟩
    refine Ow.ifd (fun h3 => ?_) (fun h3 => ?_)
    · refine ⟨_, rfl, ?_⟩
      refine ⟨_, _, rfl, rfl, ?_⟩
      refine ⟨_, rfl, rfl, (by first | assumption | exact Ow.divw64 (by omega) (by omega) | exact Or.inl ⟨by omega, by omega⟩ | exact Or.inr ⟨by omega, by omega⟩ | exact ⟨by omega, by omega⟩ | exact ⟨by omega, by omega, by omega⟩ | omega | (subst_vars; omega)), fun B h_B h0_B => ?_⟩
      have e2 := Ow.pow2_pred (w := width) (by omega)
      have e3 := Ow.p2 (width - 1).toNat
      refine ⟨_, rfl, ?_⟩
      refine ⟨_, _, rfl, rfl, (by first | assumption | exact Ow.divw64 (by omega) (by omega) | exact Or.inl ⟨by omega, by omega⟩ | exact Or.inr ⟨by omega, by omega⟩ | exact ⟨by omega, by omega⟩ | exact ⟨by omega, by omega, by omega⟩ | omega | (subst_vars; omega)), fun m_2 h_m_2 => ?_⟩
      refine ⟨_, _, rfl, rfl, ?_⟩
      refine ⟨_, rfl, ?_⟩
      refine ⟨_, rfl, ?_⟩
      refine ⟨_, _, rfl, rfl, ?_⟩
      refine ⟨_, rfl, ?_⟩
      refine ⟨_, rfl, ?_⟩
      refine ⟨_, _, _, _, _, rfl, upd_same, (by first | assumption | exact Ow.divw64 (by omega) (by omega) | exact Or.inl ⟨by omega, by omega⟩ | exact Or.inr ⟨by omega, by omega⟩ | exact ⟨by omega, by omega⟩ | exact ⟨by omega, by omega, by omega⟩ | omega | (subst_vars; omega)), (by first | assumption | exact Ow.divw64 (by omega) (by omega) | exact Or.inl ⟨by omega, by omega⟩ | exact Or.inr ⟨by omega, by omega⟩ | exact ⟨by omega, by omega⟩ | exact ⟨by omega, by omega, by omega⟩ | omega | (subst_vars; omega)), fun t a2_2 c2_2 h4 h5 => ?_⟩
      refine ⟨_, rfl, rfl, (by first | assumption | exact Ow.divw64 (by omega) (by omega) | exact Or.inl ⟨by omega, by omega⟩ | exact Or.inr ⟨by omega, by omega⟩ | exact ⟨by omega, by omega⟩ | exact ⟨by omega, by omega, by omega⟩ | omega | (subst_vars; omega)), fun B_2 h_B_2 h0_B_2 => ?_⟩
      refine ⟨by show 5 ≤ sizeLine; decide, fun p h_p => ?_⟩
      refine ⟨_, rfl, ?_⟩
      refine Ow.ixi5 (SqL.of upd_same) (by first | assumption | exact Ow.divw64 (by omega) (by omega) | exact Or.inl ⟨by omega, by omega⟩ | exact Or.inr ⟨by omega, by omega⟩ | exact ⟨by omega, by omega⟩ | exact ⟨by omega, by omega, by omega⟩ | omega | (subst_vars; omega)) (fun it h_it => ?_)
      try have e4 := Ow.pow2_lt (a := t) (b := width) (by omega) (by omega)
      exact kont it a2_2 c2_2 (by first | assumption | exact Ow.divw64 (by omega) (by omega) | exact Or.inl ⟨by omega, by omega⟩ | exact Or.inr ⟨by omega, by omega⟩ | exact ⟨by omega, by omega⟩ | exact ⟨by omega, by omega, by omega⟩ | omega | (subst_vars; omega)) (by first | assumption | exact Ow.divw64 (by omega) (by omega) | exact Or.inl ⟨by omega, by omega⟩ | exact Or.inr ⟨by omega, by omega⟩ | exact ⟨by omega, by omega⟩ | exact ⟨by omega, by omega, by omega⟩ | omega | (subst_vars; omega)) _ (((Ow.Fm.refl.mut).mut).same (Ow.same_new h_p)) (Ow.at_new h_p upd_same)
    · refine ⟨_, rfl, ?_⟩
      refine ⟨_, _, _, _, rfl, rfl, (SqL.of upd_same), (by first | rfl | decide), ?_⟩
      refine ⟨_, _, rfl, rfl, ?_⟩
      refine ⟨_, rfl, ?_⟩
      refine Ow.ifd (fun h6 => ?_) (fun h6 => ?_)
      · refine ⟨_, rfl, ?_⟩
        refine ⟨_, rfl, ?_⟩
        refine ⟨_, rfl, rfl, (by first | assumption | exact Ow.divw64 (by omega) (by omega) | exact Or.inl ⟨by omega, by omega⟩ | exact Or.inr ⟨by omega, by omega⟩ | exact ⟨by omega, by omega⟩ | exact ⟨by omega, by omega, by omega⟩ | omega | (subst_vars; omega)), fun B_3 h_B_3 h0_B_3 => ?_⟩
        refine ⟨_, _, _, _, _, rfl, upd_same, (by first | assumption | exact Ow.divw64 (by omega) (by omega) | exact Or.inl ⟨by omega, by omega⟩ | exact Or.inr ⟨by omega, by omega⟩ | exact ⟨by omega, by omega⟩ | exact ⟨by omega, by omega, by omega⟩ | omega | (subst_vars; omega)), (by first | assumption | exact Ow.divw64 (by omega) (by omega) | exact Or.inl ⟨by omega, by omega⟩ | exact Or.inr ⟨by omega, by omega⟩ | exact ⟨by omega, by omega⟩ | exact ⟨by omega, by omega, by omega⟩ | omega | (subst_vars; omega)), fun t_2 a2_3 c2_3 h7 h8 => ?_⟩
        try have e4 := Ow.pow2_lt (a := t) (b := width) (by omega) (by omega)
        exact kont t_2 a2_3 c2_3 (by first | assumption | exact Ow.divw64 (by omega) (by omega) | exact Or.inl ⟨by omega, by omega⟩ | exact Or.inr ⟨by omega, by omega⟩ | exact ⟨by omega, by omega⟩ | exact ⟨by omega, by omega, by omega⟩ | omega | (subst_vars; omega)) (by first | assumption | exact Ow.divw64 (by omega) (by omega) | exact Or.inl ⟨by omega, by omega⟩ | exact Or.inr ⟨by omega, by omega⟩ | exact ⟨by omega, by omega⟩ | exact ⟨by omega, by omega, by omega⟩ | omega | (subst_vars; omega)) _ ((Ow.Fm.refl.mut).mut) upd_same
      · refine ⟨_, rfl, ?_⟩
        refine ⟨_, _, _, _, _, rfl, upd_same, (by first | assumption | exact Ow.divw64 (by omega) (by omega) | exact Or.inl ⟨by omega, by omega⟩ | exact Or.inr ⟨by omega, by omega⟩ | exact ⟨by omega, by omega⟩ | exact ⟨by omega, by omega, by omega⟩ | omega | (subst_vars; omega)), (by first | assumption | exact Ow.divw64 (by omega) (by omega) | exact Or.inl ⟨by omega, by omega⟩ | exact Or.inr ⟨by omega, by omega⟩ | exact ⟨by omega, by omega⟩ | exact ⟨by omega, by omega, by omega⟩ | omega | (subst_vars; omega)), fun l_high a2_4 c2_4 h9 h10 => ?_⟩
        refine ⟨_, rfl, ?_⟩
        refine ⟨_, _, rfl, rfl, (by first | assumption | exact Ow.divw64 (by omega) (by omega) | exact Or.inl ⟨by omega, by omega⟩ | exact Or.inr ⟨by omega, by omega⟩ | exact ⟨by omega, by omega⟩ | exact ⟨by omega, by omega, by omega⟩ | omega | (subst_vars; omega)), fun s (h_s : s = l_high * 65536) => ?_⟩
        refine ⟨_, rfl, ?_⟩
        refine ⟨_, _, _, _, _, rfl, upd_same, (by first | assumption | exact Ow.divw64 (by omega) (by omega) | exact Or.inl ⟨by omega, by omega⟩ | exact Or.inr ⟨by omega, by omega⟩ | exact ⟨by omega, by omega⟩ | exact ⟨by omega, by omega, by omega⟩ | omega | (subst_vars; omega)), (by first | assumption | exact Ow.divw64 (by omega) (by omega) | exact Or.inl ⟨by omega, by omega⟩ | exact Or.inr ⟨by omega, by omega⟩ | exact ⟨by omega, by omega⟩ | exact ⟨by omega, by omega, by omega⟩ | omega | (subst_vars; omega)), fun t_3 a2_5 c2_5 h11 h12 => ?_⟩
        refine ⟨_, _, rfl, rfl, (by first | assumption | exact Ow.divw64 (by omega) (by omega) | exact Or.inl ⟨by omega, by omega⟩ | exact Or.inr ⟨by omega, by omega⟩ | exact ⟨by omega, by omega⟩ | exact ⟨by omega, by omega, by omega⟩ | omega | (subst_vars; omega)), (by first | assumption | exact Ow.divw64 (by omega) (by omega) | exact Or.inl ⟨by omega, by omega⟩ | exact Or.inr ⟨by omega, by omega⟩ | exact ⟨by omega, by omega⟩ | exact ⟨by omega, by omega, by omega⟩ | omega | (subst_vars; omega)), fun o h_o h0_o => ?_⟩
        refine ⟨_, rfl, ?_⟩
        refine ⟨_, rfl, rfl, (by first | assumption | exact Ow.divw64 (by omega) (by omega) | exact Or.inl ⟨by omega, by omega⟩ | exact Or.inr ⟨by omega, by omega⟩ | exact ⟨by omega, by omega⟩ | exact ⟨by omega, by omega, by omega⟩ | omega | (subst_vars; omega)), fun B_4 h_B_4 h0_B_4 => ?_⟩
        refine ⟨_, _, rfl, rfl, ?_⟩
        refine ⟨_, _, width.toNat, rfl, rfl, (by first | assumption | exact Ow.divw64 (by omega) (by omega) | exact Or.inl ⟨by omega, by omega⟩ | exact Or.inr ⟨by omega, by omega⟩ | exact ⟨by omega, by omega⟩ | exact ⟨by omega, by omega, by omega⟩ | omega | (subst_vars; omega)), fun r h_r h0_r h1_r => ?_⟩
        try have e4 := Ow.pow2_lt (a := t) (b := width) (by omega) (by omega)
        exact kont r a2_5 c2_5 (by first | assumption | exact Ow.divw64 (by omega) (by omega) | exact Or.inl ⟨by omega, by omega⟩ | exact Or.inr ⟨by omega, by omega⟩ | exact ⟨by omega, by omega⟩ | exact ⟨by omega, by omega, by omega⟩ | omega | (subst_vars; omega)) (by first | assumption | exact Ow.divw64 (by omega) (by omega) | exact Or.inl ⟨by omega, by omega⟩ | exact Or.inr ⟨by omega, by omega⟩ | exact ⟨by omega, by omega⟩ | exact ⟨by omega, by omega, by omega⟩ | omega | (subst_vars; omega)) _ (((Ow.Fm.refl.mut).mut).mut) upd_same
theorem ok_l_cell (T : Tx K mg) : FnOk P w K mg base CX0 1 T.d_l_cell.f T.d_l_cell.fd ["_law_script", "_law_k"] (sp_l_cell K) := by
  refine T.d_l_cell.F.ok sc_l_cell (fun vs H Q E h => ?_) (fun cdv A outer s H vs Q E hr h => ?_)
  · obtain ⟨script, k, ns, rfl, _⟩ := h
    rfl
  · obtain ⟨script, k, ns, rfl, c0, c1, kont⟩ := h
    refine ⟨_, (pss_cons (ps_if (pt_cmpR op_lt (pv 1) (Ow.pe_nmi (pe_callB call_len_seq (by rfl) T.z_len (by decide +kernel) (pa_cons (pv 0) pa_nil))) (nomark _)) (pss_one (ps_ret (pe_ix ix_list (pv 0) (pv 1) (fun _ _ => rfl)))) pss_nil)
        (pss_one (ps_ret (pe_op op_add (pe_op Ow.op_mulN pe_int (pv 1)) pe_int)))), ?_⟩
    refine ⟨_, rfl, ?_⟩
    refine ⟨_, rfl, ?_⟩
    refine ⟨_, _, rfl, .inl c0, ?_⟩
    refine ⟨_, rfl, fun len h_len => ?_⟩
    rw [List.length_map] at h_len
    refine ⟨_, _, rfl, rfl, ?_⟩
    refine ⟨_, rfl, ?_⟩
    refine Ow.ifd (fun h1 => ?_) (fun h1 => ?_)
    · refine ⟨_, rfl, ?_⟩
      refine ⟨_, rfl, ?_⟩
      refine Ow.ixn c0 (by first | assumption | exact Ow.divw64 (by omega) (by omega) | exact Or.inl ⟨by omega, by omega⟩ | exact Or.inr ⟨by omega, by omega⟩ | exact ⟨by omega, by omega⟩ | exact ⟨by omega, by omega, by omega⟩ | omega | (subst_vars; omega)) (by first | assumption | exact Ow.divw64 (by omega) (by omega) | exact Or.inl ⟨by omega, by omega⟩ | exact Or.inr ⟨by omega, by omega⟩ | exact ⟨by omega, by omega⟩ | exact ⟨by omega, by omega, by omega⟩ | omega | (subst_vars; omega)) (fun it h_it => ?_)
      exact kont it
    · refine ⟨_, rfl, ?_⟩
      refine ⟨_, _, rfl, rfl, (by first | assumption | exact Ow.divw64 (by omega) (by omega) | exact Or.inl ⟨by omega, by omega⟩ | exact Or.inr ⟨by omega, by omega⟩ | exact ⟨by omega, by omega⟩ | exact ⟨by omega, by omega, by omega⟩ | omega | (subst_vars; omega)), fun m h_m => ?_⟩
      refine ⟨_, _, rfl, rfl, ?_⟩
      exact kont (m + 31)
theorem ok_is_whole (T : Tx K mg) : FnOk P w K mg base CX0 1 T.d_is_whole.f T.d_is_whole.fd ["thing"] (sp_is_whole K) := by
  refine T.d_is_whole.F.ok sc_is_whole (fun vs H Q E h => ?_) (fun cdv A outer s H vs Q E hr h => ?_)
  · obtain ⟨thing, rfl, _⟩ := h
    rfl
  · obtain ⟨thing, rfl, kont⟩ := h
    refine ⟨_, (pss_one (ps_ret (pe_and (pe_callB call_isi (by rfl) T.z_isinstance (by decide +kernel) (pa_cons (pv 0) (pa_cons (pe_bltn (v := .ty "int") (by rfl) T.z_int (by decide +kernel) rfl) pa_nil))) (pe_one (pe_not (pe_callB call_isi (by rfl) T.z_isinstance (by decide +kernel) (pa_cons (pv 0) (pa_cons (pe_bltn (v := .ty "bool") (by rfl) T.z_bool (by decide +kernel) rfl) pa_nil)))))))), ?_⟩
    refine ⟨_, rfl, ?_⟩
    refine ⟨_, _, _, _, true, rfl, .ty _, .base (.int _), kit_ty (by decide +kernel), ?_⟩
    refine ⟨_, rfl, ?_⟩
    refine iteT ?_
    refine ⟨_, rfl, ?_⟩
    refine ⟨_, _, _, _, false, rfl, .ty _, .base (.int _), kit_ty (by decide +kernel), ?_⟩
    refine ⟨_, rfl, ?_⟩
    exact kont
theorem ok_need_width (T : Tx K mg) : FnOk P w K mg base CX0 2 T.d_need_width.f T.d_need_width.fd ["width"] (sp_need_width K) := by
  refine T.d_need_width.F.ok sc_need_width (fun vs H Q E h => ?_) (fun cdv A outer s H vs Q E hr h => ?_)
  · obtain ⟨width, rfl, _⟩ := h
    rfl
  · obtain ⟨width, rfl, c0, c1, kont⟩ := h
    have p32_width := Ow.pow2_le32 (w := width) (by omega)
    have p0_width := Ow.p2 width.toNat
    refine ⟨_, (pss_one (ps_if (PW.pt (pw_or (pt_not (pt_val (pe_call (Ow.ok_is_whole T) (hr.mono (by decide : 1 ≤ 1)) (by rfl) T.d_is_whole.m T.d_is_whole.F.kp T.d_is_whole.b .nil pass0 (pa_cons (pv 0) pa_nil)))) (pw_or1 (pt_not (pt_chain op_le op_le (pe_glob (v := .int (4)) rfl T.g_LEAST_WIDTH.choose_spec ⟨_, rfl⟩) (pv 0) (pe_glob (v := .int (32)) rfl T.g_GREATEST_WIDTH.choose_spec ⟨_, rfl⟩)))))) (pss_one ps_never) pss_nil)), ?_⟩
    refine ⟨_, rfl, ?_⟩
    refine ⟨_, rfl, ?_⟩
    refine ⟨_, rfl, ?_⟩
    refine iteF ?_
    refine ⟨_, rfl, ?_⟩
    refine ⟨_, _, rfl, rfl, ?_⟩
    refine ⟨_, rfl, ?_⟩
    refine Ow.ifd (fun h1 => ?_) (fun h1 => ?_)
    · refine ⟨_, _, rfl, rfl, ?_⟩
      refine ⟨_, rfl, ?_⟩
      refine Ow.ifnd (fun h2 => ?_) (fun h2 => ?_)
      · exact ((by first | assumption | exact Ow.divw64 (by omega) (by omega) | exact Or.inl ⟨by omega, by omega⟩ | exact Or.inr ⟨by omega, by omega⟩ | exact ⟨by omega, by omega⟩ | exact ⟨by omega, by omega, by omega⟩ | omega | (subst_vars; omega)) : False).elim
      · exact kont
    · refine ⟨_, rfl, ?_⟩
      refine iteT ?_
      exact ((by first | assumption | exact Ow.divw64 (by omega) (by omega) | exact Or.inl ⟨by omega, by omega⟩ | exact Or.inr ⟨by omega, by omega⟩ | exact ⟨by omega, by omega⟩ | exact ⟨by omega, by omega, by omega⟩ | omega | (subst_vars; omega)) : False).elim
theorem ok_cut (T : Tx K mg) : FnOk P w K mg base CX0 1 T.d_cut.f T.d_cut.fd ["width", "number"] (sp_cut K) := by
  refine T.d_cut.F.ok sc_cut (fun vs H Q E h => ?_) (fun cdv A outer s H vs Q E hr h => ?_)
  · obtain ⟨width, number, rfl, _⟩ := h
    rfl
  · obtain ⟨width, number, rfl, c0, c1, kont⟩ := h
    refine ⟨_, (pss_one (ps_ret (pe_op Ow.op_mask (pv 1) (pe_op op_sub (pe_op Ow.op_shl1 pe_int (pv 0)) pe_int)))), ?_⟩
    refine ⟨_, rfl, ?_⟩
    refine ⟨_, rfl, ?_⟩
    refine ⟨_, rfl, rfl, (by first | assumption | exact Ow.divw64 (by omega) (by omega) | exact Or.inl ⟨by omega, by omega⟩ | exact Or.inr ⟨by omega, by omega⟩ | exact ⟨by omega, by omega⟩ | exact ⟨by omega, by omega, by omega⟩ | omega | (subst_vars; omega)), fun B h_B h0_B => ?_⟩
    refine ⟨_, _, rfl, rfl, ?_⟩
    refine ⟨_, _, width.toNat, rfl, rfl, (by first | assumption | exact Ow.divw64 (by omega) (by omega) | exact Or.inl ⟨by omega, by omega⟩ | exact Or.inr ⟨by omega, by omega⟩ | exact ⟨by omega, by omega⟩ | exact ⟨by omega, by omega, by omega⟩ | omega | (subst_vars; omega)), fun r h_r h0_r h1_r => ?_⟩
    exact kont r (by first | assumption | exact Ow.divw64 (by omega) (by omega) | exact Or.inl ⟨by omega, by omega⟩ | exact Or.inr ⟨by omega, by omega⟩ | exact ⟨by omega, by omega⟩ | exact ⟨by omega, by omega, by omega⟩ | omega | (subst_vars; omega)) (by first | assumption | exact Ow.divw64 (by omega) (by omega) | exact Or.inl ⟨by omega, by omega⟩ | exact Or.inr ⟨by omega, by omega⟩ | exact ⟨by omega, by omega⟩ | exact ⟨by omega, by omega, by omega⟩ | omega | (subst_vars; omega)) (by first | assumption | exact Ow.divw64 (by omega) (by omega) | exact Or.inl ⟨by omega, by omega⟩ | exact Or.inr ⟨by omega, by omega⟩ | exact ⟨by omega, by omega⟩ | exact ⟨by omega, by omega, by omega⟩ | omega | (subst_vars; omega))
theorem ok_sum_of (T : Tx K mg) : FnOk P w K mg base CX0 3 T.d_sum_of.f T.d_sum_of.fd ["width", "a", "b"] (sp_sum_of K) := by
  refine T.d_sum_of.F.ok sc_sum_of (fun vs H Q E h => ?_) (fun cdv A outer s H vs Q E hr h => ?_)
  · obtain ⟨width, a, b, rfl, _⟩ := h
    rfl
  · obtain ⟨width, a, b, rfl, c0, c1, c2, c3, c4, c5, kont⟩ := h
    have p32_width := Ow.pow2_le32 (w := width) (by omega)
    have p0_width := Ow.p2 width.toNat
    have d1 := Ow.dm (a + b) p0_width
    have d2 := Ow.quo01 (a := a + b) p0_width (by omega) (by omega)
    refine ⟨_, (pss_cons (ps_expr (pe_call (Ow.ok_need_width T) (hr.mono (by decide : 2 ≤ 2)) (by rfl) T.d_need_width.m T.d_need_width.F.kp T.d_need_width.b .nil pass0 (pa_cons (pv 0) pa_nil)))
        (pss_one (ps_ret (pe_tup (pa_cons (pe_call (Ow.ok_cut T) (hr.mono (by decide : 1 ≤ 2)) (by rfl) T.d_cut.m T.d_cut.F.kp T.d_cut.b .nil pass0 (pa_cons (pv 0) (pa_cons (pe_op op_add (pv 1) (pv 2)) pa_nil))) (pa_cons (pe_op Ow.op_shrN (pe_op op_add (pv 1) (pv 2)) (pv 0)) pa_nil)))))), ?_⟩
    refine ⟨_, rfl, ?_⟩
    refine ⟨_, rfl, (by first | assumption | exact Ow.divw64 (by omega) (by omega) | exact Or.inl ⟨by omega, by omega⟩ | exact Or.inr ⟨by omega, by omega⟩ | exact ⟨by omega, by omega⟩ | exact ⟨by omega, by omega, by omega⟩ | omega | (subst_vars; omega)), (by first | assumption | exact Ow.divw64 (by omega) (by omega) | exact Or.inl ⟨by omega, by omega⟩ | exact Or.inr ⟨by omega, by omega⟩ | exact ⟨by omega, by omega⟩ | exact ⟨by omega, by omega, by omega⟩ | omega | (subst_vars; omega)), ?_⟩
    refine ⟨_, rfl, ?_⟩
    refine ⟨_, rfl, ?_⟩
    refine ⟨_, rfl, ?_⟩
    refine ⟨_, _, rfl, rfl, ?_⟩
    refine ⟨_, _, rfl, (by first | assumption | exact Ow.divw64 (by omega) (by omega) | exact Or.inl ⟨by omega, by omega⟩ | exact Or.inr ⟨by omega, by omega⟩ | exact ⟨by omega, by omega⟩ | exact ⟨by omega, by omega, by omega⟩ | omega | (subst_vars; omega)), (by first | assumption | exact Ow.divw64 (by omega) (by omega) | exact Or.inl ⟨by omega, by omega⟩ | exact Or.inr ⟨by omega, by omega⟩ | exact ⟨by omega, by omega⟩ | exact ⟨by omega, by omega, by omega⟩ | omega | (subst_vars; omega)), fun t h1 h2 h3 => ?_⟩
    refine ⟨_, rfl, ?_⟩
    refine ⟨_, rfl, ?_⟩
    refine ⟨_, _, rfl, rfl, ?_⟩
    refine ⟨_, rfl, ?_⟩
    refine ⟨_, _, rfl, rfl, (by first | assumption | exact Ow.divw64 (by omega) (by omega) | exact Or.inl ⟨by omega, by omega⟩ | exact Or.inr ⟨by omega, by omega⟩ | exact ⟨by omega, by omega⟩ | exact ⟨by omega, by omega, by omega⟩ | omega | (subst_vars; omega)), fun q h_q => ?_⟩
    refine ⟨by show 2 ≤ sizeLine; decide, fun p h_p => ?_⟩
    exact kont t q (by first | assumption | exact Ow.divw64 (by omega) (by omega) | exact Or.inl ⟨by omega, by omega⟩ | exact Or.inr ⟨by omega, by omega⟩ | exact ⟨by omega, by omega⟩ | exact ⟨by omega, by omega, by omega⟩ | omega | (subst_vars; omega)) (by first | assumption | exact Ow.divw64 (by omega) (by omega) | exact Or.inl ⟨by omega, by omega⟩ | exact Or.inr ⟨by omega, by omega⟩ | exact ⟨by omega, by omega⟩ | exact ⟨by omega, by omega, by omega⟩ | omega | (subst_vars; omega)) (by first | assumption | exact Ow.divw64 (by omega) (by omega) | exact Or.inl ⟨by omega, by omega⟩ | exact Or.inr ⟨by omega, by omega⟩ | exact ⟨by omega, by omega⟩ | exact ⟨by omega, by omega, by omega⟩ | omega | (subst_vars; omega)) (by first | assumption | exact Ow.divw64 (by omega) (by omega) | exact Or.inl ⟨by omega, by omega⟩ | exact Or.inr ⟨by omega, by omega⟩ | exact ⟨by omega, by omega⟩ | exact ⟨by omega, by omega, by omega⟩ | omega | (subst_vars; omega)) _ h_p
theorem ok_gap_of (T : Tx K mg) : FnOk P w K mg base CX0 3 T.d_gap_of.f T.d_gap_of.fd ["width", "a", "b"] (sp_gap_of K) := by
  refine T.d_gap_of.F.ok sc_gap_of (fun vs H Q E h => ?_) (fun cdv A outer s H vs Q E hr h => ?_)
  · obtain ⟨width, a, b, rfl, _⟩ := h
    rfl
  · obtain ⟨width, a, b, rfl, c0, c1, c2, c3, c4, c5, kont⟩ := h
    have p32_width := Ow.pow2_le32 (w := width) (by omega)
    have p0_width := Ow.p2 width.toNat
    have d1 := Ow.gapx p0_width c2 c3 c4 c5
    refine ⟨_, (pss_cons (ps_expr (pe_call (Ow.ok_need_width T) (hr.mono (by decide : 2 ≤ 2)) (by rfl) T.d_need_width.m T.d_need_width.F.kp T.d_need_width.b .nil pass0 (pa_cons (pv 0) pa_nil)))
        (pss_one (ps_ret (pe_tup (pa_cons (pe_call (Ow.ok_cut T) (hr.mono (by decide : 1 ≤ 2)) (by rfl) T.d_cut.m T.d_cut.F.kp T.d_cut.b .nil pass0 (pa_cons (pv 0) (pa_cons (pe_op op_sub (pv 1) (pv 2)) pa_nil))) (pa_cons (pe_callTy Ow.call_intb (by rfl) T.z_int (by decide +kernel) (pa_cons (pe_cmpR op_lt (pv 1) (pv 2) (nomark _)) pa_nil)) pa_nil)))))), ?_⟩
    refine ⟨_, rfl, ?_⟩
    refine ⟨_, rfl, (by first | assumption | exact Ow.divw64 (by omega) (by omega) | exact Or.inl ⟨by omega, by omega⟩ | exact Or.inr ⟨by omega, by omega⟩ | exact ⟨by omega, by omega⟩ | exact ⟨by omega, by omega, by omega⟩ | omega | (subst_vars; omega)), (by first | assumption | exact Ow.divw64 (by omega) (by omega) | exact Or.inl ⟨by omega, by omega⟩ | exact Or.inr ⟨by omega, by omega⟩ | exact ⟨by omega, by omega⟩ | exact ⟨by omega, by omega, by omega⟩ | omega | (subst_vars; omega)), ?_⟩
    refine ⟨_, rfl, ?_⟩
    refine ⟨_, rfl, ?_⟩
    refine ⟨_, rfl, ?_⟩
    refine ⟨_, _, rfl, rfl, ?_⟩
    refine ⟨_, _, rfl, (by first | assumption | exact Ow.divw64 (by omega) (by omega) | exact Or.inl ⟨by omega, by omega⟩ | exact Or.inr ⟨by omega, by omega⟩ | exact ⟨by omega, by omega⟩ | exact ⟨by omega, by omega, by omega⟩ | omega | (subst_vars; omega)), (by first | assumption | exact Ow.divw64 (by omega) (by omega) | exact Or.inl ⟨by omega, by omega⟩ | exact Or.inr ⟨by omega, by omega⟩ | exact ⟨by omega, by omega⟩ | exact ⟨by omega, by omega, by omega⟩ | omega | (subst_vars; omega)), fun t h1 h2 h3 => ?_⟩
    refine ⟨_, rfl, ?_⟩
    refine ⟨_, rfl, ?_⟩
    refine ⟨_, _, rfl, rfl, ?_⟩
    refine ⟨_, rfl, fun n h_n => ?_⟩
    simp only [decide_eq_true_eq, decide_eq_false_iff_not] at h_n
    refine ⟨by show 2 ≤ sizeLine; decide, fun p h_p => ?_⟩
    rw [d1] at h1
    exact kont t n (by first | assumption | omega | (split at h1 <;> rcases h_n with ⟨rfl, _⟩ | ⟨rfl, _⟩ <;> omega)) (by first | assumption | omega | (split at h1 <;> rcases h_n with ⟨rfl, _⟩ | ⟨rfl, _⟩ <;> omega)) (by first | assumption | omega | (split at h1 <;> rcases h_n with ⟨rfl, _⟩ | ⟨rfl, _⟩ <;> omega)) (by first | assumption | omega | (split at h1 <;> rcases h_n with ⟨rfl, _⟩ | ⟨rfl, _⟩ <;> omega)) _ h_p
theorem ok_low_product (T : Tx K mg) : FnOk P w K mg base CX0 3 T.d_low_product.f T.d_low_product.fd ["width", "a", "b"] (sp_low_product K) := by
  refine T.d_low_product.F.ok sc_low_product (fun vs H Q E h => ?_) (fun cdv A outer s H vs Q E hr h => ?_)
  · obtain ⟨width, a, b, rfl, _⟩ := h
    rfl
  · obtain ⟨width, a, b, rfl, c0, c1, c2, c3, c4, c5, kont⟩ := h
    have p32_width := Ow.pow2_le32 (w := width) (by omega)
    have p0_width := Ow.p2 width.toNat
    refine ⟨_, (pss_cons (ps_expr (pe_call (Ow.ok_need_width T) (hr.mono (by decide : 2 ≤ 2)) (by rfl) T.d_need_width.m T.d_need_width.F.kp T.d_need_width.b .nil pass0 (pa_cons (pv 0) pa_nil)))
        (pss_one (ps_ret (pe_call (Ow.ok_cut T) (hr.mono (by decide : 1 ≤ 2)) (by rfl) T.d_cut.m T.d_cut.F.kp T.d_cut.b .nil pass0 (pa_cons (pv 0) (pa_cons (pe_op Ow.op_mulN (pv 1) (pv 2)) pa_nil)))))), ?_⟩
    refine ⟨_, rfl, ?_⟩
    refine ⟨_, rfl, (by first | assumption | exact Ow.divw64 (by omega) (by omega) | exact Or.inl ⟨by omega, by omega⟩ | exact Or.inr ⟨by omega, by omega⟩ | exact ⟨by omega, by omega⟩ | exact ⟨by omega, by omega, by omega⟩ | omega | (subst_vars; omega)), (by first | assumption | exact Ow.divw64 (by omega) (by omega) | exact Or.inl ⟨by omega, by omega⟩ | exact Or.inr ⟨by omega, by omega⟩ | exact ⟨by omega, by omega⟩ | exact ⟨by omega, by omega, by omega⟩ | omega | (subst_vars; omega)), ?_⟩
    refine ⟨_, rfl, ?_⟩
    refine ⟨_, rfl, ?_⟩
    refine ⟨_, rfl, ?_⟩
    refine ⟨_, _, rfl, rfl, (by first | assumption | exact Ow.divw64 (by omega) (by omega) | exact Or.inl ⟨by omega, by omega⟩ | exact Or.inr ⟨by omega, by omega⟩ | exact ⟨by omega, by omega⟩ | exact ⟨by omega, by omega, by omega⟩ | omega | (subst_vars; omega)), fun m h_m => ?_⟩
    refine ⟨_, _, rfl, (by first | assumption | exact Ow.divw64 (by omega) (by omega) | exact Or.inl ⟨by omega, by omega⟩ | exact Or.inr ⟨by omega, by omega⟩ | exact ⟨by omega, by omega⟩ | exact ⟨by omega, by omega, by omega⟩ | omega | (subst_vars; omega)), (by first | assumption | exact Ow.divw64 (by omega) (by omega) | exact Or.inl ⟨by omega, by omega⟩ | exact Or.inr ⟨by omega, by omega⟩ | exact ⟨by omega, by omega⟩ | exact ⟨by omega, by omega, by omega⟩ | omega | (subst_vars; omega)), fun t h1 h2 h3 => ?_⟩
    exact kont t (by first | assumption | exact Ow.divw64 (by omega) (by omega) | exact Or.inl ⟨by omega, by omega⟩ | exact Or.inr ⟨by omega, by omega⟩ | exact ⟨by omega, by omega⟩ | exact ⟨by omega, by omega, by omega⟩ | omega | (subst_vars; omega)) (by first | assumption | exact Ow.divw64 (by omega) (by omega) | exact Or.inl ⟨by omega, by omega⟩ | exact Or.inr ⟨by omega, by omega⟩ | exact ⟨by omega, by omega⟩ | exact ⟨by omega, by omega, by omega⟩ | omega | (subst_vars; omega)) (by first | assumption | exact Ow.divw64 (by omega) (by omega) | exact Or.inl ⟨by omega, by omega⟩ | exact Or.inr ⟨by omega, by omega⟩ | exact ⟨by omega, by omega⟩ | exact ⟨by omega, by omega, by omega⟩ | omega | (subst_vars; omega))
theorem ok_high_product (T : Tx K mg) : FnOk P w K mg base CX0 3 T.d_high_product.f T.d_high_product.fd ["width", "a", "b"] (sp_high_product K) := by
  refine T.d_high_product.F.ok sc_high_product (fun vs H Q E h => ?_) (fun cdv A outer s H vs Q E hr h => ?_)
  · obtain ⟨width, a, b, rfl, _⟩ := h
    rfl
  · obtain ⟨width, a, b, rfl, c0, c1, c2, c3, c4, c5, kont⟩ := h
    have p32_width := Ow.pow2_le32 (w := width) (by omega)
    have p0_width := Ow.p2 width.toNat
    have d1 := Ow.high_lt p0_width c2 c3 c4 c5
    refine ⟨_, (pss_cons (ps_expr (pe_call (Ow.ok_need_width T) (hr.mono (by decide : 2 ≤ 2)) (by rfl) T.d_need_width.m T.d_need_width.F.kp T.d_need_width.b .nil pass0 (pa_cons (pv 0) pa_nil)))
        (pss_one (ps_ret (pe_op Ow.op_shrN (pe_op Ow.op_mulN (pv 1) (pv 2)) (pv 0))))), ?_⟩
    refine ⟨_, rfl, ?_⟩
    refine ⟨_, rfl, (by first | assumption | exact Ow.divw64 (by omega) (by omega) | exact Or.inl ⟨by omega, by omega⟩ | exact Or.inr ⟨by omega, by omega⟩ | exact ⟨by omega, by omega⟩ | exact ⟨by omega, by omega, by omega⟩ | omega | (subst_vars; omega)), (by first | assumption | exact Ow.divw64 (by omega) (by omega) | exact Or.inl ⟨by omega, by omega⟩ | exact Or.inr ⟨by omega, by omega⟩ | exact ⟨by omega, by omega⟩ | exact ⟨by omega, by omega, by omega⟩ | omega | (subst_vars; omega)), ?_⟩
    refine ⟨_, rfl, ?_⟩
    refine ⟨_, rfl, ?_⟩
    refine ⟨_, _, rfl, rfl, (by first | assumption | exact Ow.divw64 (by omega) (by omega) | exact Or.inl ⟨by omega, by omega⟩ | exact Or.inr ⟨by omega, by omega⟩ | exact ⟨by omega, by omega⟩ | exact ⟨by omega, by omega, by omega⟩ | omega | (subst_vars; omega)), fun m h_m => ?_⟩
    refine ⟨_, rfl, ?_⟩
    refine ⟨_, _, rfl, rfl, (by first | assumption | exact Ow.divw64 (by omega) (by omega) | exact Or.inl ⟨by omega, by omega⟩ | exact Or.inr ⟨by omega, by omega⟩ | exact ⟨by omega, by omega⟩ | exact ⟨by omega, by omega, by omega⟩ | omega | (subst_vars; omega)), fun q h_q => ?_⟩
    exact kont q (by first | assumption | exact Ow.divw64 (by omega) (by omega) | exact Or.inl ⟨by omega, by omega⟩ | exact Or.inr ⟨by omega, by omega⟩ | exact ⟨by omega, by omega⟩ | exact ⟨by omega, by omega, by omega⟩ | omega | (subst_vars; omega)) (by first | assumption | exact Ow.divw64 (by omega) (by omega) | exact Or.inl ⟨by omega, by omega⟩ | exact Or.inr ⟨by omega, by omega⟩ | exact ⟨by omega, by omega⟩ | exact ⟨by omega, by omega, by omega⟩ | omega | (subst_vars; omega)) (by first | assumption | exact Ow.divw64 (by omega) (by omega) | exact Or.inl ⟨by omega, by omega⟩ | exact Or.inr ⟨by omega, by omega⟩ | exact ⟨by omega, by omega⟩ | exact ⟨by omega, by omega, by omega⟩ | omega | (subst_vars; omega))
theorem ok_l_word (T : Tx K mg) : FnOk P w K mg base CX0 1 T.d_l_word.f T.d_l_word.fd ["_law_found", "_law_width"] (sp_l_word K) := by
  refine T.d_l_word.F.ok sc_l_word (fun vs H Q E h => ?_) (fun cdv A outer s H vs Q E hr h => ?_)
  · obtain ⟨found, width, rfl, _⟩ := h
    rfl
  · obtain ⟨found, width, rfl, c0, c1, c2, c3, kont⟩ := h
    have p32_width := Ow.pow2_le32 (w := width) (by omega)
    have p0_width := Ow.p2 width.toNat
    refine ⟨_, (pss_one (ps_ret (pe_and (pe_callB call_isi (by rfl) T.z_isinstance (by decide +kernel) (pa_cons (pv 0) (pa_cons (pe_bltn (v := .ty "int") (by rfl) T.z_int (by decide +kernel) rfl) pa_nil))) (pe_and (pe_not (pe_callB call_isi (by rfl) T.z_isinstance (by decide +kernel) (pa_cons (pv 0) (pa_cons (pe_bltn (v := .ty "bool") (by rfl) T.z_bool (by decide +kernel) rfl) pa_nil)))) (pe_one (pe_chain op_le op_lt pe_int (pv 0) (pe_op Ow.op_shl1 pe_int (pv 1)))))))), ?_⟩
    refine ⟨_, rfl, ?_⟩
    refine ⟨_, _, _, _, true, rfl, .ty _, .base (.int _), kit_ty (by decide +kernel), ?_⟩
    refine ⟨_, rfl, ?_⟩
    refine iteT ?_
    refine ⟨_, rfl, ?_⟩
    refine ⟨_, _, _, _, false, rfl, .ty _, .base (.int _), kit_ty (by decide +kernel), ?_⟩
    refine ⟨_, rfl, ?_⟩
    refine ⟨_, rfl, ?_⟩
    refine iteT ?_
    refine ⟨_, rfl, ?_⟩
    refine ⟨_, _, rfl, rfl, ?_⟩
    refine ⟨_, rfl, ?_⟩
    refine Ow.ifd (fun h1 => ?_) (fun h1 => ?_)
    · refine ⟨_, rfl, ?_⟩
      refine ⟨_, rfl, rfl, (by first | assumption | exact Ow.divw64 (by omega) (by omega) | exact Or.inl ⟨by omega, by omega⟩ | exact Or.inr ⟨by omega, by omega⟩ | exact ⟨by omega, by omega⟩ | exact ⟨by omega, by omega, by omega⟩ | omega | (subst_vars; omega)), fun B h_B h0_B => ?_⟩
      refine ⟨_, _, rfl, rfl, ?_⟩
      refine Ow.eqd (by first | assumption | exact Ow.divw64 (by omega) (by omega) | exact Or.inl ⟨by omega, by omega⟩ | exact Or.inr ⟨by omega, by omega⟩ | exact ⟨by omega, by omega⟩ | exact ⟨by omega, by omega, by omega⟩ | omega | (subst_vars; omega)) ?_
      exact kont
    · exact ((by first | assumption | exact Ow.divw64 (by omega) (by omega) | exact Or.inl ⟨by omega, by omega⟩ | exact Or.inr ⟨by omega, by omega⟩ | exact ⟨by omega, by omega⟩ | exact ⟨by omega, by omega, by omega⟩ | omega | (subst_vars; omega)) : False).elim
theorem ok_l_two (T : Tx K mg) : FnOk P w K mg base CX0 2 T.d_l_two.f T.d_l_two.fd ["_law_found", "_law_width"] (sp_l_two K) := by
  refine T.d_l_two.F.ok sc_l_two (fun vs H Q E h => ?_) (fun cdv A outer s H vs Q E hr h => ?_)
  · obtain ⟨found, width, x, y, rfl, _⟩ := h
    rfl
  · obtain ⟨found, width, x, y, rfl, c0, c1, c2, c3, c4, c5, kont⟩ := h
    have p32_width := Ow.pow2_le32 (w := width) (by omega)
    have p0_width := Ow.p2 width.toNat
    refine ⟨_, (pss_cons (ps_if (PW.pt (pw_or (pt_not (pt_val (pe_callB call_isi (by rfl) T.z_isinstance (by decide +kernel) (pa_cons (pv 0) (pa_cons (pe_bltn (v := .ty "tuple") (by rfl) T.z_tuple (by decide +kernel) rfl) pa_nil))))) (pw_or (pt_cmpR op_ne (Ow.pe_nmi (pe_callB call_len_seq (by rfl) T.z_len (by decide +kernel) (pa_cons (pv 0) pa_nil))) pe_int (nomark _)) (pw_or1 (pt_not (pt_val (pe_call (Ow.ok_l_word T) (hr.mono (by decide : 1 ≤ 1)) (by rfl) T.d_l_word.m T.d_l_word.F.kp T.d_l_word.b .nil pass0 (pa_cons (pe_ix ix_tup (pv 0) pe_int (fun _ _ => rfl)) (pa_cons (pv 1) pa_nil))))))))) (pss_one (ps_ret pe_bl)) pss_nil)
        (pss_one (ps_ret (pe_and (pe_not (pe_callB call_isi (by rfl) T.z_isinstance (by decide +kernel) (pa_cons (pe_ix ix_tup (pv 0) pe_int (fun _ _ => rfl)) (pa_cons (pe_bltn (v := .ty "bool") (by rfl) T.z_bool (by decide +kernel) rfl) pa_nil)))) (pe_one (pe_cmpR op_in_seq (pe_ix ix_tup (pv 0) pe_int (fun _ _ => rfl)) (pe_tup (pa_cons pe_int (pa_cons pe_int pa_nil))) rfl)))))), ?_⟩
    refine ⟨_, rfl, ?_⟩
    refine ⟨_, _, _, _, true, rfl, .ty _, .base (.tup c0), kit_ty (by decide +kernel), ?_⟩
    refine ⟨_, rfl, ?_⟩
    refine iteF ?_
    refine ⟨_, rfl, ?_⟩
    refine ⟨_, _, rfl, .inr (SqT.of c0), ?_⟩
    refine ⟨_, rfl, fun len h_len => ?_⟩
    replace h_len : len = 2 := h_len
    refine ⟨rfl, ?_⟩
    refine ⟨_, rfl, ?_⟩
    refine Ow.ifnei (fun h1 => ?_) (fun h1 => ?_)
    · refine iteT ?_
      exact ((by first | assumption | exact Ow.divw64 (by omega) (by omega) | exact Or.inl ⟨by omega, by omega⟩ | exact Or.inr ⟨by omega, by omega⟩ | exact ⟨by omega, by omega⟩ | exact ⟨by omega, by omega, by omega⟩ | omega | (subst_vars; omega)) : False).elim
    · refine ⟨_, rfl, ?_⟩
      refine ⟨_, _, _, _, rfl, rfl, (SqT.of c0), (by first | rfl | decide), ?_⟩
      refine ⟨_, rfl, ?_⟩
      refine ⟨_, _, rfl, (by first | assumption | exact Ow.divw64 (by omega) (by omega) | exact Or.inl ⟨by omega, by omega⟩ | exact Or.inr ⟨by omega, by omega⟩ | exact ⟨by omega, by omega⟩ | exact ⟨by omega, by omega, by omega⟩ | omega | (subst_vars; omega)), (by first | assumption | exact Ow.divw64 (by omega) (by omega) | exact Or.inl ⟨by omega, by omega⟩ | exact Or.inr ⟨by omega, by omega⟩ | exact ⟨by omega, by omega⟩ | exact ⟨by omega, by omega, by omega⟩ | omega | (subst_vars; omega)), (by first | assumption | exact Ow.divw64 (by omega) (by omega) | exact Or.inl ⟨by omega, by omega⟩ | exact Or.inr ⟨by omega, by omega⟩ | exact ⟨by omega, by omega⟩ | exact ⟨by omega, by omega, by omega⟩ | omega | (subst_vars; omega)), (by first | assumption | exact Ow.divw64 (by omega) (by omega) | exact Or.inl ⟨by omega, by omega⟩ | exact Or.inr ⟨by omega, by omega⟩ | exact ⟨by omega, by omega⟩ | exact ⟨by omega, by omega, by omega⟩ | omega | (subst_vars; omega)), ?_⟩
      refine ⟨_, rfl, ?_⟩
      refine iteF ?_
      refine ⟨_, rfl, ?_⟩
      refine ⟨_, _, _, _, rfl, rfl, (SqT.of c0), (by first | rfl | decide), ?_⟩
      refine ⟨_, _, _, _, false, rfl, .ty _, .base (.int _), kit_ty (by decide +kernel), ?_⟩
      refine ⟨_, rfl, ?_⟩
      refine ⟨_, rfl, ?_⟩
      refine iteT ?_
      refine ⟨_, rfl, ?_⟩
      refine ⟨_, _, _, _, rfl, rfl, (SqT.of c0), (by first | rfl | decide), ?_⟩
      refine ⟨by show 2 ≤ sizeLine; decide, fun p h_p => ?_⟩
      refine ⟨_, _, rfl, .inr (SqT.of upd_same), rfl, rfl, ?_⟩
      refine Ow.eqb (b := true) (Ow.inV_int (xs := [0, 1]) (by simp only [List.mem_cons, List.not_mem_nil, or_false]; omega)) ?_
      exact kont _ (Ow.same_new h_p)
theorem ok_l_both_right (T : Tx K mg) : FnOk P w K mg base CX0 4 T.d_l_both_right.f T.d_l_both_right.fd ["_law_width", "_law_a", "_law_b"] (sp_l_both_right K) := by
  refine T.d_l_both_right.F.ok sc_l_both_right (fun vs H Q E h => ?_) (fun cdv A outer s H vs Q E hr h => ?_)
  · obtain ⟨width, a, b, rfl, _⟩ := h
    rfl
  · obtain ⟨width, a, b, rfl, c0, c1, c2, c3, c4, c5, kont⟩ := h
    have p32_width := Ow.pow2_le32 (w := width) (by omega)
    have p0_width := Ow.p2 width.toNat
    have d1 := Ow.dm (a * b) p0_width
    refine ⟨_, (pss_cons (ps_set (i := 3) sc_l_both_right.nd rfl (Or.inl rfl) (pe_op Ow.op_shl1 pe_int (pv 0)))
        (pss_cons (ps_set (i := 4) sc_l_both_right.nd rfl (Or.inl rfl) (pe_call (Ow.ok_sum_of T) (hr.mono (by decide : 3 ≤ 3)) (by rfl) T.d_sum_of.m T.d_sum_of.F.kp T.d_sum_of.b .nil pass0 (pa_cons (pv 0) (pa_cons (pv 1) (pa_cons (pv 2) pa_nil)))))
        (pss_cons (ps_set (i := 5) sc_l_both_right.nd rfl (Or.inl rfl) (pe_call (Ow.ok_gap_of T) (hr.mono (by decide : 3 ≤ 3)) (by rfl) T.d_gap_of.m T.d_gap_of.F.kp T.d_gap_of.b .nil pass0 (pa_cons (pv 0) (pa_cons (pv 1) (pa_cons (pv 2) pa_nil)))))
        (pss_cons (ps_if (PW.pt (pw_or (pt_not (pt_val (pe_call (Ow.ok_l_two T) (hr.mono (by decide : 2 ≤ 3)) (by rfl) T.d_l_two.m T.d_l_two.F.kp T.d_l_two.b .nil pass0 (pa_cons (pv 4) (pa_cons (pv 0) pa_nil))))) (pw_or1 (pt_cmpR op_ne (pe_op op_add (pe_op Ow.op_mulN (pe_ix ix_tup (pv 4) pe_int (fun _ _ => rfl)) (pv 3)) (pe_ix ix_tup (pv 4) pe_int (fun _ _ => rfl))) (pe_op op_add (pv 1) (pv 2)) (nomark _))))) (pss_one (ps_ret pe_bl)) pss_nil)
        (pss_cons (ps_if (PW.pt (pw_or (pt_not (pt_val (pe_call (Ow.ok_l_two T) (hr.mono (by decide : 2 ≤ 3)) (by rfl) T.d_l_two.m T.d_l_two.F.kp T.d_l_two.b .nil pass0 (pa_cons (pv 5) (pa_cons (pv 0) pa_nil))))) (pw_or1 (pt_cmpR op_ne (pe_op op_sub (pe_ix ix_tup (pv 5) pe_int (fun _ _ => rfl)) (pe_op Ow.op_mulN (pe_ix ix_tup (pv 5) pe_int (fun _ _ => rfl)) (pv 3))) (pe_op op_sub (pv 1) (pv 2)) (nomark _))))) (pss_one (ps_ret pe_bl)) pss_nil)
        (pss_cons (ps_set (i := 6) sc_l_both_right.nd rfl (Or.inl rfl) (pe_call (Ow.ok_low_product T) (hr.mono (by decide : 3 ≤ 3)) (by rfl) T.d_low_product.m T.d_low_product.F.kp T.d_low_product.b .nil pass0 (pa_cons (pv 0) (pa_cons (pv 1) (pa_cons (pv 2) pa_nil)))))
        (pss_cons (ps_set (i := 7) sc_l_both_right.nd rfl (Or.inl rfl) (pe_call (Ow.ok_high_product T) (hr.mono (by decide : 3 ≤ 3)) (by rfl) T.d_high_product.m T.d_high_product.F.kp T.d_high_product.b .nil pass0 (pa_cons (pv 0) (pa_cons (pv 1) (pa_cons (pv 2) pa_nil)))))
        (pss_one (ps_ret (pe_and (pe_call (Ow.ok_l_word T) (hr.mono (by decide : 1 ≤ 3)) (by rfl) T.d_l_word.m T.d_l_word.F.kp T.d_l_word.b .nil pass0 (pa_cons (pv 6) (pa_cons (pv 0) pa_nil))) (pe_and (pe_call (Ow.ok_l_word T) (hr.mono (by decide : 1 ≤ 3)) (by rfl) T.d_l_word.m T.d_l_word.F.kp T.d_l_word.b .nil pass0 (pa_cons (pv 7) (pa_cons (pv 0) pa_nil))) (pe_one (pe_cmpR op_eq (pe_op op_add (pe_op Ow.op_mulN (pv 7) (pv 3)) (pv 6)) (pe_op Ow.op_mulN (pv 1) (pv 2)) (nomark _)))))))))))))), ?_⟩
    refine ⟨_, rfl, ?_⟩
    refine ⟨_, rfl, rfl, (by first | assumption | exact Ow.divw64 (by omega) (by omega) | exact Or.inl ⟨by omega, by omega⟩ | exact Or.inr ⟨by omega, by omega⟩ | exact ⟨by omega, by omega⟩ | exact ⟨by omega, by omega, by omega⟩ | omega | (subst_vars; omega)), fun B h_B h0_B => ?_⟩
    refine ⟨_, rfl, ?_⟩
    refine ⟨_, rfl, ?_⟩
    refine ⟨_, rfl, ?_⟩
    refine ⟨_, _, _, rfl, (by first | assumption | exact Ow.divw64 (by omega) (by omega) | exact Or.inl ⟨by omega, by omega⟩ | exact Or.inr ⟨by omega, by omega⟩ | exact ⟨by omega, by omega⟩ | exact ⟨by omega, by omega, by omega⟩ | omega | (subst_vars; omega)), (by first | assumption | exact Ow.divw64 (by omega) (by omega) | exact Or.inl ⟨by omega, by omega⟩ | exact Or.inr ⟨by omega, by omega⟩ | exact ⟨by omega, by omega⟩ | exact ⟨by omega, by omega, by omega⟩ | omega | (subst_vars; omega)), (by first | assumption | exact Ow.divw64 (by omega) (by omega) | exact Or.inl ⟨by omega, by omega⟩ | exact Or.inr ⟨by omega, by omega⟩ | exact ⟨by omega, by omega⟩ | exact ⟨by omega, by omega, by omega⟩ | omega | (subst_vars; omega)), (by first | assumption | exact Ow.divw64 (by omega) (by omega) | exact Or.inl ⟨by omega, by omega⟩ | exact Or.inr ⟨by omega, by omega⟩ | exact ⟨by omega, by omega⟩ | exact ⟨by omega, by omega, by omega⟩ | omega | (subst_vars; omega)), (by first | assumption | exact Ow.divw64 (by omega) (by omega) | exact Or.inl ⟨by omega, by omega⟩ | exact Or.inr ⟨by omega, by omega⟩ | exact ⟨by omega, by omega⟩ | exact ⟨by omega, by omega, by omega⟩ | omega | (subst_vars; omega)), (by first | assumption | exact Ow.divw64 (by omega) (by omega) | exact Or.inl ⟨by omega, by omega⟩ | exact Or.inr ⟨by omega, by omega⟩ | exact ⟨by omega, by omega⟩ | exact ⟨by omega, by omega, by omega⟩ | omega | (subst_vars; omega)), fun x y h1 h2 h3 h4 p h_p => ?_⟩
    refine ⟨_, rfl, ?_⟩
    refine ⟨_, rfl, ?_⟩
    refine ⟨_, rfl, ?_⟩
    refine ⟨_, _, _, rfl, (by first | assumption | exact Ow.divw64 (by omega) (by omega) | exact Or.inl ⟨by omega, by omega⟩ | exact Or.inr ⟨by omega, by omega⟩ | exact ⟨by omega, by omega⟩ | exact ⟨by omega, by omega, by omega⟩ | omega | (subst_vars; omega)), (by first | assumption | exact Ow.divw64 (by omega) (by omega) | exact Or.inl ⟨by omega, by omega⟩ | exact Or.inr ⟨by omega, by omega⟩ | exact ⟨by omega, by omega⟩ | exact ⟨by omega, by omega, by omega⟩ | omega | (subst_vars; omega)), (by first | assumption | exact Ow.divw64 (by omega) (by omega) | exact Or.inl ⟨by omega, by omega⟩ | exact Or.inr ⟨by omega, by omega⟩ | exact ⟨by omega, by omega⟩ | exact ⟨by omega, by omega, by omega⟩ | omega | (subst_vars; omega)), (by first | assumption | exact Ow.divw64 (by omega) (by omega) | exact Or.inl ⟨by omega, by omega⟩ | exact Or.inr ⟨by omega, by omega⟩ | exact ⟨by omega, by omega⟩ | exact ⟨by omega, by omega, by omega⟩ | omega | (subst_vars; omega)), (by first | assumption | exact Ow.divw64 (by omega) (by omega) | exact Or.inl ⟨by omega, by omega⟩ | exact Or.inr ⟨by omega, by omega⟩ | exact ⟨by omega, by omega⟩ | exact ⟨by omega, by omega, by omega⟩ | omega | (subst_vars; omega)), (by first | assumption | exact Ow.divw64 (by omega) (by omega) | exact Or.inl ⟨by omega, by omega⟩ | exact Or.inr ⟨by omega, by omega⟩ | exact ⟨by omega, by omega⟩ | exact ⟨by omega, by omega, by omega⟩ | omega | (subst_vars; omega)), fun x_2 y_2 h5 h6 h7 h8 p_2 h_p_2 => ?_⟩
    refine ⟨_, rfl, ?_⟩
    refine ⟨_, rfl, ?_⟩
    refine ⟨_, _, _, _, rfl, (Ow.at_new h_p_2 upd_same), (by first | assumption | exact Ow.divw64 (by omega) (by omega) | exact Or.inl ⟨by omega, by omega⟩ | exact Or.inr ⟨by omega, by omega⟩ | exact ⟨by omega, by omega⟩ | exact ⟨by omega, by omega, by omega⟩ | omega | (subst_vars; omega)), (by first | assumption | exact Ow.divw64 (by omega) (by omega) | exact Or.inl ⟨by omega, by omega⟩ | exact Or.inr ⟨by omega, by omega⟩ | exact ⟨by omega, by omega⟩ | exact ⟨by omega, by omega, by omega⟩ | omega | (subst_vars; omega)), (by first | assumption | exact Ow.divw64 (by omega) (by omega) | exact Or.inl ⟨by omega, by omega⟩ | exact Or.inr ⟨by omega, by omega⟩ | exact ⟨by omega, by omega⟩ | exact ⟨by omega, by omega, by omega⟩ | omega | (subst_vars; omega)), (by first | assumption | exact Ow.divw64 (by omega) (by omega) | exact Or.inl ⟨by omega, by omega⟩ | exact Or.inr ⟨by omega, by omega⟩ | exact ⟨by omega, by omega⟩ | exact ⟨by omega, by omega, by omega⟩ | omega | (subst_vars; omega)), (by first | assumption | exact Ow.divw64 (by omega) (by omega) | exact Or.inl ⟨by omega, by omega⟩ | exact Or.inr ⟨by omega, by omega⟩ | exact ⟨by omega, by omega⟩ | exact ⟨by omega, by omega, by omega⟩ | omega | (subst_vars; omega)), fun Hn h9 => ?_⟩
    refine ⟨_, rfl, ?_⟩
    refine iteF ?_
    refine ⟨_, rfl, ?_⟩
    refine ⟨_, _, _, _, rfl, rfl, (SqT.of (h9 _ _ (Ow.at_new h_p_2 upd_same))), (by first | rfl | decide), ?_⟩
    refine ⟨_, rfl, ?_⟩
    refine ⟨_, _, rfl, rfl, (by first | assumption | exact Ow.divw64 (by omega) (by omega) | exact Or.inl ⟨by omega, by omega⟩ | exact Or.inr ⟨by omega, by omega⟩ | exact ⟨by omega, by omega⟩ | exact ⟨by omega, by omega, by omega⟩ | omega | (subst_vars; omega)), fun m h_m => ?_⟩
    refine ⟨_, rfl, ?_⟩
    refine ⟨_, _, _, _, rfl, rfl, (SqT.of (h9 _ _ (Ow.at_new h_p_2 upd_same))), (by first | rfl | decide), ?_⟩
    refine ⟨_, _, rfl, rfl, ?_⟩
    refine ⟨_, rfl, ?_⟩
    refine ⟨_, rfl, ?_⟩
    refine ⟨_, _, rfl, rfl, ?_⟩
    refine ⟨rfl, ?_⟩
    refine ⟨_, rfl, ?_⟩
    refine Ow.ifnei (fun h10 => ?_) (fun h10 => ?_)
    · exact ((by first | assumption | exact Ow.divw64 (by omega) (by omega) | exact Or.inl ⟨by omega, by omega⟩ | exact Or.inr ⟨by omega, by omega⟩ | exact ⟨by omega, by omega⟩ | exact ⟨by omega, by omega, by omega⟩ | omega | (subst_vars; omega)) : False).elim
    · refine ⟨_, rfl, ?_⟩
      refine ⟨_, rfl, ?_⟩
      refine ⟨_, _, _, _, rfl, (h9 _ _ upd_same), (by first | assumption | exact Ow.divw64 (by omega) (by omega) | exact Or.inl ⟨by omega, by omega⟩ | exact Or.inr ⟨by omega, by omega⟩ | exact ⟨by omega, by omega⟩ | exact ⟨by omega, by omega, by omega⟩ | omega | (subst_vars; omega)), (by first | assumption | exact Ow.divw64 (by omega) (by omega) | exact Or.inl ⟨by omega, by omega⟩ | exact Or.inr ⟨by omega, by omega⟩ | exact ⟨by omega, by omega⟩ | exact ⟨by omega, by omega, by omega⟩ | omega | (subst_vars; omega)), (by first | assumption | exact Ow.divw64 (by omega) (by omega) | exact Or.inl ⟨by omega, by omega⟩ | exact Or.inr ⟨by omega, by omega⟩ | exact ⟨by omega, by omega⟩ | exact ⟨by omega, by omega, by omega⟩ | omega | (subst_vars; omega)), (by first | assumption | exact Ow.divw64 (by omega) (by omega) | exact Or.inl ⟨by omega, by omega⟩ | exact Or.inr ⟨by omega, by omega⟩ | exact ⟨by omega, by omega⟩ | exact ⟨by omega, by omega, by omega⟩ | omega | (subst_vars; omega)), (by first | assumption | exact Ow.divw64 (by omega) (by omega) | exact Or.inl ⟨by omega, by omega⟩ | exact Or.inr ⟨by omega, by omega⟩ | exact ⟨by omega, by omega⟩ | exact ⟨by omega, by omega, by omega⟩ | omega | (subst_vars; omega)), fun Hn_2 h11 => ?_⟩
      refine ⟨_, rfl, ?_⟩
      refine iteF ?_
      refine ⟨_, rfl, ?_⟩
      refine ⟨_, _, _, _, rfl, rfl, (SqT.of (h11 _ _ (h9 _ _ upd_same))), (by first | rfl | decide), ?_⟩
      refine ⟨_, rfl, ?_⟩
      refine ⟨_, _, _, _, rfl, rfl, (SqT.of (h11 _ _ (h9 _ _ upd_same))), (by first | rfl | decide), ?_⟩
      refine ⟨_, rfl, ?_⟩
      refine ⟨_, _, rfl, rfl, (by first | assumption | exact Ow.divw64 (by omega) (by omega) | exact Or.inl ⟨by omega, by omega⟩ | exact Or.inr ⟨by omega, by omega⟩ | exact ⟨by omega, by omega⟩ | exact ⟨by omega, by omega, by omega⟩ | omega | (subst_vars; omega)), fun m_2 h_m_2 => ?_⟩
      refine ⟨_, _, rfl, rfl, ?_⟩
      refine ⟨_, rfl, ?_⟩
      refine ⟨_, rfl, ?_⟩
      refine ⟨_, _, rfl, rfl, ?_⟩
      refine ⟨rfl, ?_⟩
      refine ⟨_, rfl, ?_⟩
      refine Ow.ifnei (fun h12 => ?_) (fun h12 => ?_)
      · exact ((by first | assumption | exact Ow.divw64 (by omega) (by omega) | exact Or.inl ⟨by omega, by omega⟩ | exact Or.inr ⟨by omega, by omega⟩ | exact ⟨by omega, by omega⟩ | exact ⟨by omega, by omega, by omega⟩ | omega | (subst_vars; omega)) : False).elim
      · refine ⟨_, rfl, ?_⟩
        refine ⟨_, rfl, ?_⟩
        refine ⟨_, rfl, ?_⟩
        refine ⟨_, _, _, rfl, (by first | assumption | exact Ow.divw64 (by omega) (by omega) | exact Or.inl ⟨by omega, by omega⟩ | exact Or.inr ⟨by omega, by omega⟩ | exact ⟨by omega, by omega⟩ | exact ⟨by omega, by omega, by omega⟩ | omega | (subst_vars; omega)), (by first | assumption | exact Ow.divw64 (by omega) (by omega) | exact Or.inl ⟨by omega, by omega⟩ | exact Or.inr ⟨by omega, by omega⟩ | exact ⟨by omega, by omega⟩ | exact ⟨by omega, by omega, by omega⟩ | omega | (subst_vars; omega)), (by first | assumption | exact Ow.divw64 (by omega) (by omega) | exact Or.inl ⟨by omega, by omega⟩ | exact Or.inr ⟨by omega, by omega⟩ | exact ⟨by omega, by omega⟩ | exact ⟨by omega, by omega, by omega⟩ | omega | (subst_vars; omega)), (by first | assumption | exact Ow.divw64 (by omega) (by omega) | exact Or.inl ⟨by omega, by omega⟩ | exact Or.inr ⟨by omega, by omega⟩ | exact ⟨by omega, by omega⟩ | exact ⟨by omega, by omega, by omega⟩ | omega | (subst_vars; omega)), (by first | assumption | exact Ow.divw64 (by omega) (by omega) | exact Or.inl ⟨by omega, by omega⟩ | exact Or.inr ⟨by omega, by omega⟩ | exact ⟨by omega, by omega⟩ | exact ⟨by omega, by omega, by omega⟩ | omega | (subst_vars; omega)), (by first | assumption | exact Ow.divw64 (by omega) (by omega) | exact Or.inl ⟨by omega, by omega⟩ | exact Or.inr ⟨by omega, by omega⟩ | exact ⟨by omega, by omega⟩ | exact ⟨by omega, by omega, by omega⟩ | omega | (subst_vars; omega)), fun l_low h13 h14 h15 => ?_⟩
        refine ⟨_, rfl, ?_⟩
        refine ⟨_, rfl, ?_⟩
        refine ⟨_, rfl, ?_⟩
        refine ⟨_, _, _, rfl, (by first | assumption | exact Ow.divw64 (by omega) (by omega) | exact Or.inl ⟨by omega, by omega⟩ | exact Or.inr ⟨by omega, by omega⟩ | exact ⟨by omega, by omega⟩ | exact ⟨by omega, by omega, by omega⟩ | omega | (subst_vars; omega)), (by first | assumption | exact Ow.divw64 (by omega) (by omega) | exact Or.inl ⟨by omega, by omega⟩ | exact Or.inr ⟨by omega, by omega⟩ | exact ⟨by omega, by omega⟩ | exact ⟨by omega, by omega, by omega⟩ | omega | (subst_vars; omega)), (by first | assumption | exact Ow.divw64 (by omega) (by omega) | exact Or.inl ⟨by omega, by omega⟩ | exact Or.inr ⟨by omega, by omega⟩ | exact ⟨by omega, by omega⟩ | exact ⟨by omega, by omega, by omega⟩ | omega | (subst_vars; omega)), (by first | assumption | exact Ow.divw64 (by omega) (by omega) | exact Or.inl ⟨by omega, by omega⟩ | exact Or.inr ⟨by omega, by omega⟩ | exact ⟨by omega, by omega⟩ | exact ⟨by omega, by omega, by omega⟩ | omega | (subst_vars; omega)), (by first | assumption | exact Ow.divw64 (by omega) (by omega) | exact Or.inl ⟨by omega, by omega⟩ | exact Or.inr ⟨by omega, by omega⟩ | exact ⟨by omega, by omega⟩ | exact ⟨by omega, by omega, by omega⟩ | omega | (subst_vars; omega)), (by first | assumption | exact Ow.divw64 (by omega) (by omega) | exact Or.inl ⟨by omega, by omega⟩ | exact Or.inr ⟨by omega, by omega⟩ | exact ⟨by omega, by omega⟩ | exact ⟨by omega, by omega, by omega⟩ | omega | (subst_vars; omega)), fun l_high h16 h17 h18 => ?_⟩
        refine ⟨_, rfl, ?_⟩
        refine ⟨_, rfl, ?_⟩
        refine ⟨_, _, rfl, (by first | assumption | exact Ow.divw64 (by omega) (by omega) | exact Or.inl ⟨by omega, by omega⟩ | exact Or.inr ⟨by omega, by omega⟩ | exact ⟨by omega, by omega⟩ | exact ⟨by omega, by omega, by omega⟩ | omega | (subst_vars; omega)), (by first | assumption | exact Ow.divw64 (by omega) (by omega) | exact Or.inl ⟨by omega, by omega⟩ | exact Or.inr ⟨by omega, by omega⟩ | exact ⟨by omega, by omega⟩ | exact ⟨by omega, by omega, by omega⟩ | omega | (subst_vars; omega)), (by first | assumption | exact Ow.divw64 (by omega) (by omega) | exact Or.inl ⟨by omega, by omega⟩ | exact Or.inr ⟨by omega, by omega⟩ | exact ⟨by omega, by omega⟩ | exact ⟨by omega, by omega, by omega⟩ | omega | (subst_vars; omega)), (by first | assumption | exact Ow.divw64 (by omega) (by omega) | exact Or.inl ⟨by omega, by omega⟩ | exact Or.inr ⟨by omega, by omega⟩ | exact ⟨by omega, by omega⟩ | exact ⟨by omega, by omega, by omega⟩ | omega | (subst_vars; omega)), ?_⟩
        refine ⟨_, rfl, ?_⟩
        refine iteT ?_
        refine ⟨_, rfl, ?_⟩
        refine ⟨_, rfl, ?_⟩
        refine ⟨_, _, rfl, (by first | assumption | exact Ow.divw64 (by omega) (by omega) | exact Or.inl ⟨by omega, by omega⟩ | exact Or.inr ⟨by omega, by omega⟩ | exact ⟨by omega, by omega⟩ | exact ⟨by omega, by omega, by omega⟩ | omega | (subst_vars; omega)), (by first | assumption | exact Ow.divw64 (by omega) (by omega) | exact Or.inl ⟨by omega, by omega⟩ | exact Or.inr ⟨by omega, by omega⟩ | exact ⟨by omega, by omega⟩ | exact ⟨by omega, by omega, by omega⟩ | omega | (subst_vars; omega)), (by first | assumption | exact Ow.divw64 (by omega) (by omega) | exact Or.inl ⟨by omega, by omega⟩ | exact Or.inr ⟨by omega, by omega⟩ | exact ⟨by omega, by omega⟩ | exact ⟨by omega, by omega, by omega⟩ | omega | (subst_vars; omega)), (by first | assumption | exact Ow.divw64 (by omega) (by omega) | exact Or.inl ⟨by omega, by omega⟩ | exact Or.inr ⟨by omega, by omega⟩ | exact ⟨by omega, by omega⟩ | exact ⟨by omega, by omega, by omega⟩ | omega | (subst_vars; omega)), ?_⟩
        refine ⟨_, rfl, ?_⟩
        refine iteT ?_
        refine ⟨_, rfl, ?_⟩
        refine ⟨_, rfl, ?_⟩
        refine ⟨_, _, rfl, rfl, (by first | assumption | exact Ow.divw64 (by omega) (by omega) | exact Or.inl ⟨by omega, by omega⟩ | exact Or.inr ⟨by omega, by omega⟩ | exact ⟨by omega, by omega⟩ | exact ⟨by omega, by omega, by omega⟩ | omega | (subst_vars; omega)), fun m_3 h_m_3 => ?_⟩
        refine ⟨_, rfl, ?_⟩
        refine ⟨_, _, rfl, rfl, ?_⟩
        refine ⟨_, rfl, ?_⟩
        refine ⟨_, rfl, ?_⟩
        refine ⟨_, _, rfl, rfl, (by first | assumption | exact Ow.divw64 (by omega) (by omega) | exact Or.inl ⟨by omega, by omega⟩ | exact Or.inr ⟨by omega, by omega⟩ | exact ⟨by omega, by omega⟩ | exact ⟨by omega, by omega, by omega⟩ | omega | (subst_vars; omega)), fun m_4 h_m_4 => ?_⟩
        refine ⟨rfl, ?_⟩
        refine Ow.eqeqi (by first | assumption | exact Ow.divw64 (by omega) (by omega) | exact Or.inl ⟨by omega, by omega⟩ | exact Or.inr ⟨by omega, by omega⟩ | exact ⟨by omega, by omega⟩ | exact ⟨by omega, by omega, by omega⟩ | omega | (subst_vars; omega)) ?_
        exact kont _ ((((Ow.same_new h_p).trans (Ow.same_new h_p_2)).trans h9).trans h11)
theorem ok_left (T : Tx K mg) : FnOk P w K mg base CX0 3 T.d_left.f T.d_left.fd ["width", "a", "k"] (sp_left K) := by
  refine T.d_left.F.ok sc_left (fun vs H Q E h => ?_) (fun cdv A outer s H vs Q E hr h => ?_)
  · obtain ⟨width, a, k, rfl, _⟩ := h
    rfl
  · obtain ⟨width, a, k, rfl, c0, c1, c2, c3, c4, c5, kont⟩ := h
    have p32_width := Ow.pow2_le32 (w := width) (by omega)
    have p0_width := Ow.p2 width.toNat
    refine ⟨_, (pss_cons (ps_expr (pe_call (Ow.ok_need_width T) (hr.mono (by decide : 2 ≤ 2)) (by rfl) T.d_need_width.m T.d_need_width.F.kp T.d_need_width.b .nil pass0 (pa_cons (pv 0) pa_nil)))
        (pss_one (ps_ret (pe_call (Ow.ok_cut T) (hr.mono (by decide : 1 ≤ 2)) (by rfl) T.d_cut.m T.d_cut.F.kp T.d_cut.b .nil pass0 (pa_cons (pv 0) (pa_cons (pe_op Ow.op_shlN (pv 1) (pv 2)) pa_nil)))))), ?_⟩
    refine ⟨_, rfl, ?_⟩
    refine ⟨_, rfl, (by first | assumption | exact Ow.divw64 (by omega) (by omega) | exact Or.inl ⟨by omega, by omega⟩ | exact Or.inr ⟨by omega, by omega⟩ | exact ⟨by omega, by omega⟩ | exact ⟨by omega, by omega, by omega⟩ | omega | (subst_vars; omega)), (by first | assumption | exact Ow.divw64 (by omega) (by omega) | exact Or.inl ⟨by omega, by omega⟩ | exact Or.inr ⟨by omega, by omega⟩ | exact ⟨by omega, by omega⟩ | exact ⟨by omega, by omega, by omega⟩ | omega | (subst_vars; omega)), ?_⟩
    refine ⟨_, rfl, ?_⟩
    refine ⟨_, rfl, ?_⟩
    refine ⟨_, rfl, ?_⟩
    refine ⟨_, _, rfl, rfl, (by first | assumption | exact Ow.divw64 (by omega) (by omega) | exact Or.inl ⟨by omega, by omega⟩ | exact Or.inr ⟨by omega, by omega⟩ | exact ⟨by omega, by omega⟩ | exact ⟨by omega, by omega, by omega⟩ | omega | (subst_vars; omega)), fun s h_s => ?_⟩
    refine ⟨_, _, rfl, (by first | assumption | exact Ow.divw64 (by omega) (by omega) | exact Or.inl ⟨by omega, by omega⟩ | exact Or.inr ⟨by omega, by omega⟩ | exact ⟨by omega, by omega⟩ | exact ⟨by omega, by omega, by omega⟩ | omega | (subst_vars; omega)), (by first | assumption | exact Ow.divw64 (by omega) (by omega) | exact Or.inl ⟨by omega, by omega⟩ | exact Or.inr ⟨by omega, by omega⟩ | exact ⟨by omega, by omega⟩ | exact ⟨by omega, by omega, by omega⟩ | omega | (subst_vars; omega)), fun t h1 h2 h3 => ?_⟩
    have d1 := Ow.sub_mod s (2 ^ width.toNat)
    rw [h_s] at d1 h1
    exact kont t (by first | assumption | exact Ow.divw64 (by omega) (by omega) | exact Or.inl ⟨by omega, by omega⟩ | exact Or.inr ⟨by omega, by omega⟩ | exact ⟨by omega, by omega⟩ | exact ⟨by omega, by omega, by omega⟩ | omega | (subst_vars; omega)) (by first | assumption | exact Ow.divw64 (by omega) (by omega) | exact Or.inl ⟨by omega, by omega⟩ | exact Or.inr ⟨by omega, by omega⟩ | exact ⟨by omega, by omega⟩ | exact ⟨by omega, by omega, by omega⟩ | omega | (subst_vars; omega)) (by first | assumption | exact Ow.divw64 (by omega) (by omega) | exact Or.inl ⟨by omega, by omega⟩ | exact Or.inr ⟨by omega, by omega⟩ | exact ⟨by omega, by omega⟩ | exact ⟨by omega, by omega, by omega⟩ | omega | (subst_vars; omega))
theorem ok_right (T : Tx K mg) : FnOk P w K mg base CX0 3 T.d_right.f T.d_right.fd ["width", "a", "k"] (sp_right K) := by
  refine T.d_right.F.ok sc_right (fun vs H Q E h => ?_) (fun cdv A outer s H vs Q E hr h => ?_)
  · obtain ⟨width, a, k, rfl, _⟩ := h
    rfl
  · obtain ⟨width, a, k, rfl, c0, c1, c2, c3, c4, c5, kont⟩ := h
    have p32_width := Ow.pow2_le32 (w := width) (by omega)
    have p0_width := Ow.p2 width.toNat
    refine ⟨_, (pss_cons (ps_expr (pe_call (Ow.ok_need_width T) (hr.mono (by decide : 2 ≤ 2)) (by rfl) T.d_need_width.m T.d_need_width.F.kp T.d_need_width.b .nil pass0 (pa_cons (pv 0) pa_nil)))
        (pss_one (ps_ret (pe_op Ow.op_shrN (pv 1) (pv 2))))), ?_⟩
    refine ⟨_, rfl, ?_⟩
    refine ⟨_, rfl, (by first | assumption | exact Ow.divw64 (by omega) (by omega) | exact Or.inl ⟨by omega, by omega⟩ | exact Or.inr ⟨by omega, by omega⟩ | exact ⟨by omega, by omega⟩ | exact ⟨by omega, by omega, by omega⟩ | omega | (subst_vars; omega)), (by first | assumption | exact Ow.divw64 (by omega) (by omega) | exact Or.inl ⟨by omega, by omega⟩ | exact Or.inr ⟨by omega, by omega⟩ | exact ⟨by omega, by omega⟩ | exact ⟨by omega, by omega, by omega⟩ | omega | (subst_vars; omega)), ?_⟩
    refine ⟨_, rfl, ?_⟩
    refine ⟨_, rfl, ?_⟩
    refine ⟨_, _, rfl, rfl, (by first | assumption | exact Ow.divw64 (by omega) (by omega) | exact Or.inl ⟨by omega, by omega⟩ | exact Or.inr ⟨by omega, by omega⟩ | exact ⟨by omega, by omega⟩ | exact ⟨by omega, by omega, by omega⟩ | omega | (subst_vars; omega)), fun q h_q => ?_⟩
    have d1 := Ow.down (x := a) (Ow.p2 k.toNat)
    have d2 := Ow.rgt c2 k.toNat
    rw [← h_q] at d1 d2
    exact kont q (by first | assumption | exact Ow.divw64 (by omega) (by omega) | exact Or.inl ⟨by omega, by omega⟩ | exact Or.inr ⟨by omega, by omega⟩ | exact ⟨by omega, by omega⟩ | exact ⟨by omega, by omega, by omega⟩ | omega | (subst_vars; omega)) (by first | assumption | exact Ow.divw64 (by omega) (by omega) | exact Or.inl ⟨by omega, by omega⟩ | exact Or.inr ⟨by omega, by omega⟩ | exact ⟨by omega, by omega⟩ | exact ⟨by omega, by omega, by omega⟩ | omega | (subst_vars; omega)) (by first | assumption | exact Ow.divw64 (by omega) (by omega) | exact Or.inl ⟨by omega, by omega⟩ | exact Or.inr ⟨by omega, by omega⟩ | exact ⟨by omega, by omega⟩ | exact ⟨by omega, by omega, by omega⟩ | omega | (subst_vars; omega)) (by first | assumption | exact Ow.divw64 (by omega) (by omega) | exact Or.inl ⟨by omega, by omega⟩ | exact Or.inr ⟨by omega, by omega⟩ | exact ⟨by omega, by omega⟩ | exact ⟨by omega, by omega, by omega⟩ | omega | (subst_vars; omega))
theorem ok_slide (T : Tx K mg) : FnOk P w K mg base CX0 3 T.d_slide.f T.d_slide.fd ["width", "a", "k"] (sp_slide K) := by
  refine T.d_slide.F.ok sc_slide (fun vs H Q E h => ?_) (fun cdv A outer s H vs Q E hr h => ?_)
  · obtain ⟨width, a, k, rfl, _⟩ := h
    rfl
  · obtain ⟨width, a, k, rfl, c0, c1, c2, c3, c4, c5, kont⟩ := h
    have p32_width := Ow.pow2_le32 (w := width) (by omega)
    have p0_width := Ow.p2 width.toNat
    have d0 := Ow.cnt_lt (w := width) (by omega) c2 c3
    have d1 := Ow.slid (w := width) (x := Ow.cnt width a) (k := k) (by omega) d0.1 d0.2 k.toNat
    have d2 := Ow.top_bit (w := width) (by omega) c2 c3
    have d3 := Ow.pow2_pred (w := width) (by omega)
    refine ⟨_, (pss_cons (ps_expr (pe_call (Ow.ok_need_width T) (hr.mono (by decide : 2 ≤ 2)) (by rfl) T.d_need_width.m T.d_need_width.F.kp T.d_need_width.b .nil pass0 (pa_cons (pv 0) pa_nil)))
        (pss_cons (ps_if (pt_cmpR op_eq (pe_op Ow.op_shrN (pv 1) (pe_op op_sub (pv 0) pe_int)) pe_int (nomark _)) (pss_one (ps_set (i := 1) sc_slide.nd rfl (Or.inl rfl) (Ow.pe_nmi (pe_op op_sub (pv 1) (pe_op Ow.op_shl1 pe_int (pv 0)))))) pss_nil)
        (pss_one (ps_ret (pe_call (Ow.ok_cut T) (hr.mono (by decide : 1 ≤ 2)) (by rfl) T.d_cut.m T.d_cut.F.kp T.d_cut.b .nil pass0 (pa_cons (pv 0) (pa_cons (pe_op Ow.op_shrN (pv 1) (pv 2)) pa_nil))))))), ?_⟩
    refine ⟨_, rfl, ?_⟩
    refine ⟨_, rfl, (by first | assumption | exact Ow.divw64 (by omega) (by omega) | exact Or.inl ⟨by omega, by omega⟩ | exact Or.inr ⟨by omega, by omega⟩ | exact ⟨by omega, by omega⟩ | exact ⟨by omega, by omega, by omega⟩ | omega | (subst_vars; omega)), (by first | assumption | exact Ow.divw64 (by omega) (by omega) | exact Or.inl ⟨by omega, by omega⟩ | exact Or.inr ⟨by omega, by omega⟩ | exact ⟨by omega, by omega⟩ | exact ⟨by omega, by omega, by omega⟩ | omega | (subst_vars; omega)), ?_⟩
    refine ⟨_, rfl, ?_⟩
    refine ⟨_, rfl, ?_⟩
    refine ⟨_, _, rfl, rfl, ?_⟩
    refine ⟨_, _, rfl, rfl, (by first | assumption | exact Ow.divw64 (by omega) (by omega) | exact Or.inl ⟨by omega, by omega⟩ | exact Or.inr ⟨by omega, by omega⟩ | exact ⟨by omega, by omega⟩ | exact ⟨by omega, by omega, by omega⟩ | omega | (subst_vars; omega)), fun q h_q => ?_⟩
    refine ⟨rfl, ?_⟩
    refine ⟨_, rfl, ?_⟩
    refine Ow.ifeqi (fun h1 => ?_) (fun h1 => ?_)
    · refine ⟨_, rfl, ?_⟩
      refine ⟨_, rfl, ?_⟩
      refine ⟨_, rfl, rfl, (by first | assumption | exact Ow.divw64 (by omega) (by omega) | exact Or.inl ⟨by omega, by omega⟩ | exact Or.inr ⟨by omega, by omega⟩ | exact ⟨by omega, by omega⟩ | exact ⟨by omega, by omega, by omega⟩ | omega | (subst_vars; omega)), fun B h_B h0_B => ?_⟩
      refine ⟨_, _, rfl, rfl, ?_⟩
      refine ⟨_, rfl, fun a_2 h_a_2 => ?_⟩
      refine ⟨_, rfl, ?_⟩
      refine ⟨_, rfl, ?_⟩
      refine ⟨_, rfl, ?_⟩
      refine ⟨_, _, rfl, rfl, (by first | assumption | exact Ow.divw64 (by omega) (by omega) | exact Or.inl ⟨by omega, by omega⟩ | exact Or.inr ⟨by omega, by omega⟩ | exact ⟨by omega, by omega⟩ | exact ⟨by omega, by omega, by omega⟩ | omega | (subst_vars; omega)), fun q_2 h_q_2 => ?_⟩
      refine ⟨_, _, rfl, (by first | assumption | exact Ow.divw64 (by omega) (by omega) | exact Or.inl ⟨by omega, by omega⟩ | exact Or.inr ⟨by omega, by omega⟩ | exact ⟨by omega, by omega⟩ | exact ⟨by omega, by omega, by omega⟩ | omega | (subst_vars; omega)), (by first | assumption | exact Ow.divw64 (by omega) (by omega) | exact Or.inl ⟨by omega, by omega⟩ | exact Or.inr ⟨by omega, by omega⟩ | exact ⟨by omega, by omega⟩ | exact ⟨by omega, by omega, by omega⟩ | omega | (subst_vars; omega)), fun t h2 h3 h4 => ?_⟩
      have d4 : Ow.cnt width a = a_2 := by unfold Ow.cnt; split <;> omega
      rw [d4] at d1
      first | rw [← h_q_2] at d1 | rw [← h_q_3] at d1
      first | rw [← h2] at d1 | rw [← h5] at d1
      rw [← d4] at d1
      exact kont t (by first | assumption | exact Ow.divw64 (by omega) (by omega) | exact Or.inl ⟨by omega, by omega⟩ | exact Or.inr ⟨by omega, by omega⟩ | exact ⟨by omega, by omega⟩ | exact ⟨by omega, by omega, by omega⟩ | omega | (subst_vars; omega)) (by first | assumption | exact Ow.divw64 (by omega) (by omega) | exact Or.inl ⟨by omega, by omega⟩ | exact Or.inr ⟨by omega, by omega⟩ | exact ⟨by omega, by omega⟩ | exact ⟨by omega, by omega, by omega⟩ | omega | (subst_vars; omega)) (by first | assumption | exact Ow.divw64 (by omega) (by omega) | exact Or.inl ⟨by omega, by omega⟩ | exact Or.inr ⟨by omega, by omega⟩ | exact ⟨by omega, by omega⟩ | exact ⟨by omega, by omega, by omega⟩ | omega | (subst_vars; omega)) (by first | assumption | exact Ow.divw64 (by omega) (by omega) | exact Or.inl ⟨by omega, by omega⟩ | exact Or.inr ⟨by omega, by omega⟩ | exact ⟨by omega, by omega⟩ | exact ⟨by omega, by omega, by omega⟩ | omega | (subst_vars; omega))
    · refine ⟨_, rfl, ?_⟩
      refine ⟨_, rfl, ?_⟩
      refine ⟨_, rfl, ?_⟩
      refine ⟨_, _, rfl, rfl, (by first | assumption | exact Ow.divw64 (by omega) (by omega) | exact Or.inl ⟨by omega, by omega⟩ | exact Or.inr ⟨by omega, by omega⟩ | exact ⟨by omega, by omega⟩ | exact ⟨by omega, by omega, by omega⟩ | omega | (subst_vars; omega)), fun q_3 h_q_3 => ?_⟩
      refine ⟨_, _, rfl, (by first | assumption | exact Ow.divw64 (by omega) (by omega) | exact Or.inl ⟨by omega, by omega⟩ | exact Or.inr ⟨by omega, by omega⟩ | exact ⟨by omega, by omega⟩ | exact ⟨by omega, by omega, by omega⟩ | omega | (subst_vars; omega)), (by first | assumption | exact Ow.divw64 (by omega) (by omega) | exact Or.inl ⟨by omega, by omega⟩ | exact Or.inr ⟨by omega, by omega⟩ | exact ⟨by omega, by omega⟩ | exact ⟨by omega, by omega, by omega⟩ | omega | (subst_vars; omega)), fun t_2 h5 h6 h7 => ?_⟩
      have d4 : Ow.cnt width a = a := by unfold Ow.cnt; split <;> omega
      rw [d4] at d1
      first | rw [← h_q_2] at d1 | rw [← h_q_3] at d1
      first | rw [← h2] at d1 | rw [← h5] at d1
      rw [← d4] at d1
      exact kont t_2 (by first | assumption | exact Ow.divw64 (by omega) (by omega) | exact Or.inl ⟨by omega, by omega⟩ | exact Or.inr ⟨by omega, by omega⟩ | exact ⟨by omega, by omega⟩ | exact ⟨by omega, by omega, by omega⟩ | omega | (subst_vars; omega)) (by first | assumption | exact Ow.divw64 (by omega) (by omega) | exact Or.inl ⟨by omega, by omega⟩ | exact Or.inr ⟨by omega, by omega⟩ | exact ⟨by omega, by omega⟩ | exact ⟨by omega, by omega, by omega⟩ | omega | (subst_vars; omega)) (by first | assumption | exact Ow.divw64 (by omega) (by omega) | exact Or.inl ⟨by omega, by omega⟩ | exact Or.inr ⟨by omega, by omega⟩ | exact ⟨by omega, by omega⟩ | exact ⟨by omega, by omega, by omega⟩ | omega | (subst_vars; omega)) (by first | assumption | exact Ow.divw64 (by omega) (by omega) | exact Or.inl ⟨by omega, by omega⟩ | exact Or.inr ⟨by omega, by omega⟩ | exact ⟨by omega, by omega⟩ | exact ⟨by omega, by omega, by omega⟩ | omega | (subst_vars; omega))
theorem ok_l_count (T : Tx K mg) : FnOk P w K mg base CX0 1 T.d_l_count.f T.d_l_count.fd ["_law_width", "_law_word_here"] (sp_l_count K) := by
  refine T.d_l_count.F.ok sc_l_count (fun vs H Q E h => ?_) (fun cdv A outer s H vs Q E hr h => ?_)
  · obtain ⟨width, word, rfl, _⟩ := h
    rfl
  · obtain ⟨width, word, rfl, c0, c1, c2, c3, kont⟩ := h
    have p32_width := Ow.pow2_le32 (w := width) (by omega)
    have p0_width := Ow.p2 width.toNat
    refine ⟨_, (pss_cons (ps_if (pt_cmpR op_lt (pv 1) (pe_op Ow.op_shl1 pe_int (pe_op op_sub (pv 0) pe_int)) (nomark _)) (pss_one (ps_ret (pv 1))) pss_nil)
        (pss_one (ps_ret (pe_op op_sub (pv 1) (pe_op Ow.op_shl1 pe_int (pv 0)))))), ?_⟩
    refine ⟨_, rfl, ?_⟩
    refine ⟨_, rfl, ?_⟩
    refine ⟨_, _, rfl, rfl, ?_⟩
    refine ⟨_, rfl, rfl, (by first | assumption | exact Ow.divw64 (by omega) (by omega) | exact Or.inl ⟨by omega, by omega⟩ | exact Or.inr ⟨by omega, by omega⟩ | exact ⟨by omega, by omega⟩ | exact ⟨by omega, by omega, by omega⟩ | omega | (subst_vars; omega)), fun B h_B h0_B => ?_⟩
    refine ⟨_, _, rfl, rfl, ?_⟩
    refine ⟨_, rfl, ?_⟩
    refine Ow.ifd (fun h1 => ?_) (fun h1 => ?_)
    · refine ⟨_, rfl, ?_⟩
      have d1 := Ow.pow2_pred (w := width) (by omega)
      have d2 : B = 2 ^ (width - 1).toNat := h_B
      exact kont word (by first | (unfold Ow.cnt; split <;> omega) | omega) (by first | (unfold Ow.cnt; split <;> omega) | omega) (by first | (unfold Ow.cnt; split <;> omega) | omega)
    · refine ⟨_, rfl, ?_⟩
      refine ⟨_, rfl, ?_⟩
      refine ⟨_, rfl, rfl, (by first | assumption | exact Ow.divw64 (by omega) (by omega) | exact Or.inl ⟨by omega, by omega⟩ | exact Or.inr ⟨by omega, by omega⟩ | exact ⟨by omega, by omega⟩ | exact ⟨by omega, by omega, by omega⟩ | omega | (subst_vars; omega)), fun B_2 h_B_2 h0_B_2 => ?_⟩
      refine ⟨_, _, rfl, rfl, ?_⟩
      have d1 := Ow.pow2_pred (w := width) (by omega)
      have d2 : B = 2 ^ (width - 1).toNat := h_B
      exact kont (word - B_2) (by first | (unfold Ow.cnt; split <;> omega) | omega) (by first | (unfold Ow.cnt; split <;> omega) | omega) (by first | (unfold Ow.cnt; split <;> omega) | omega)
theorem ok_l_moved_right (T : Tx K mg) : FnOk P w K mg base CX0 4 T.d_l_moved_right.f T.d_l_moved_right.fd ["_law_width", "_law_a", "_law_k"] (sp_l_moved_right K) := by
  refine T.d_l_moved_right.F.ok sc_l_moved_right (fun vs H Q E h => ?_) (fun cdv A outer s H vs Q E hr h => ?_)
  · obtain ⟨width, a, k, rfl, _⟩ := h
    rfl
  · obtain ⟨width, a, k, rfl, c0, c1, c2, c3, c4, c5, kont⟩ := h
    have p32_width := Ow.pow2_le32 (w := width) (by omega)
    have p0_width := Ow.p2 width.toNat
    refine ⟨_, (pss_cons (ps_set (i := 3) sc_l_moved_right.nd rfl (Or.inl rfl) (pe_call (Ow.ok_left T) (hr.mono (by decide : 3 ≤ 3)) (by rfl) T.d_left.m T.d_left.F.kp T.d_left.b .nil pass0 (pa_cons (pv 0) (pa_cons (pv 1) (pa_cons (pv 2) pa_nil)))))
        (pss_cons (ps_set (i := 4) sc_l_moved_right.nd rfl (Or.inl rfl) (pe_call (Ow.ok_right T) (hr.mono (by decide : 3 ≤ 3)) (by rfl) T.d_right.m T.d_right.F.kp T.d_right.b .nil pass0 (pa_cons (pv 0) (pa_cons (pv 1) (pa_cons (pv 2) pa_nil)))))
        (pss_cons (ps_set (i := 5) sc_l_moved_right.nd rfl (Or.inl rfl) (pe_call (Ow.ok_slide T) (hr.mono (by decide : 3 ≤ 3)) (by rfl) T.d_slide.m T.d_slide.F.kp T.d_slide.b .nil pass0 (pa_cons (pv 0) (pa_cons (pv 1) (pa_cons (pv 2) pa_nil)))))
        (pss_cons (ps_if (PW.pt (pw_or (pt_not (pt_val (pe_call (Ow.ok_l_word T) (hr.mono (by decide : 1 ≤ 3)) (by rfl) T.d_l_word.m T.d_l_word.F.kp T.d_l_word.b .nil pass0 (pa_cons (pv 3) (pa_cons (pv 0) pa_nil))))) (pw_or (pt_not (pt_val (pe_call (Ow.ok_l_word T) (hr.mono (by decide : 1 ≤ 3)) (by rfl) T.d_l_word.m T.d_l_word.F.kp T.d_l_word.b .nil pass0 (pa_cons (pv 4) (pa_cons (pv 0) pa_nil))))) (pw_or1 (pt_not (pt_val (pe_call (Ow.ok_l_word T) (hr.mono (by decide : 1 ≤ 3)) (by rfl) T.d_l_word.m T.d_l_word.F.kp T.d_l_word.b .nil pass0 (pa_cons (pv 5) (pa_cons (pv 0) pa_nil))))))))) (pss_one (ps_ret pe_bl)) pss_nil)
        (pss_cons (ps_if (PW.pt (pw_or (pt_cmpR op_ne (pe_op Ow.op_modN (pe_op op_sub (pe_op Ow.op_mulN (pv 1) (pe_op Ow.op_shl1 pe_int (pv 2))) (pv 3)) (pe_op Ow.op_shl1 pe_int (pv 0))) pe_int (nomark _)) (pw_or1 (pt_not (pt_chain op_le op_lt pe_int (pe_op op_sub (pv 1) (pe_op Ow.op_mulN (pv 4) (pe_op Ow.op_shl1 pe_int (pv 2)))) (pe_op Ow.op_shl1 pe_int (pv 2))))))) (pss_one (ps_ret pe_bl)) pss_nil)
        (pss_one (ps_ret (pe_chain op_le op_lt pe_int (pe_op op_sub (pe_call (Ow.ok_l_count T) (hr.mono (by decide : 1 ≤ 3)) (by rfl) T.d_l_count.m T.d_l_count.F.kp T.d_l_count.b .nil pass0 (pa_cons (pv 0) (pa_cons (pv 1) pa_nil))) (pe_op Ow.op_mulN (pe_call (Ow.ok_l_count T) (hr.mono (by decide : 1 ≤ 3)) (by rfl) T.d_l_count.m T.d_l_count.F.kp T.d_l_count.b .nil pass0 (pa_cons (pv 0) (pa_cons (pv 5) pa_nil))) (pe_op Ow.op_shl1 pe_int (pv 2)))) (pe_op Ow.op_shl1 pe_int (pv 2)))))))))), ?_⟩
    refine ⟨_, rfl, ?_⟩
    refine ⟨_, rfl, ?_⟩
    refine ⟨_, rfl, ?_⟩
    refine ⟨_, _, _, rfl, (by first | assumption | exact Ow.divw64 (by omega) (by omega) | exact Or.inl ⟨by omega, by omega⟩ | exact Or.inr ⟨by omega, by omega⟩ | exact ⟨by omega, by omega⟩ | exact ⟨by omega, by omega, by omega⟩ | omega | (subst_vars; omega)), (by first | assumption | exact Ow.divw64 (by omega) (by omega) | exact Or.inl ⟨by omega, by omega⟩ | exact Or.inr ⟨by omega, by omega⟩ | exact ⟨by omega, by omega⟩ | exact ⟨by omega, by omega, by omega⟩ | omega | (subst_vars; omega)), (by first | assumption | exact Ow.divw64 (by omega) (by omega) | exact Or.inl ⟨by omega, by omega⟩ | exact Or.inr ⟨by omega, by omega⟩ | exact ⟨by omega, by omega⟩ | exact ⟨by omega, by omega, by omega⟩ | omega | (subst_vars; omega)), (by first | assumption | exact Ow.divw64 (by omega) (by omega) | exact Or.inl ⟨by omega, by omega⟩ | exact Or.inr ⟨by omega, by omega⟩ | exact ⟨by omega, by omega⟩ | exact ⟨by omega, by omega, by omega⟩ | omega | (subst_vars; omega)), (by first | assumption | exact Ow.divw64 (by omega) (by omega) | exact Or.inl ⟨by omega, by omega⟩ | exact Or.inr ⟨by omega, by omega⟩ | exact ⟨by omega, by omega⟩ | exact ⟨by omega, by omega, by omega⟩ | omega | (subst_vars; omega)), (by first | assumption | exact Ow.divw64 (by omega) (by omega) | exact Or.inl ⟨by omega, by omega⟩ | exact Or.inr ⟨by omega, by omega⟩ | exact ⟨by omega, by omega⟩ | exact ⟨by omega, by omega, by omega⟩ | omega | (subst_vars; omega)), fun l_up h1 h2 h3 => ?_⟩
    refine ⟨_, rfl, ?_⟩
    refine ⟨_, rfl, ?_⟩
    refine ⟨_, rfl, ?_⟩
    refine ⟨_, _, _, rfl, (by first | assumption | exact Ow.divw64 (by omega) (by omega) | exact Or.inl ⟨by omega, by omega⟩ | exact Or.inr ⟨by omega, by omega⟩ | exact ⟨by omega, by omega⟩ | exact ⟨by omega, by omega, by omega⟩ | omega | (subst_vars; omega)), (by first | assumption | exact Ow.divw64 (by omega) (by omega) | exact Or.inl ⟨by omega, by omega⟩ | exact Or.inr ⟨by omega, by omega⟩ | exact ⟨by omega, by omega⟩ | exact ⟨by omega, by omega, by omega⟩ | omega | (subst_vars; omega)), (by first | assumption | exact Ow.divw64 (by omega) (by omega) | exact Or.inl ⟨by omega, by omega⟩ | exact Or.inr ⟨by omega, by omega⟩ | exact ⟨by omega, by omega⟩ | exact ⟨by omega, by omega, by omega⟩ | omega | (subst_vars; omega)), (by first | assumption | exact Ow.divw64 (by omega) (by omega) | exact Or.inl ⟨by omega, by omega⟩ | exact Or.inr ⟨by omega, by omega⟩ | exact ⟨by omega, by omega⟩ | exact ⟨by omega, by omega, by omega⟩ | omega | (subst_vars; omega)), (by first | assumption | exact Ow.divw64 (by omega) (by omega) | exact Or.inl ⟨by omega, by omega⟩ | exact Or.inr ⟨by omega, by omega⟩ | exact ⟨by omega, by omega⟩ | exact ⟨by omega, by omega, by omega⟩ | omega | (subst_vars; omega)), (by first | assumption | exact Ow.divw64 (by omega) (by omega) | exact Or.inl ⟨by omega, by omega⟩ | exact Or.inr ⟨by omega, by omega⟩ | exact ⟨by omega, by omega⟩ | exact ⟨by omega, by omega, by omega⟩ | omega | (subst_vars; omega)), fun l_down h4 h5 h6 h7 => ?_⟩
    refine ⟨_, rfl, ?_⟩
    refine ⟨_, rfl, ?_⟩
    refine ⟨_, rfl, ?_⟩
    refine ⟨_, _, _, rfl, (by first | assumption | exact Ow.divw64 (by omega) (by omega) | exact Or.inl ⟨by omega, by omega⟩ | exact Or.inr ⟨by omega, by omega⟩ | exact ⟨by omega, by omega⟩ | exact ⟨by omega, by omega, by omega⟩ | omega | (subst_vars; omega)), (by first | assumption | exact Ow.divw64 (by omega) (by omega) | exact Or.inl ⟨by omega, by omega⟩ | exact Or.inr ⟨by omega, by omega⟩ | exact ⟨by omega, by omega⟩ | exact ⟨by omega, by omega, by omega⟩ | omega | (subst_vars; omega)), (by first | assumption | exact Ow.divw64 (by omega) (by omega) | exact Or.inl ⟨by omega, by omega⟩ | exact Or.inr ⟨by omega, by omega⟩ | exact ⟨by omega, by omega⟩ | exact ⟨by omega, by omega, by omega⟩ | omega | (subst_vars; omega)), (by first | assumption | exact Ow.divw64 (by omega) (by omega) | exact Or.inl ⟨by omega, by omega⟩ | exact Or.inr ⟨by omega, by omega⟩ | exact ⟨by omega, by omega⟩ | exact ⟨by omega, by omega, by omega⟩ | omega | (subst_vars; omega)), (by first | assumption | exact Ow.divw64 (by omega) (by omega) | exact Or.inl ⟨by omega, by omega⟩ | exact Or.inr ⟨by omega, by omega⟩ | exact ⟨by omega, by omega⟩ | exact ⟨by omega, by omega, by omega⟩ | omega | (subst_vars; omega)), (by first | assumption | exact Ow.divw64 (by omega) (by omega) | exact Or.inl ⟨by omega, by omega⟩ | exact Or.inr ⟨by omega, by omega⟩ | exact ⟨by omega, by omega⟩ | exact ⟨by omega, by omega, by omega⟩ | omega | (subst_vars; omega)), fun l_slid h8 h9 h10 h11 => ?_⟩
    refine ⟨_, rfl, ?_⟩
    refine ⟨_, rfl, ?_⟩
    refine ⟨_, _, rfl, (by first | assumption | exact Ow.divw64 (by omega) (by omega) | exact Or.inl ⟨by omega, by omega⟩ | exact Or.inr ⟨by omega, by omega⟩ | exact ⟨by omega, by omega⟩ | exact ⟨by omega, by omega, by omega⟩ | omega | (subst_vars; omega)), (by first | assumption | exact Ow.divw64 (by omega) (by omega) | exact Or.inl ⟨by omega, by omega⟩ | exact Or.inr ⟨by omega, by omega⟩ | exact ⟨by omega, by omega⟩ | exact ⟨by omega, by omega, by omega⟩ | omega | (subst_vars; omega)), (by first | assumption | exact Ow.divw64 (by omega) (by omega) | exact Or.inl ⟨by omega, by omega⟩ | exact Or.inr ⟨by omega, by omega⟩ | exact ⟨by omega, by omega⟩ | exact ⟨by omega, by omega, by omega⟩ | omega | (subst_vars; omega)), (by first | assumption | exact Ow.divw64 (by omega) (by omega) | exact Or.inl ⟨by omega, by omega⟩ | exact Or.inr ⟨by omega, by omega⟩ | exact ⟨by omega, by omega⟩ | exact ⟨by omega, by omega, by omega⟩ | omega | (subst_vars; omega)), ?_⟩
    refine ⟨_, rfl, ?_⟩
    refine iteF ?_
    refine ⟨_, rfl, ?_⟩
    refine ⟨_, rfl, ?_⟩
    refine ⟨_, _, rfl, (by first | assumption | exact Ow.divw64 (by omega) (by omega) | exact Or.inl ⟨by omega, by omega⟩ | exact Or.inr ⟨by omega, by omega⟩ | exact ⟨by omega, by omega⟩ | exact ⟨by omega, by omega, by omega⟩ | omega | (subst_vars; omega)), (by first | assumption | exact Ow.divw64 (by omega) (by omega) | exact Or.inl ⟨by omega, by omega⟩ | exact Or.inr ⟨by omega, by omega⟩ | exact ⟨by omega, by omega⟩ | exact ⟨by omega, by omega, by omega⟩ | omega | (subst_vars; omega)), (by first | assumption | exact Ow.divw64 (by omega) (by omega) | exact Or.inl ⟨by omega, by omega⟩ | exact Or.inr ⟨by omega, by omega⟩ | exact ⟨by omega, by omega⟩ | exact ⟨by omega, by omega, by omega⟩ | omega | (subst_vars; omega)), (by first | assumption | exact Ow.divw64 (by omega) (by omega) | exact Or.inl ⟨by omega, by omega⟩ | exact Or.inr ⟨by omega, by omega⟩ | exact ⟨by omega, by omega⟩ | exact ⟨by omega, by omega, by omega⟩ | omega | (subst_vars; omega)), ?_⟩
    refine ⟨_, rfl, ?_⟩
    refine iteF ?_
    refine ⟨_, rfl, ?_⟩
    refine ⟨_, rfl, ?_⟩
    refine ⟨_, _, rfl, (by first | assumption | exact Ow.divw64 (by omega) (by omega) | exact Or.inl ⟨by omega, by omega⟩ | exact Or.inr ⟨by omega, by omega⟩ | exact ⟨by omega, by omega⟩ | exact ⟨by omega, by omega, by omega⟩ | omega | (subst_vars; omega)), (by first | assumption | exact Ow.divw64 (by omega) (by omega) | exact Or.inl ⟨by omega, by omega⟩ | exact Or.inr ⟨by omega, by omega⟩ | exact ⟨by omega, by omega⟩ | exact ⟨by omega, by omega, by omega⟩ | omega | (subst_vars; omega)), (by first | assumption | exact Ow.divw64 (by omega) (by omega) | exact Or.inl ⟨by omega, by omega⟩ | exact Or.inr ⟨by omega, by omega⟩ | exact ⟨by omega, by omega⟩ | exact ⟨by omega, by omega, by omega⟩ | omega | (subst_vars; omega)), (by first | assumption | exact Ow.divw64 (by omega) (by omega) | exact Or.inl ⟨by omega, by omega⟩ | exact Or.inr ⟨by omega, by omega⟩ | exact ⟨by omega, by omega⟩ | exact ⟨by omega, by omega, by omega⟩ | omega | (subst_vars; omega)), ?_⟩
    refine ⟨_, rfl, ?_⟩
    refine iteF ?_
    refine ⟨_, rfl, ?_⟩
    refine ⟨_, rfl, ?_⟩
    refine ⟨_, rfl, rfl, (by first | assumption | exact Ow.divw64 (by omega) (by omega) | exact Or.inl ⟨by omega, by omega⟩ | exact Or.inr ⟨by omega, by omega⟩ | exact ⟨by omega, by omega⟩ | exact ⟨by omega, by omega, by omega⟩ | omega | (subst_vars; omega)), fun B h_B h0_B => ?_⟩
    refine ⟨_, _, rfl, rfl, (by first | assumption | exact Ow.divw64 (by omega) (by omega) | exact Or.inl ⟨by omega, by omega⟩ | exact Or.inr ⟨by omega, by omega⟩ | exact ⟨by omega, by omega⟩ | exact ⟨by omega, by omega, by omega⟩ | omega | (subst_vars; omega)), fun m h_m => ?_⟩
    refine ⟨_, rfl, ?_⟩
    refine ⟨_, _, rfl, rfl, ?_⟩
    refine ⟨_, rfl, ?_⟩
    refine ⟨_, rfl, rfl, (by first | assumption | exact Ow.divw64 (by omega) (by omega) | exact Or.inl ⟨by omega, by omega⟩ | exact Or.inr ⟨by omega, by omega⟩ | exact ⟨by omega, by omega⟩ | exact ⟨by omega, by omega, by omega⟩ | omega | (subst_vars; omega)), fun B_2 h_B_2 h0_B_2 => ?_⟩
    refine ⟨_, _, rfl, rfl, (by first | assumption | exact Ow.divw64 (by omega) (by omega) | exact Or.inl ⟨by omega, by omega⟩ | exact Or.inr ⟨by omega, by omega⟩ | exact ⟨by omega, by omega⟩ | exact ⟨by omega, by omega, by omega⟩ | omega | (subst_vars; omega)), fun r h_r h0_r h1_r => ?_⟩
    refine ⟨rfl, ?_⟩
    refine ⟨_, rfl, ?_⟩
    refine Ow.ifnei (fun h12 => ?_) (fun h12 => ?_)
    · refine iteT ?_
      exact ((by first | assumption | exact Ow.divw64 (by omega) (by omega) | exact Or.inl ⟨by omega, by omega⟩ | exact Or.inr ⟨by omega, by omega⟩ | exact ⟨by omega, by omega⟩ | exact ⟨by omega, by omega, by omega⟩ | omega | (subst_vars; omega)) : False).elim
    · refine ⟨_, rfl, ?_⟩
      refine ⟨_, rfl, ?_⟩
      refine ⟨_, rfl, ?_⟩
      refine ⟨_, rfl, rfl, (by first | assumption | exact Ow.divw64 (by omega) (by omega) | exact Or.inl ⟨by omega, by omega⟩ | exact Or.inr ⟨by omega, by omega⟩ | exact ⟨by omega, by omega⟩ | exact ⟨by omega, by omega, by omega⟩ | omega | (subst_vars; omega)), fun B_3 h_B_3 h0_B_3 => ?_⟩
      refine ⟨_, _, rfl, rfl, (by first | assumption | exact Ow.divw64 (by omega) (by omega) | exact Or.inl ⟨by omega, by omega⟩ | exact Or.inr ⟨by omega, by omega⟩ | exact ⟨by omega, by omega⟩ | exact ⟨by omega, by omega, by omega⟩ | omega | (subst_vars; omega)), fun m_2 h_m_2 => ?_⟩
      refine ⟨_, _, rfl, rfl, ?_⟩
      refine ⟨_, _, rfl, rfl, ?_⟩
      refine ⟨_, rfl, ?_⟩
      refine Ow.ifd (fun h13 => ?_) (fun h13 => ?_)
      · refine ⟨_, rfl, ?_⟩
        refine ⟨_, rfl, rfl, (by first | assumption | exact Ow.divw64 (by omega) (by omega) | exact Or.inl ⟨by omega, by omega⟩ | exact Or.inr ⟨by omega, by omega⟩ | exact ⟨by omega, by omega⟩ | exact ⟨by omega, by omega, by omega⟩ | omega | (subst_vars; omega)), fun B_4 h_B_4 h0_B_4 => ?_⟩
        refine ⟨_, _, rfl, rfl, ?_⟩
        refine ⟨_, rfl, ?_⟩
        refine Ow.ifnd (fun h14 => ?_) (fun h14 => ?_)
        · exact ((by first | assumption | exact Ow.divw64 (by omega) (by omega) | exact Or.inl ⟨by omega, by omega⟩ | exact Or.inr ⟨by omega, by omega⟩ | exact ⟨by omega, by omega⟩ | exact ⟨by omega, by omega, by omega⟩ | omega | (subst_vars; omega)) : False).elim
        · refine ⟨_, rfl, ?_⟩
          refine ⟨_, rfl, ?_⟩
          refine ⟨_, _, rfl, (by first | assumption | exact Ow.divw64 (by omega) (by omega) | exact Or.inl ⟨by omega, by omega⟩ | exact Or.inr ⟨by omega, by omega⟩ | exact ⟨by omega, by omega⟩ | exact ⟨by omega, by omega, by omega⟩ | omega | (subst_vars; omega)), (by first | assumption | exact Ow.divw64 (by omega) (by omega) | exact Or.inl ⟨by omega, by omega⟩ | exact Or.inr ⟨by omega, by omega⟩ | exact ⟨by omega, by omega⟩ | exact ⟨by omega, by omega, by omega⟩ | omega | (subst_vars; omega)), (by first | assumption | exact Ow.divw64 (by omega) (by omega) | exact Or.inl ⟨by omega, by omega⟩ | exact Or.inr ⟨by omega, by omega⟩ | exact ⟨by omega, by omega⟩ | exact ⟨by omega, by omega, by omega⟩ | omega | (subst_vars; omega)), (by first | assumption | exact Ow.divw64 (by omega) (by omega) | exact Or.inl ⟨by omega, by omega⟩ | exact Or.inr ⟨by omega, by omega⟩ | exact ⟨by omega, by omega⟩ | exact ⟨by omega, by omega, by omega⟩ | omega | (subst_vars; omega)), fun t h15 h16 h17 => ?_⟩
          refine ⟨_, rfl, ?_⟩
          refine ⟨_, rfl, ?_⟩
          refine ⟨_, _, rfl, (by first | assumption | exact Ow.divw64 (by omega) (by omega) | exact Or.inl ⟨by omega, by omega⟩ | exact Or.inr ⟨by omega, by omega⟩ | exact ⟨by omega, by omega⟩ | exact ⟨by omega, by omega, by omega⟩ | omega | (subst_vars; omega)), (by first | assumption | exact Ow.divw64 (by omega) (by omega) | exact Or.inl ⟨by omega, by omega⟩ | exact Or.inr ⟨by omega, by omega⟩ | exact ⟨by omega, by omega⟩ | exact ⟨by omega, by omega, by omega⟩ | omega | (subst_vars; omega)), (by first | assumption | exact Ow.divw64 (by omega) (by omega) | exact Or.inl ⟨by omega, by omega⟩ | exact Or.inr ⟨by omega, by omega⟩ | exact ⟨by omega, by omega⟩ | exact ⟨by omega, by omega, by omega⟩ | omega | (subst_vars; omega)), (by first | assumption | exact Ow.divw64 (by omega) (by omega) | exact Or.inl ⟨by omega, by omega⟩ | exact Or.inr ⟨by omega, by omega⟩ | exact ⟨by omega, by omega⟩ | exact ⟨by omega, by omega, by omega⟩ | omega | (subst_vars; omega)), fun t_2 h18 h19 h20 => ?_⟩
          refine ⟨_, rfl, ?_⟩
          refine ⟨_, rfl, rfl, (by first | assumption | exact Ow.divw64 (by omega) (by omega) | exact Or.inl ⟨by omega, by omega⟩ | exact Or.inr ⟨by omega, by omega⟩ | exact ⟨by omega, by omega⟩ | exact ⟨by omega, by omega, by omega⟩ | omega | (subst_vars; omega)), fun B_5 h_B_5 h0_B_5 => ?_⟩
          refine ⟨_, _, rfl, rfl, (by first | assumption | exact Ow.divw64 (by omega) (by omega) | exact Or.inl ⟨by omega, by omega⟩ | exact Or.inr ⟨by omega, by omega⟩ | exact ⟨by omega, by omega⟩ | exact ⟨by omega, by omega, by omega⟩ | omega | (subst_vars; omega)), fun m_3 h_m_3 => ?_⟩
          refine ⟨_, _, rfl, rfl, ?_⟩
          refine ⟨_, _, rfl, rfl, ?_⟩
          refine ⟨_, rfl, ?_⟩
          refine Ow.ifd (fun h21 => ?_) (fun h21 => ?_)
          · refine ⟨_, rfl, ?_⟩
            refine ⟨_, rfl, rfl, (by first | assumption | exact Ow.divw64 (by omega) (by omega) | exact Or.inl ⟨by omega, by omega⟩ | exact Or.inr ⟨by omega, by omega⟩ | exact ⟨by omega, by omega⟩ | exact ⟨by omega, by omega, by omega⟩ | omega | (subst_vars; omega)), fun B_6 h_B_6 h0_B_6 => ?_⟩
            refine ⟨_, _, rfl, rfl, ?_⟩
            refine Ow.eqd (by first | assumption | exact Ow.divw64 (by omega) (by omega) | exact Or.inl ⟨by omega, by omega⟩ | exact Or.inr ⟨by omega, by omega⟩ | exact ⟨by omega, by omega⟩ | exact ⟨by omega, by omega, by omega⟩ | omega | (subst_vars; omega)) ?_
            exact kont
          · exact ((by first | assumption | exact Ow.divw64 (by omega) (by omega) | exact Or.inl ⟨by omega, by omega⟩ | exact Or.inr ⟨by omega, by omega⟩ | exact ⟨by omega, by omega⟩ | exact ⟨by omega, by omega, by omega⟩ | omega | (subst_vars; omega)) : False).elim
      · refine ⟨_, rfl, ?_⟩
        refine iteT ?_
        exact ((by first | assumption | exact Ow.divw64 (by omega) (by omega) | exact Or.inl ⟨by omega, by omega⟩ | exact Or.inr ⟨by omega, by omega⟩ | exact ⟨by omega, by omega⟩ | exact ⟨by omega, by omega, by omega⟩ | omega | (subst_vars; omega)) : False).elim
theorem ok_law (T : Tx K mg) : FnOk P w K mg base CX0 5 T.d_law.f T.d_law.fd ["_law_script"] (sp_law K) := by
  refine T.d_law.F.ok sc_law (fun vs H Q E h => ?_) (fun cdv A outer s H vs Q E hr h => ?_)
  · obtain ⟨script, ns, rfl, _⟩ := h
    rfl
  · obtain ⟨script, ns, rfl, c0, c1, kont⟩ := h
    refine ⟨_, (pss_cons (ps_for PassesOwn.never rfl (pi_range1 (by rfl) T.z_range (pa_cons (Ow.pe_nmi (pe_callB (call_max2 rfl) (by rfl) T.z_max (by decide +kernel) (pa_cons pe_int (pa_cons (Ow.pe_nmi (pe_callB (call_min2 rfl) (by rfl) T.z_min (by decide +kernel) (pa_cons (Ow.pe_nmi (pe_callB call_len_seq (by rfl) T.z_len (by decide +kernel) (pa_cons (pv 0) pa_nil))) (pa_cons pe_int pa_nil)))) pa_nil)))) pa_nil)) (pg_name (i := 1) sc_law.nd rfl (Or.inl rfl)) (pss_cons (ps_set (i := 2) sc_law.nd rfl (Or.inl rfl) (pe_call (Ow.ok_l_box T) (hr.mono (by decide : 1 ≤ 4)) (by rfl) T.d_l_box.m T.d_l_box.F.kp T.d_l_box.b .nil pass0 (pa_cons (pe_call (Ow.ok_l_cell T) (hr.mono (by decide : 1 ≤ 4)) (by rfl) T.d_l_cell.m T.d_l_cell.F.kp T.d_l_cell.b .nil pass0 (pa_cons (pv 0) (pa_cons (pv 1) pa_nil))) pa_nil)))
        (pss_cons (ps_set (i := 3) sc_law.nd rfl (Or.inl rfl) (Ow.pe_nmi (pe_op op_add pe_int (pe_call (Ow.ok_l_take T) (hr.mono (by decide : 1 ≤ 4)) (by rfl) T.d_l_take.m T.d_l_take.F.kp T.d_l_take.b .nil pass0 (pa_cons (pv 2) (pa_cons pe_int pa_nil))))))
        (pss_cons (ps_set (i := 4) sc_law.nd rfl (Or.inl rfl) (pe_call (Ow.ok_l_bits T) (hr.mono (by decide : 2 ≤ 4)) (by rfl) T.d_l_bits.m T.d_l_bits.F.kp T.d_l_bits.b .nil pass0 (pa_cons (pv 2) (pa_cons (pv 3) pa_nil))))
        (pss_cons (ps_set (i := 5) sc_law.nd rfl (Or.inl rfl) (pe_call (Ow.ok_l_bits T) (hr.mono (by decide : 2 ≤ 4)) (by rfl) T.d_l_bits.m T.d_l_bits.F.kp T.d_l_bits.b .nil pass0 (pa_cons (pv 2) (pa_cons (pv 3) pa_nil))))
        (pss_cons (ps_set (i := 6) sc_law.nd rfl (Or.inl rfl) (pe_call (Ow.ok_l_take T) (hr.mono (by decide : 1 ≤ 4)) (by rfl) T.d_l_take.m T.d_l_take.F.kp T.d_l_take.b .nil pass0 (pa_cons (pv 2) (pa_cons (pv 3) pa_nil))))
        (pss_cons (ps_for PassesOwn.never rfl (pi_list (pe_lst (pa_cons (pe_tup (pa_cons (pv 4) (pa_cons (pv 5) pa_nil))) (pa_cons (pe_tup (pa_cons (pv 5) (pa_cons (pv 4) pa_nil))) (pa_cons (pe_tup (pa_cons (pv 4) (pa_cons (pv 4) pa_nil))) (pa_cons (pe_tup (pa_cons pe_int (pa_cons (pv 5) pa_nil))) (pa_cons (pe_tup (pa_cons (pv 4) (pa_cons (pe_op op_sub (pe_op Ow.op_shl1 pe_int (pv 3)) pe_int) pa_nil))) pa_nil))))))) (pg_tup rfl (pgs_cons (pg_name (i := 7) sc_law.nd rfl (Or.inl rfl)) (pgs_cons (pg_name (i := 8) sc_law.nd rfl (Or.inl rfl)) pgs_nil))) (pss_one (ps_if (pt_not (pt_val (pe_call (Ow.ok_l_both_right T) (hr.mono (by decide : 4 ≤ 4)) (by rfl) T.d_l_both_right.m T.d_l_both_right.F.kp T.d_l_both_right.b .nil pass0 (pa_cons (pv 3) (pa_cons (pv 7) (pa_cons (pv 8) pa_nil)))))) (pss_one (ps_ret pe_bl)) pss_nil)))
        (pss_one (ps_for PassesOwn.never rfl (pi_list (pe_lst (pa_cons (pv 4) (pa_cons (pv 5) (pa_cons (pe_op Ow.op_shl1 pe_int (pe_op op_sub (pv 3) pe_int)) pa_nil))))) (pg_name (i := 9) sc_law.nd rfl (Or.inl rfl)) (pss_one (ps_for PassesOwn.never rfl (pi_list (pe_lst (pa_cons (pv 6) (pa_cons pe_int (pa_cons (pe_op op_sub (pv 3) pe_int) pa_nil))))) (pg_name (i := 10) sc_law.nd rfl (Or.inl rfl)) (pss_one (ps_if (pt_not (pt_val (pe_call (Ow.ok_l_moved_right T) (hr.mono (by decide : 4 ≤ 4)) (by rfl) T.d_l_moved_right.m T.d_l_moved_right.F.kp T.d_l_moved_right.b .nil pass0 (pa_cons (pv 3) (pa_cons (pv 9) (pa_cons (pv 10) pa_nil)))))) (pss_one (ps_ret pe_bl)) pss_nil)))))))))))))
        (pss_one (ps_ret pe_bl))), ?_⟩
    refine ⟨_, rfl, ?_⟩
    refine ⟨_, _, rfl, .inl c0, ?_⟩
    refine ⟨_, rfl, fun len h_len => ?_⟩
    rw [List.length_map] at h_len
    refine ⟨_, _, rfl, ?_⟩
    refine ⟨_, rfl, fun m h_m => ?_⟩
    have hm_m := Ow.min_ite h_m
    refine ⟨_, _, rfl, ?_⟩
    refine ⟨_, rfl, fun m_2 h_m_2 => ?_⟩
    have hm_m_2 := Ow.max_ite h_m_2
    refine ⟨_, rfl, (by first | assumption | exact Ow.divw64 (by omega) (by omega) | exact Or.inl ⟨by omega, by omega⟩ | exact Or.inr ⟨by omega, by omega⟩ | exact ⟨by omega, by omega⟩ | exact ⟨by omega, by omega, by omega⟩ | omega | (subst_vars; omega)), (by first | assumption | exact Ow.divw64 (by omega) (by omega) | exact Or.inl ⟨by omega, by omega⟩ | exact Or.inr ⟨by omega, by omega⟩ | exact ⟨by omega, by omega⟩ | exact ⟨by omega, by omega, by omega⟩ | omega | (subst_vars; omega)), ?_⟩
    refine for_range (lo := 0) (fun i σ2 H2 => ∃ (v_1 : Option V) (v_2 : Option V) (v_3 : Option V) (v_4 : Option V) (v_5 : Option V) (v_6 : Option V) (v_7 : Option V) (v_8 : Option V) (v_9 : Option V) (v_10 : Option V), σ2 = [some (.ref script), v_1, v_2, v_3, v_4, v_5, v_6, v_7, v_8, v_9, v_10] ∧ Same _ H2) ⟨_, _, _, _, _, _, _, _, _, _, rfl, Same.refl _⟩ ?_ ?_
    · rintro i _ Hn h2 ⟨_, _, _, _, _, _, _, _, _, _, rfl, h1⟩
      refine Ow.gturn (fun l_j h_l_j => ?_)
      refine ⟨_, rfl, ?_⟩
      refine ⟨_, rfl, ?_⟩
      refine ⟨_, _, _, rfl, (Ow.seq h1 c0), (by first | assumption | exact Ow.divw64 (by omega) (by omega) | exact Or.inl ⟨by omega, by omega⟩ | exact Or.inr ⟨by omega, by omega⟩ | exact ⟨by omega, by omega⟩ | exact ⟨by omega, by omega, by omega⟩ | omega | (subst_vars; omega)), fun t => ?_⟩
      refine ⟨_, rfl, fun a m_3 p h_p => ?_⟩
      refine ⟨_, rfl, ?_⟩
      refine ⟨_, _, _, _, _, rfl, upd_same, (by first | assumption | exact Ow.divw64 (by omega) (by omega) | exact Or.inl ⟨by omega, by omega⟩ | exact Or.inr ⟨by omega, by omega⟩ | exact ⟨by omega, by omega⟩ | exact ⟨by omega, by omega, by omega⟩ | omega | (subst_vars; omega)), (by first | assumption | exact Ow.divw64 (by omega) (by omega) | exact Or.inl ⟨by omega, by omega⟩ | exact Or.inr ⟨by omega, by omega⟩ | exact ⟨by omega, by omega⟩ | exact ⟨by omega, by omega, by omega⟩ | omega | (subst_vars; omega)), fun t_2 a2 c2 h3 h4 => ?_⟩
      refine ⟨_, _, rfl, rfl, ?_⟩
      refine ⟨_, rfl, fun l_width h_l_width => ?_⟩
      refine ⟨_, rfl, ?_⟩
      refine ⟨_, rfl, ?_⟩
      refine ⟨_, _, _, _, _, rfl, upd_same, (by first | assumption | exact Ow.divw64 (by omega) (by omega) | exact Or.inl ⟨by omega, by omega⟩ | exact Or.inr ⟨by omega, by omega⟩ | exact ⟨by omega, by omega⟩ | exact ⟨by omega, by omega, by omega⟩ | omega | (subst_vars; omega)), (by first | assumption | exact Ow.divw64 (by omega) (by omega) | exact Or.inl ⟨by omega, by omega⟩ | exact Or.inr ⟨by omega, by omega⟩ | exact ⟨by omega, by omega⟩ | exact ⟨by omega, by omega, by omega⟩ | omega | (subst_vars; omega)), fun l_a a2_2 c2_2 h5 h6 Hn_2 h7 h8 => ?_⟩
      refine ⟨_, rfl, ?_⟩
      refine ⟨_, rfl, ?_⟩
      refine ⟨_, _, _, _, _, rfl, h8, (by first | assumption | exact Ow.divw64 (by omega) (by omega) | exact Or.inl ⟨by omega, by omega⟩ | exact Or.inr ⟨by omega, by omega⟩ | exact ⟨by omega, by omega⟩ | exact ⟨by omega, by omega, by omega⟩ | omega | (subst_vars; omega)), (by first | assumption | exact Ow.divw64 (by omega) (by omega) | exact Or.inl ⟨by omega, by omega⟩ | exact Or.inr ⟨by omega, by omega⟩ | exact ⟨by omega, by omega⟩ | exact ⟨by omega, by omega, by omega⟩ | omega | (subst_vars; omega)), fun l_b a2_3 c2_3 h9 h10 Hn_3 h11 h12 => ?_⟩
      refine ⟨_, rfl, ?_⟩
      refine ⟨_, rfl, ?_⟩
      refine ⟨_, _, _, _, _, rfl, h12, (by first | assumption | exact Ow.divw64 (by omega) (by omega) | exact Or.inl ⟨by omega, by omega⟩ | exact Or.inr ⟨by omega, by omega⟩ | exact ⟨by omega, by omega⟩ | exact ⟨by omega, by omega, by omega⟩ | omega | (subst_vars; omega)), (by first | assumption | exact Ow.divw64 (by omega) (by omega) | exact Or.inl ⟨by omega, by omega⟩ | exact Or.inr ⟨by omega, by omega⟩ | exact ⟨by omega, by omega⟩ | exact ⟨by omega, by omega, by omega⟩ | omega | (subst_vars; omega)), fun l_k a2_4 c2_4 h13 h14 => ?_⟩
      have e2 := Ow.pow2_pred (w := l_width) (by omega)
      have e3 := Ow.p2 (l_width - 1).toNat
      refine ⟨_, rfl, ?_⟩
      refine ⟨_, rfl, ?_⟩
      refine ⟨by show 2 ≤ sizeLine; decide, fun p_2 h_p_2 => ?_⟩
      refine ⟨_, rfl, ?_⟩
      refine ⟨_, rfl, ?_⟩
      refine ⟨by show 2 ≤ sizeLine; decide, fun p_3 h_p_3 => ?_⟩
      refine ⟨_, rfl, ?_⟩
      refine ⟨_, rfl, ?_⟩
      refine ⟨by show 2 ≤ sizeLine; decide, fun p_4 h_p_4 => ?_⟩
      refine ⟨_, rfl, ?_⟩
      refine ⟨by show 2 ≤ sizeLine; decide, fun p_5 h_p_5 => ?_⟩
      refine ⟨_, rfl, ?_⟩
      refine ⟨_, rfl, ?_⟩
      refine ⟨_, rfl, rfl, (by first | assumption | exact Ow.divw64 (by omega) (by omega) | exact Or.inl ⟨by omega, by omega⟩ | exact Or.inr ⟨by omega, by omega⟩ | exact ⟨by omega, by omega⟩ | exact ⟨by omega, by omega, by omega⟩ | omega | (subst_vars; omega)), fun B h_B h0_B => ?_⟩
      refine ⟨_, _, rfl, rfl, ?_⟩
      refine ⟨by show 2 ≤ sizeLine; decide, fun p_6 h_p_6 => ?_⟩
      refine ⟨by show 5 ≤ sizeLine; decide, fun p_7 h_p_7 => ?_⟩
      refine ⟨_, rfl, ⟨_, (SqL.of upd_same)⟩, ?_⟩
      refine for_list (K := K) (a := p_7) (xs := [.ref p_2, .ref p_3, .ref p_4, .ref p_5, .ref p_6]) (fun i σ2 H2 => ∃ (v_7 : Option V) (v_8 : Option V) (v_9 : Option V) (v_10 : Option V), σ2 = [some (.ref script), some (.int (l_j)), some (.ref p), some (.int (l_width)), some (.int (l_a)), some (.int (l_b)), some (.int (l_k)), v_7, v_8, v_9, v_10] ∧ Same _ H2) ⟨_, _, _, _, rfl, Same.refl _⟩ (fun i σ2 H2 _ ⟨_, _, _, _, _, hs⟩ => (SqL.of (hs _ _ upd_same))) ?_ ?_
      · rintro i_2 xit _ Hn_4 h16 ⟨_, _, _, _, rfl, h15⟩
        obtain ⟨x, y, p_8, rfl, h21, h17, h18, h19, h20, _⟩ : ∃ (x : Int) (y : Int) (p_8 : Addr), xit = V.ref p_8 ∧ Hn_4 p_8 = some (.tup [.int (x), .int (y)]) ∧ (0 ≤ x) ∧ (x < 2 ^ l_width.toNat) ∧ (0 ≤ y) ∧ (y < 2 ^ l_width.toNat) ∧ True := by
          have hx := List.mem_of_getElem? h16
          simp only [List.mem_cons, List.not_mem_nil, or_false] at hx
          rcases hx with rfl | rfl | rfl | rfl | rfl
          · exact ⟨_, _, _, rfl, (h15 _ _ (Ow.at_new h_p_7 (Ow.at_new h_p_6 (Ow.at_new h_p_5 (Ow.at_new h_p_4 (Ow.at_new h_p_3 upd_same)))))), (by first | assumption | exact Ow.divw64 (by omega) (by omega) | exact Or.inl ⟨by omega, by omega⟩ | exact Or.inr ⟨by omega, by omega⟩ | exact ⟨by omega, by omega⟩ | exact ⟨by omega, by omega, by omega⟩ | omega | (subst_vars; omega)), (by first | assumption | exact Ow.divw64 (by omega) (by omega) | exact Or.inl ⟨by omega, by omega⟩ | exact Or.inr ⟨by omega, by omega⟩ | exact ⟨by omega, by omega⟩ | exact ⟨by omega, by omega, by omega⟩ | omega | (subst_vars; omega)), (by first | assumption | exact Ow.divw64 (by omega) (by omega) | exact Or.inl ⟨by omega, by omega⟩ | exact Or.inr ⟨by omega, by omega⟩ | exact ⟨by omega, by omega⟩ | exact ⟨by omega, by omega, by omega⟩ | omega | (subst_vars; omega)), (by first | assumption | exact Ow.divw64 (by omega) (by omega) | exact Or.inl ⟨by omega, by omega⟩ | exact Or.inr ⟨by omega, by omega⟩ | exact ⟨by omega, by omega⟩ | exact ⟨by omega, by omega, by omega⟩ | omega | (subst_vars; omega)), trivial⟩
          · exact ⟨_, _, _, rfl, (h15 _ _ (Ow.at_new h_p_7 (Ow.at_new h_p_6 (Ow.at_new h_p_5 (Ow.at_new h_p_4 upd_same))))), (by first | assumption | exact Ow.divw64 (by omega) (by omega) | exact Or.inl ⟨by omega, by omega⟩ | exact Or.inr ⟨by omega, by omega⟩ | exact ⟨by omega, by omega⟩ | exact ⟨by omega, by omega, by omega⟩ | omega | (subst_vars; omega)), (by first | assumption | exact Ow.divw64 (by omega) (by omega) | exact Or.inl ⟨by omega, by omega⟩ | exact Or.inr ⟨by omega, by omega⟩ | exact ⟨by omega, by omega⟩ | exact ⟨by omega, by omega, by omega⟩ | omega | (subst_vars; omega)), (by first | assumption | exact Ow.divw64 (by omega) (by omega) | exact Or.inl ⟨by omega, by omega⟩ | exact Or.inr ⟨by omega, by omega⟩ | exact ⟨by omega, by omega⟩ | exact ⟨by omega, by omega, by omega⟩ | omega | (subst_vars; omega)), (by first | assumption | exact Ow.divw64 (by omega) (by omega) | exact Or.inl ⟨by omega, by omega⟩ | exact Or.inr ⟨by omega, by omega⟩ | exact ⟨by omega, by omega⟩ | exact ⟨by omega, by omega, by omega⟩ | omega | (subst_vars; omega)), trivial⟩
          · exact ⟨_, _, _, rfl, (h15 _ _ (Ow.at_new h_p_7 (Ow.at_new h_p_6 (Ow.at_new h_p_5 upd_same)))), (by first | assumption | exact Ow.divw64 (by omega) (by omega) | exact Or.inl ⟨by omega, by omega⟩ | exact Or.inr ⟨by omega, by omega⟩ | exact ⟨by omega, by omega⟩ | exact ⟨by omega, by omega, by omega⟩ | omega | (subst_vars; omega)), (by first | assumption | exact Ow.divw64 (by omega) (by omega) | exact Or.inl ⟨by omega, by omega⟩ | exact Or.inr ⟨by omega, by omega⟩ | exact ⟨by omega, by omega⟩ | exact ⟨by omega, by omega, by omega⟩ | omega | (subst_vars; omega)), (by first | assumption | exact Ow.divw64 (by omega) (by omega) | exact Or.inl ⟨by omega, by omega⟩ | exact Or.inr ⟨by omega, by omega⟩ | exact ⟨by omega, by omega⟩ | exact ⟨by omega, by omega, by omega⟩ | omega | (subst_vars; omega)), (by first | assumption | exact Ow.divw64 (by omega) (by omega) | exact Or.inl ⟨by omega, by omega⟩ | exact Or.inr ⟨by omega, by omega⟩ | exact ⟨by omega, by omega⟩ | exact ⟨by omega, by omega, by omega⟩ | omega | (subst_vars; omega)), trivial⟩
          · exact ⟨_, _, _, rfl, (h15 _ _ (Ow.at_new h_p_7 (Ow.at_new h_p_6 upd_same))), (by first | assumption | exact Ow.divw64 (by omega) (by omega) | exact Or.inl ⟨by omega, by omega⟩ | exact Or.inr ⟨by omega, by omega⟩ | exact ⟨by omega, by omega⟩ | exact ⟨by omega, by omega, by omega⟩ | omega | (subst_vars; omega)), (by first | assumption | exact Ow.divw64 (by omega) (by omega) | exact Or.inl ⟨by omega, by omega⟩ | exact Or.inr ⟨by omega, by omega⟩ | exact ⟨by omega, by omega⟩ | exact ⟨by omega, by omega, by omega⟩ | omega | (subst_vars; omega)), (by first | assumption | exact Ow.divw64 (by omega) (by omega) | exact Or.inl ⟨by omega, by omega⟩ | exact Or.inr ⟨by omega, by omega⟩ | exact ⟨by omega, by omega⟩ | exact ⟨by omega, by omega, by omega⟩ | omega | (subst_vars; omega)), (by first | assumption | exact Ow.divw64 (by omega) (by omega) | exact Or.inl ⟨by omega, by omega⟩ | exact Or.inr ⟨by omega, by omega⟩ | exact ⟨by omega, by omega⟩ | exact ⟨by omega, by omega, by omega⟩ | omega | (subst_vars; omega)), trivial⟩
          · exact ⟨_, _, _, rfl, (h15 _ _ (Ow.at_new h_p_7 upd_same)), (by first | assumption | exact Ow.divw64 (by omega) (by omega) | exact Or.inl ⟨by omega, by omega⟩ | exact Or.inr ⟨by omega, by omega⟩ | exact ⟨by omega, by omega⟩ | exact ⟨by omega, by omega, by omega⟩ | omega | (subst_vars; omega)), (by first | assumption | exact Ow.divw64 (by omega) (by omega) | exact Or.inl ⟨by omega, by omega⟩ | exact Or.inr ⟨by omega, by omega⟩ | exact ⟨by omega, by omega⟩ | exact ⟨by omega, by omega, by omega⟩ | omega | (subst_vars; omega)), (by first | assumption | exact Ow.divw64 (by omega) (by omega) | exact Or.inl ⟨by omega, by omega⟩ | exact Or.inr ⟨by omega, by omega⟩ | exact ⟨by omega, by omega⟩ | exact ⟨by omega, by omega, by omega⟩ | omega | (subst_vars; omega)), (by first | assumption | exact Ow.divw64 (by omega) (by omega) | exact Or.inl ⟨by omega, by omega⟩ | exact Or.inr ⟨by omega, by omega⟩ | exact ⟨by omega, by omega⟩ | exact ⟨by omega, by omega, by omega⟩ | omega | (subst_vars; omega)), trivial⟩
        refine ⟨_, _, rfl, (SqT.of h21), rfl, ?_⟩
        refine ⟨_, _, rfl, ?_⟩
        refine ⟨_, _, rfl, ?_⟩
        refine ⟨rfl, ?_⟩
        refine ⟨_, rfl, ?_⟩
        refine ⟨_, rfl, ?_⟩
        refine ⟨_, rfl, ?_⟩
        refine ⟨_, _, _, rfl, (by first | assumption | exact Ow.divw64 (by omega) (by omega) | exact Or.inl ⟨by omega, by omega⟩ | exact Or.inr ⟨by omega, by omega⟩ | exact ⟨by omega, by omega⟩ | exact ⟨by omega, by omega, by omega⟩ | omega | (subst_vars; omega)), (by first | assumption | exact Ow.divw64 (by omega) (by omega) | exact Or.inl ⟨by omega, by omega⟩ | exact Or.inr ⟨by omega, by omega⟩ | exact ⟨by omega, by omega⟩ | exact ⟨by omega, by omega, by omega⟩ | omega | (subst_vars; omega)), (by first | assumption | exact Ow.divw64 (by omega) (by omega) | exact Or.inl ⟨by omega, by omega⟩ | exact Or.inr ⟨by omega, by omega⟩ | exact ⟨by omega, by omega⟩ | exact ⟨by omega, by omega, by omega⟩ | omega | (subst_vars; omega)), (by first | assumption | exact Ow.divw64 (by omega) (by omega) | exact Or.inl ⟨by omega, by omega⟩ | exact Or.inr ⟨by omega, by omega⟩ | exact ⟨by omega, by omega⟩ | exact ⟨by omega, by omega, by omega⟩ | omega | (subst_vars; omega)), (by first | assumption | exact Ow.divw64 (by omega) (by omega) | exact Or.inl ⟨by omega, by omega⟩ | exact Or.inr ⟨by omega, by omega⟩ | exact ⟨by omega, by omega⟩ | exact ⟨by omega, by omega, by omega⟩ | omega | (subst_vars; omega)), (by first | assumption | exact Ow.divw64 (by omega) (by omega) | exact Or.inl ⟨by omega, by omega⟩ | exact Or.inr ⟨by omega, by omega⟩ | exact ⟨by omega, by omega⟩ | exact ⟨by omega, by omega, by omega⟩ | omega | (subst_vars; omega)), fun Hn_5 h22 => ?_⟩
        refine ⟨_, rfl, ?_⟩
        refine iteF ?_
        exact ⟨_, _, _, _, rfl, (h15.trans h22)⟩
      · rintro _ Hn_6 ⟨_, _, _, _, rfl, h23⟩
        refine ⟨_, rfl, ?_⟩
        refine ⟨_, rfl, ?_⟩
        refine ⟨_, rfl, ?_⟩
        refine ⟨_, _, rfl, rfl, ?_⟩
        refine ⟨_, rfl, rfl, (by first | assumption | exact Ow.divw64 (by omega) (by omega) | exact Or.inl ⟨by omega, by omega⟩ | exact Or.inr ⟨by omega, by omega⟩ | exact ⟨by omega, by omega⟩ | exact ⟨by omega, by omega, by omega⟩ | omega | (subst_vars; omega)), fun B_2 h_B_2 h0_B_2 => ?_⟩
        refine ⟨by show 3 ≤ sizeLine; decide, fun p_9 h_p_9 => ?_⟩
        refine ⟨_, rfl, ⟨_, (SqL.of upd_same)⟩, ?_⟩
        refine for_list (K := K) (a := p_9) (xs := [.int (l_a), .int (l_b), .int (B_2)]) (fun i σ2 H2 => ∃ (v_7 : Option V) (v_8 : Option V) (v_9 : Option V) (v_10 : Option V), σ2 = [some (.ref script), some (.int (l_j)), some (.ref p), some (.int (l_width)), some (.int (l_a)), some (.int (l_b)), some (.int (l_k)), v_7, v_8, v_9, v_10] ∧ Same _ H2) ⟨_, _, _, _, rfl, Same.refl _⟩ (fun i σ2 H2 _ ⟨_, _, _, _, _, hs⟩ => (SqL.of (hs _ _ upd_same))) ?_ ?_
        · rintro i_3 xit _ Hn_7 h25 ⟨_, _, _, _, rfl, h24⟩
          obtain ⟨x_2, rfl, h26, h27, _⟩ : ∃ (x_2 : Int), xit = V.int (x_2) ∧ (0 ≤ x_2) ∧ (x_2 < 2 ^ l_width.toNat) ∧ True := by
            have hx := List.mem_of_getElem? h25
            simp only [List.mem_cons, List.not_mem_nil, or_false] at hx
            rcases hx with rfl | rfl | rfl
            · exact ⟨_, rfl, (by first | assumption | exact Ow.divw64 (by omega) (by omega) | exact Or.inl ⟨by omega, by omega⟩ | exact Or.inr ⟨by omega, by omega⟩ | exact ⟨by omega, by omega⟩ | exact ⟨by omega, by omega, by omega⟩ | omega | (subst_vars; omega)), (by first | assumption | exact Ow.divw64 (by omega) (by omega) | exact Or.inl ⟨by omega, by omega⟩ | exact Or.inr ⟨by omega, by omega⟩ | exact ⟨by omega, by omega⟩ | exact ⟨by omega, by omega, by omega⟩ | omega | (subst_vars; omega)), trivial⟩
            · exact ⟨_, rfl, (by first | assumption | exact Ow.divw64 (by omega) (by omega) | exact Or.inl ⟨by omega, by omega⟩ | exact Or.inr ⟨by omega, by omega⟩ | exact ⟨by omega, by omega⟩ | exact ⟨by omega, by omega, by omega⟩ | omega | (subst_vars; omega)), (by first | assumption | exact Ow.divw64 (by omega) (by omega) | exact Or.inl ⟨by omega, by omega⟩ | exact Or.inr ⟨by omega, by omega⟩ | exact ⟨by omega, by omega⟩ | exact ⟨by omega, by omega, by omega⟩ | omega | (subst_vars; omega)), trivial⟩
            · exact ⟨_, rfl, (by first | assumption | exact Ow.divw64 (by omega) (by omega) | exact Or.inl ⟨by omega, by omega⟩ | exact Or.inr ⟨by omega, by omega⟩ | exact ⟨by omega, by omega⟩ | exact ⟨by omega, by omega, by omega⟩ | omega | (subst_vars; omega)), (by first | assumption | exact Ow.divw64 (by omega) (by omega) | exact Or.inl ⟨by omega, by omega⟩ | exact Or.inr ⟨by omega, by omega⟩ | exact ⟨by omega, by omega⟩ | exact ⟨by omega, by omega, by omega⟩ | omega | (subst_vars; omega)), trivial⟩
          refine ⟨_, rfl, ?_⟩
          refine ⟨_, rfl, ?_⟩
          refine ⟨_, _, rfl, rfl, ?_⟩
          refine ⟨by show 3 ≤ sizeLine; decide, fun p_10 h_p_10 => ?_⟩
          refine ⟨_, rfl, ⟨_, (SqL.of upd_same)⟩, ?_⟩
          refine for_list (K := K) (a := p_10) (xs := [.int (l_k), .int (0), .int (l_width - 1)]) (fun i σ2 H2 => ∃ (v_7 : Option V) (v_8 : Option V) (v_10 : Option V), σ2 = [some (.ref script), some (.int (l_j)), some (.ref p), some (.int (l_width)), some (.int (l_a)), some (.int (l_b)), some (.int (l_k)), v_7, v_8, some (.int (x_2)), v_10] ∧ Same _ H2) ⟨_, _, _, rfl, Same.refl _⟩ (fun i σ2 H2 _ ⟨_, _, _, _, hs⟩ => (SqL.of (hs _ _ upd_same))) ?_ ?_
          · rintro i_4 xit _ Hn_8 h29 ⟨_, _, _, rfl, h28⟩
            obtain ⟨z, rfl, h30, h31, _⟩ : ∃ (z : Int), xit = V.int (z) ∧ (0 ≤ z) ∧ (z < l_width) ∧ True := by
              have hx := List.mem_of_getElem? h29
              simp only [List.mem_cons, List.not_mem_nil, or_false] at hx
              rcases hx with rfl | rfl | rfl
              · exact ⟨_, rfl, (by first | assumption | exact Ow.divw64 (by omega) (by omega) | exact Or.inl ⟨by omega, by omega⟩ | exact Or.inr ⟨by omega, by omega⟩ | exact ⟨by omega, by omega⟩ | exact ⟨by omega, by omega, by omega⟩ | omega | (subst_vars; omega)), (by first | assumption | exact Ow.divw64 (by omega) (by omega) | exact Or.inl ⟨by omega, by omega⟩ | exact Or.inr ⟨by omega, by omega⟩ | exact ⟨by omega, by omega⟩ | exact ⟨by omega, by omega, by omega⟩ | omega | (subst_vars; omega)), trivial⟩
              · exact ⟨_, rfl, (by first | assumption | exact Ow.divw64 (by omega) (by omega) | exact Or.inl ⟨by omega, by omega⟩ | exact Or.inr ⟨by omega, by omega⟩ | exact ⟨by omega, by omega⟩ | exact ⟨by omega, by omega, by omega⟩ | omega | (subst_vars; omega)), (by first | assumption | exact Ow.divw64 (by omega) (by omega) | exact Or.inl ⟨by omega, by omega⟩ | exact Or.inr ⟨by omega, by omega⟩ | exact ⟨by omega, by omega⟩ | exact ⟨by omega, by omega, by omega⟩ | omega | (subst_vars; omega)), trivial⟩
              · exact ⟨_, rfl, (by first | assumption | exact Ow.divw64 (by omega) (by omega) | exact Or.inl ⟨by omega, by omega⟩ | exact Or.inr ⟨by omega, by omega⟩ | exact ⟨by omega, by omega⟩ | exact ⟨by omega, by omega, by omega⟩ | omega | (subst_vars; omega)), (by first | assumption | exact Ow.divw64 (by omega) (by omega) | exact Or.inl ⟨by omega, by omega⟩ | exact Or.inr ⟨by omega, by omega⟩ | exact ⟨by omega, by omega⟩ | exact ⟨by omega, by omega, by omega⟩ | omega | (subst_vars; omega)), trivial⟩
            refine ⟨_, rfl, ?_⟩
            refine ⟨_, rfl, ?_⟩
            refine ⟨_, rfl, ?_⟩
            refine ⟨_, _, _, rfl, (by first | assumption | exact Ow.divw64 (by omega) (by omega) | exact Or.inl ⟨by omega, by omega⟩ | exact Or.inr ⟨by omega, by omega⟩ | exact ⟨by omega, by omega⟩ | exact ⟨by omega, by omega, by omega⟩ | omega | (subst_vars; omega)), (by first | assumption | exact Ow.divw64 (by omega) (by omega) | exact Or.inl ⟨by omega, by omega⟩ | exact Or.inr ⟨by omega, by omega⟩ | exact ⟨by omega, by omega⟩ | exact ⟨by omega, by omega, by omega⟩ | omega | (subst_vars; omega)), (by first | assumption | exact Ow.divw64 (by omega) (by omega) | exact Or.inl ⟨by omega, by omega⟩ | exact Or.inr ⟨by omega, by omega⟩ | exact ⟨by omega, by omega⟩ | exact ⟨by omega, by omega, by omega⟩ | omega | (subst_vars; omega)), (by first | assumption | exact Ow.divw64 (by omega) (by omega) | exact Or.inl ⟨by omega, by omega⟩ | exact Or.inr ⟨by omega, by omega⟩ | exact ⟨by omega, by omega⟩ | exact ⟨by omega, by omega, by omega⟩ | omega | (subst_vars; omega)), (by first | assumption | exact Ow.divw64 (by omega) (by omega) | exact Or.inl ⟨by omega, by omega⟩ | exact Or.inr ⟨by omega, by omega⟩ | exact ⟨by omega, by omega⟩ | exact ⟨by omega, by omega, by omega⟩ | omega | (subst_vars; omega)), (by first | assumption | exact Ow.divw64 (by omega) (by omega) | exact Or.inl ⟨by omega, by omega⟩ | exact Or.inr ⟨by omega, by omega⟩ | exact ⟨by omega, by omega⟩ | exact ⟨by omega, by omega, by omega⟩ | omega | (subst_vars; omega)), ?_⟩
            refine ⟨_, rfl, ?_⟩
            refine iteF ?_
            exact ⟨_, _, _, rfl, h28⟩
          · rintro _ Hn_9 ⟨_, _, _, rfl, h32⟩
            exact ⟨_, _, _, _, rfl, ((h24.trans (Ow.same_new h_p_10)).trans h32)⟩
        · rintro _ Hn_10 ⟨_, _, _, _, rfl, h33⟩
          exact ⟨_, _, _, _, _, _, _, _, _, _, rfl, ((((((((((Ow.same_mut (Ow.same_frame (Ow.same_frame (Ow.same_mut (h1.trans (Ow.same_new h_p)) (Same.free h1 h_p)) h7 (Same.free h1 h_p)) h11 (Same.free h1 h_p)) (Same.free h1 h_p)).trans (Ow.same_new h_p_2)).trans (Ow.same_new h_p_3)).trans (Ow.same_new h_p_4)).trans (Ow.same_new h_p_5)).trans (Ow.same_new h_p_6)).trans (Ow.same_new h_p_7)).trans h23).trans (Ow.same_new h_p_9)).trans h33)⟩
    · rintro _ Hn_11 ⟨_, _, _, _, _, _, _, _, _, _, rfl, h34⟩
      exact kont _ h34
end
def tx_mk {K : PySem.W.Frag} {h : Heap} {mg : Str → Option Value} (X : K.In h) (G : h.Ns mainGlobals mg) {f_l_box : Addr} {od_l_box an_l_box : Option Addr} {oc_l_box kV_l_box dc_l_box pm_l_box cd_l_box ct_l_box : Value} {sl_l_box : Array (Option Value)} {f_l_take : Addr} {od_l_take an_l_take : Option Addr} {oc_l_take kV_l_take dc_l_take pm_l_take cd_l_take ct_l_take : Value} {sl_l_take : Array (Option Value)} {f_l_bits : Addr} {od_l_bits an_l_bits : Option Addr} {oc_l_bits kV_l_bits dc_l_bits pm_l_bits cd_l_bits ct_l_bits : Value} {sl_l_bits : Array (Option Value)} {f_l_cell : Addr} {od_l_cell an_l_cell : Option Addr} {oc_l_cell kV_l_cell dc_l_cell pm_l_cell cd_l_cell ct_l_cell : Value} {sl_l_cell : Array (Option Value)} {f_is_whole : Addr} {od_is_whole an_is_whole : Option Addr} {oc_is_whole kV_is_whole dc_is_whole pm_is_whole cd_is_whole ct_is_whole : Value} {sl_is_whole : Array (Option Value)} {f_need_width : Addr} {od_need_width an_need_width : Option Addr} {oc_need_width kV_need_width dc_need_width pm_need_width cd_need_width ct_need_width : Value} {sl_need_width : Array (Option Value)} {f_cut : Addr} {od_cut an_cut : Option Addr} {oc_cut kV_cut dc_cut pm_cut cd_cut ct_cut : Value} {sl_cut : Array (Option Value)} {f_sum_of : Addr} {od_sum_of an_sum_of : Option Addr} {oc_sum_of kV_sum_of dc_sum_of pm_sum_of cd_sum_of ct_sum_of : Value} {sl_sum_of : Array (Option Value)} {f_gap_of : Addr} {od_gap_of an_gap_of : Option Addr} {oc_gap_of kV_gap_of dc_gap_of pm_gap_of cd_gap_of ct_gap_of : Value} {sl_gap_of : Array (Option Value)} {f_low_product : Addr} {od_low_product an_low_product : Option Addr} {oc_low_product kV_low_product dc_low_product pm_low_product cd_low_product ct_low_product : Value} {sl_low_product : Array (Option Value)} {f_high_product : Addr} {od_high_product an_high_product : Option Addr} {oc_high_product kV_high_product dc_high_product pm_high_product cd_high_product ct_high_product : Value} {sl_high_product : Array (Option Value)} {f_l_word : Addr} {od_l_word an_l_word : Option Addr} {oc_l_word kV_l_word dc_l_word pm_l_word cd_l_word ct_l_word : Value} {sl_l_word : Array (Option Value)} {f_l_two : Addr} {od_l_two an_l_two : Option Addr} {oc_l_two kV_l_two dc_l_two pm_l_two cd_l_two ct_l_two : Value} {sl_l_two : Array (Option Value)} {f_l_both_right : Addr} {od_l_both_right an_l_both_right : Option Addr} {oc_l_both_right kV_l_both_right dc_l_both_right pm_l_both_right cd_l_both_right ct_l_both_right : Value} {sl_l_both_right : Array (Option Value)} {f_left : Addr} {od_left an_left : Option Addr} {oc_left kV_left dc_left pm_left cd_left ct_left : Value} {sl_left : Array (Option Value)} {f_right : Addr} {od_right an_right : Option Addr} {oc_right kV_right dc_right pm_right cd_right ct_right : Value} {sl_right : Array (Option Value)} {f_slide : Addr} {od_slide an_slide : Option Addr} {oc_slide kV_slide dc_slide pm_slide cd_slide ct_slide : Value} {sl_slide : Array (Option Value)} {f_l_count : Addr} {od_l_count an_l_count : Option Addr} {oc_l_count kV_l_count dc_l_count pm_l_count cd_l_count ct_l_count : Value} {sl_l_count : Array (Option Value)} {f_l_moved_right : Addr} {od_l_moved_right an_l_moved_right : Option Addr} {oc_l_moved_right kV_l_moved_right dc_l_moved_right pm_l_moved_right cd_l_moved_right ct_l_moved_right : Value} {sl_l_moved_right : Array (Option Value)} {f_law : Addr} {od_law an_law : Option Addr} {oc_law kV_law dc_law pm_law cd_law ct_law : Value} {sl_law : Array (Option Value)} {tk_LEAST_WIDTH : Tok} {tk_GREATEST_WIDTH : Tok}
    (a_l_box : PySem.W.nsIn K mainGlobals "_law_box" = some (some (.ref f_l_box)))
    (l_l_box : K.lookup f_l_box = some ⟨oc_l_box, od_l_box, .func (PySem.W.fnOf "_law_box" "_law_box" (defArgs s_l_box) (defBody s_l_box) (defScope s_l_box) .none kV_l_box dc_l_box pm_l_box an_l_box cd_l_box ct_l_box), sl_l_box⟩)
    (c_l_box : PySem.W.codeIn K cd_l_box "_law_box" = true) (k_l_box : PySem.W.keepIn K (.ref f_l_box) = true)
    (a_l_take : PySem.W.nsIn K mainGlobals "_law_take" = some (some (.ref f_l_take)))
    (l_l_take : K.lookup f_l_take = some ⟨oc_l_take, od_l_take, .func (PySem.W.fnOf "_law_take" "_law_take" (defArgs s_l_take) (defBody s_l_take) (defScope s_l_take) .none kV_l_take dc_l_take pm_l_take an_l_take cd_l_take ct_l_take), sl_l_take⟩)
    (c_l_take : PySem.W.codeIn K cd_l_take "_law_take" = true) (k_l_take : PySem.W.keepIn K (.ref f_l_take) = true)
    (a_l_bits : PySem.W.nsIn K mainGlobals "_law_bits" = some (some (.ref f_l_bits)))
    (l_l_bits : K.lookup f_l_bits = some ⟨oc_l_bits, od_l_bits, .func (PySem.W.fnOf "_law_bits" "_law_bits" (defArgs s_l_bits) (defBody s_l_bits) (defScope s_l_bits) .none kV_l_bits dc_l_bits pm_l_bits an_l_bits cd_l_bits ct_l_bits), sl_l_bits⟩)
    (c_l_bits : PySem.W.codeIn K cd_l_bits "_law_bits" = true) (k_l_bits : PySem.W.keepIn K (.ref f_l_bits) = true)
    (a_l_cell : PySem.W.nsIn K mainGlobals "_law_cell" = some (some (.ref f_l_cell)))
    (l_l_cell : K.lookup f_l_cell = some ⟨oc_l_cell, od_l_cell, .func (PySem.W.fnOf "_law_cell" "_law_cell" (defArgs s_l_cell) (defBody s_l_cell) (defScope s_l_cell) .none kV_l_cell dc_l_cell pm_l_cell an_l_cell cd_l_cell ct_l_cell), sl_l_cell⟩)
    (c_l_cell : PySem.W.codeIn K cd_l_cell "_law_cell" = true) (k_l_cell : PySem.W.keepIn K (.ref f_l_cell) = true)
    (a_is_whole : PySem.W.nsIn K mainGlobals "is_whole" = some (some (.ref f_is_whole)))
    (l_is_whole : K.lookup f_is_whole = some ⟨oc_is_whole, od_is_whole, .func (PySem.W.fnOf "is_whole" "is_whole" (defArgs s_is_whole) (defBody s_is_whole) (defScope s_is_whole) .none kV_is_whole dc_is_whole pm_is_whole an_is_whole cd_is_whole ct_is_whole), sl_is_whole⟩)
    (c_is_whole : PySem.W.codeIn K cd_is_whole "is_whole" = true) (k_is_whole : PySem.W.keepIn K (.ref f_is_whole) = true)
    (a_need_width : PySem.W.nsIn K mainGlobals "need_width" = some (some (.ref f_need_width)))
    (l_need_width : K.lookup f_need_width = some ⟨oc_need_width, od_need_width, .func (PySem.W.fnOf "need_width" "need_width" (defArgs s_need_width) (defBody s_need_width) (defScope s_need_width) .none kV_need_width dc_need_width pm_need_width an_need_width cd_need_width ct_need_width), sl_need_width⟩)
    (c_need_width : PySem.W.codeIn K cd_need_width "need_width" = true) (k_need_width : PySem.W.keepIn K (.ref f_need_width) = true)
    (a_cut : PySem.W.nsIn K mainGlobals "cut" = some (some (.ref f_cut)))
    (l_cut : K.lookup f_cut = some ⟨oc_cut, od_cut, .func (PySem.W.fnOf "cut" "cut" (defArgs s_cut) (defBody s_cut) (defScope s_cut) .none kV_cut dc_cut pm_cut an_cut cd_cut ct_cut), sl_cut⟩)
    (c_cut : PySem.W.codeIn K cd_cut "cut" = true) (k_cut : PySem.W.keepIn K (.ref f_cut) = true)
    (a_sum_of : PySem.W.nsIn K mainGlobals "sum_of" = some (some (.ref f_sum_of)))
    (l_sum_of : K.lookup f_sum_of = some ⟨oc_sum_of, od_sum_of, .func (PySem.W.fnOf "sum_of" "sum_of" (defArgs s_sum_of) (defBody s_sum_of) (defScope s_sum_of) .none kV_sum_of dc_sum_of pm_sum_of an_sum_of cd_sum_of ct_sum_of), sl_sum_of⟩)
    (c_sum_of : PySem.W.codeIn K cd_sum_of "sum_of" = true) (k_sum_of : PySem.W.keepIn K (.ref f_sum_of) = true)
    (a_gap_of : PySem.W.nsIn K mainGlobals "gap_of" = some (some (.ref f_gap_of)))
    (l_gap_of : K.lookup f_gap_of = some ⟨oc_gap_of, od_gap_of, .func (PySem.W.fnOf "gap_of" "gap_of" (defArgs s_gap_of) (defBody s_gap_of) (defScope s_gap_of) .none kV_gap_of dc_gap_of pm_gap_of an_gap_of cd_gap_of ct_gap_of), sl_gap_of⟩)
    (c_gap_of : PySem.W.codeIn K cd_gap_of "gap_of" = true) (k_gap_of : PySem.W.keepIn K (.ref f_gap_of) = true)
    (a_low_product : PySem.W.nsIn K mainGlobals "low_product" = some (some (.ref f_low_product)))
    (l_low_product : K.lookup f_low_product = some ⟨oc_low_product, od_low_product, .func (PySem.W.fnOf "low_product" "low_product" (defArgs s_low_product) (defBody s_low_product) (defScope s_low_product) .none kV_low_product dc_low_product pm_low_product an_low_product cd_low_product ct_low_product), sl_low_product⟩)
    (c_low_product : PySem.W.codeIn K cd_low_product "low_product" = true) (k_low_product : PySem.W.keepIn K (.ref f_low_product) = true)
    (a_high_product : PySem.W.nsIn K mainGlobals "high_product" = some (some (.ref f_high_product)))
    (l_high_product : K.lookup f_high_product = some ⟨oc_high_product, od_high_product, .func (PySem.W.fnOf "high_product" "high_product" (defArgs s_high_product) (defBody s_high_product) (defScope s_high_product) .none kV_high_product dc_high_product pm_high_product an_high_product cd_high_product ct_high_product), sl_high_product⟩)
    (c_high_product : PySem.W.codeIn K cd_high_product "high_product" = true) (k_high_product : PySem.W.keepIn K (.ref f_high_product) = true)
    (a_l_word : PySem.W.nsIn K mainGlobals "_law_word" = some (some (.ref f_l_word)))
    (l_l_word : K.lookup f_l_word = some ⟨oc_l_word, od_l_word, .func (PySem.W.fnOf "_law_word" "_law_word" (defArgs s_l_word) (defBody s_l_word) (defScope s_l_word) .none kV_l_word dc_l_word pm_l_word an_l_word cd_l_word ct_l_word), sl_l_word⟩)
    (c_l_word : PySem.W.codeIn K cd_l_word "_law_word" = true) (k_l_word : PySem.W.keepIn K (.ref f_l_word) = true)
    (a_l_two : PySem.W.nsIn K mainGlobals "_law_two" = some (some (.ref f_l_two)))
    (l_l_two : K.lookup f_l_two = some ⟨oc_l_two, od_l_two, .func (PySem.W.fnOf "_law_two" "_law_two" (defArgs s_l_two) (defBody s_l_two) (defScope s_l_two) .none kV_l_two dc_l_two pm_l_two an_l_two cd_l_two ct_l_two), sl_l_two⟩)
    (c_l_two : PySem.W.codeIn K cd_l_two "_law_two" = true) (k_l_two : PySem.W.keepIn K (.ref f_l_two) = true)
    (a_l_both_right : PySem.W.nsIn K mainGlobals "_law_both_right" = some (some (.ref f_l_both_right)))
    (l_l_both_right : K.lookup f_l_both_right = some ⟨oc_l_both_right, od_l_both_right, .func (PySem.W.fnOf "_law_both_right" "_law_both_right" (defArgs s_l_both_right) (defBody s_l_both_right) (defScope s_l_both_right) .none kV_l_both_right dc_l_both_right pm_l_both_right an_l_both_right cd_l_both_right ct_l_both_right), sl_l_both_right⟩)
    (c_l_both_right : PySem.W.codeIn K cd_l_both_right "_law_both_right" = true) (k_l_both_right : PySem.W.keepIn K (.ref f_l_both_right) = true)
    (a_left : PySem.W.nsIn K mainGlobals "left" = some (some (.ref f_left)))
    (l_left : K.lookup f_left = some ⟨oc_left, od_left, .func (PySem.W.fnOf "left" "left" (defArgs s_left) (defBody s_left) (defScope s_left) .none kV_left dc_left pm_left an_left cd_left ct_left), sl_left⟩)
    (c_left : PySem.W.codeIn K cd_left "left" = true) (k_left : PySem.W.keepIn K (.ref f_left) = true)
    (a_right : PySem.W.nsIn K mainGlobals "right" = some (some (.ref f_right)))
    (l_right : K.lookup f_right = some ⟨oc_right, od_right, .func (PySem.W.fnOf "right" "right" (defArgs s_right) (defBody s_right) (defScope s_right) .none kV_right dc_right pm_right an_right cd_right ct_right), sl_right⟩)
    (c_right : PySem.W.codeIn K cd_right "right" = true) (k_right : PySem.W.keepIn K (.ref f_right) = true)
    (a_slide : PySem.W.nsIn K mainGlobals "slide" = some (some (.ref f_slide)))
    (l_slide : K.lookup f_slide = some ⟨oc_slide, od_slide, .func (PySem.W.fnOf "slide" "slide" (defArgs s_slide) (defBody s_slide) (defScope s_slide) .none kV_slide dc_slide pm_slide an_slide cd_slide ct_slide), sl_slide⟩)
    (c_slide : PySem.W.codeIn K cd_slide "slide" = true) (k_slide : PySem.W.keepIn K (.ref f_slide) = true)
    (a_l_count : PySem.W.nsIn K mainGlobals "_law_count" = some (some (.ref f_l_count)))
    (l_l_count : K.lookup f_l_count = some ⟨oc_l_count, od_l_count, .func (PySem.W.fnOf "_law_count" "_law_count" (defArgs s_l_count) (defBody s_l_count) (defScope s_l_count) .none kV_l_count dc_l_count pm_l_count an_l_count cd_l_count ct_l_count), sl_l_count⟩)
    (c_l_count : PySem.W.codeIn K cd_l_count "_law_count" = true) (k_l_count : PySem.W.keepIn K (.ref f_l_count) = true)
    (a_l_moved_right : PySem.W.nsIn K mainGlobals "_law_moved_right" = some (some (.ref f_l_moved_right)))
    (l_l_moved_right : K.lookup f_l_moved_right = some ⟨oc_l_moved_right, od_l_moved_right, .func (PySem.W.fnOf "_law_moved_right" "_law_moved_right" (defArgs s_l_moved_right) (defBody s_l_moved_right) (defScope s_l_moved_right) .none kV_l_moved_right dc_l_moved_right pm_l_moved_right an_l_moved_right cd_l_moved_right ct_l_moved_right), sl_l_moved_right⟩)
    (c_l_moved_right : PySem.W.codeIn K cd_l_moved_right "_law_moved_right" = true) (k_l_moved_right : PySem.W.keepIn K (.ref f_l_moved_right) = true)
    (a_law : PySem.W.nsIn K mainGlobals "law" = some (some (.ref f_law)))
    (l_law : K.lookup f_law = some ⟨oc_law, od_law, .func (PySem.W.fnOf "law" "law" (defArgs s_law) (defBody s_law) (defScope s_law) .none kV_law dc_law pm_law an_law cd_law ct_law), sl_law⟩)
    (c_law : PySem.W.codeIn K cd_law "law" = true) (k_law : PySem.W.keepIn K (.ref f_law) = true)
    (a_LEAST_WIDTH : PySem.W.nsIn K mainGlobals "LEAST_WIDTH" = some (some (.int 4 tk_LEAST_WIDTH)))
    (a_GREATEST_WIDTH : PySem.W.nsIn K mainGlobals "GREATEST_WIDTH" = some (some (.int 32 tk_GREATEST_WIDTH)))
    (z_max : PySem.W.nsIn K mainGlobals "max" = some none)
    (z_len : PySem.W.nsIn K mainGlobals "len" = some none)
    (z_isinstance : PySem.W.nsIn K mainGlobals "isinstance" = some none)
    (z_bool : PySem.W.nsIn K mainGlobals "bool" = some none)
    (z_int : PySem.W.nsIn K mainGlobals "int" = some none)
    (z_tuple : PySem.W.nsIn K mainGlobals "tuple" = some none)
    (z_range : PySem.W.nsIn K mainGlobals "range" = some none)
    (z_min : PySem.W.nsIn K mainGlobals "min" = some none) : Tx K mg where
  d_l_box := ⟨f_l_box, _, fun_mk (st := s_l_box) l_l_box c_l_box k_l_box, (fun_mk (st := s_l_box) l_l_box c_l_box k_l_box).binds fun _ _ _ _ _ _ us hl => match us, hl with | [_], _ => rfl, PySem.W.mg_of X G a_l_box⟩
  d_l_take := ⟨f_l_take, _, fun_mk (st := s_l_take) l_l_take c_l_take k_l_take, (fun_mk (st := s_l_take) l_l_take c_l_take k_l_take).binds fun _ _ _ _ _ _ us hl => match us, hl with | [_, _], _ => rfl, PySem.W.mg_of X G a_l_take⟩
  d_l_bits := ⟨f_l_bits, _, fun_mk (st := s_l_bits) l_l_bits c_l_bits k_l_bits, (fun_mk (st := s_l_bits) l_l_bits c_l_bits k_l_bits).binds fun _ _ _ _ _ _ us hl => match us, hl with | [_, _], _ => rfl, PySem.W.mg_of X G a_l_bits⟩
  d_l_cell := ⟨f_l_cell, _, fun_mk (st := s_l_cell) l_l_cell c_l_cell k_l_cell, (fun_mk (st := s_l_cell) l_l_cell c_l_cell k_l_cell).binds fun _ _ _ _ _ _ us hl => match us, hl with | [_, _], _ => rfl, PySem.W.mg_of X G a_l_cell⟩
  d_is_whole := ⟨f_is_whole, _, fun_mk (st := s_is_whole) l_is_whole c_is_whole k_is_whole, (fun_mk (st := s_is_whole) l_is_whole c_is_whole k_is_whole).binds fun _ _ _ _ _ _ us hl => match us, hl with | [_], _ => rfl, PySem.W.mg_of X G a_is_whole⟩
  d_need_width := ⟨f_need_width, _, fun_mk (st := s_need_width) l_need_width c_need_width k_need_width, (fun_mk (st := s_need_width) l_need_width c_need_width k_need_width).binds fun _ _ _ _ _ _ us hl => match us, hl with | [_], _ => rfl, PySem.W.mg_of X G a_need_width⟩
  d_cut := ⟨f_cut, _, fun_mk (st := s_cut) l_cut c_cut k_cut, (fun_mk (st := s_cut) l_cut c_cut k_cut).binds fun _ _ _ _ _ _ us hl => match us, hl with | [_, _], _ => rfl, PySem.W.mg_of X G a_cut⟩
  d_sum_of := ⟨f_sum_of, _, fun_mk (st := s_sum_of) l_sum_of c_sum_of k_sum_of, (fun_mk (st := s_sum_of) l_sum_of c_sum_of k_sum_of).binds fun _ _ _ _ _ _ us hl => match us, hl with | [_, _, _], _ => rfl, PySem.W.mg_of X G a_sum_of⟩
  d_gap_of := ⟨f_gap_of, _, fun_mk (st := s_gap_of) l_gap_of c_gap_of k_gap_of, (fun_mk (st := s_gap_of) l_gap_of c_gap_of k_gap_of).binds fun _ _ _ _ _ _ us hl => match us, hl with | [_, _, _], _ => rfl, PySem.W.mg_of X G a_gap_of⟩
  d_low_product := ⟨f_low_product, _, fun_mk (st := s_low_product) l_low_product c_low_product k_low_product, (fun_mk (st := s_low_product) l_low_product c_low_product k_low_product).binds fun _ _ _ _ _ _ us hl => match us, hl with | [_, _, _], _ => rfl, PySem.W.mg_of X G a_low_product⟩
  d_high_product := ⟨f_high_product, _, fun_mk (st := s_high_product) l_high_product c_high_product k_high_product, (fun_mk (st := s_high_product) l_high_product c_high_product k_high_product).binds fun _ _ _ _ _ _ us hl => match us, hl with | [_, _, _], _ => rfl, PySem.W.mg_of X G a_high_product⟩
  d_l_word := ⟨f_l_word, _, fun_mk (st := s_l_word) l_l_word c_l_word k_l_word, (fun_mk (st := s_l_word) l_l_word c_l_word k_l_word).binds fun _ _ _ _ _ _ us hl => match us, hl with | [_, _], _ => rfl, PySem.W.mg_of X G a_l_word⟩
  d_l_two := ⟨f_l_two, _, fun_mk (st := s_l_two) l_l_two c_l_two k_l_two, (fun_mk (st := s_l_two) l_l_two c_l_two k_l_two).binds fun _ _ _ _ _ _ us hl => match us, hl with | [_, _], _ => rfl, PySem.W.mg_of X G a_l_two⟩
  d_l_both_right := ⟨f_l_both_right, _, fun_mk (st := s_l_both_right) l_l_both_right c_l_both_right k_l_both_right, (fun_mk (st := s_l_both_right) l_l_both_right c_l_both_right k_l_both_right).binds fun _ _ _ _ _ _ us hl => match us, hl with | [_, _, _], _ => rfl, PySem.W.mg_of X G a_l_both_right⟩
  d_left := ⟨f_left, _, fun_mk (st := s_left) l_left c_left k_left, (fun_mk (st := s_left) l_left c_left k_left).binds fun _ _ _ _ _ _ us hl => match us, hl with | [_, _, _], _ => rfl, PySem.W.mg_of X G a_left⟩
  d_right := ⟨f_right, _, fun_mk (st := s_right) l_right c_right k_right, (fun_mk (st := s_right) l_right c_right k_right).binds fun _ _ _ _ _ _ us hl => match us, hl with | [_, _, _], _ => rfl, PySem.W.mg_of X G a_right⟩
  d_slide := ⟨f_slide, _, fun_mk (st := s_slide) l_slide c_slide k_slide, (fun_mk (st := s_slide) l_slide c_slide k_slide).binds fun _ _ _ _ _ _ us hl => match us, hl with | [_, _, _], _ => rfl, PySem.W.mg_of X G a_slide⟩
  d_l_count := ⟨f_l_count, _, fun_mk (st := s_l_count) l_l_count c_l_count k_l_count, (fun_mk (st := s_l_count) l_l_count c_l_count k_l_count).binds fun _ _ _ _ _ _ us hl => match us, hl with | [_, _], _ => rfl, PySem.W.mg_of X G a_l_count⟩
  d_l_moved_right := ⟨f_l_moved_right, _, fun_mk (st := s_l_moved_right) l_l_moved_right c_l_moved_right k_l_moved_right, (fun_mk (st := s_l_moved_right) l_l_moved_right c_l_moved_right k_l_moved_right).binds fun _ _ _ _ _ _ us hl => match us, hl with | [_, _, _], _ => rfl, PySem.W.mg_of X G a_l_moved_right⟩
  d_law := ⟨f_law, _, fun_mk (st := s_law) l_law c_law k_law, (fun_mk (st := s_law) l_law c_law k_law).binds fun _ _ _ _ _ _ us hl => match us, hl with | [_], _ => rfl, PySem.W.mg_of X G a_law⟩
  g_LEAST_WIDTH := ⟨_, PySem.W.mg_of X G a_LEAST_WIDTH⟩
  g_GREATEST_WIDTH := ⟨_, PySem.W.mg_of X G a_GREATEST_WIDTH⟩
  z_max := PySem.W.mg_none_of X G z_max
  z_len := PySem.W.mg_none_of X G z_len
  z_isinstance := PySem.W.mg_none_of X G z_isinstance
  z_bool := PySem.W.mg_none_of X G z_bool
  z_int := PySem.W.mg_none_of X G z_int
  z_tuple := PySem.W.mg_none_of X G z_tuple
  z_range := PySem.W.mg_none_of X G z_range
  z_min := PySem.W.mg_none_of X G z_min
theorem all_mk {l : PySem.W.OpenLaw} {w : World} {K : PySem.W.Frag} {h : Heap} {mg : Str → Option Value} {fa : Addr} (hfa : mg "law" = some (.ref fa)) (T : Tx K mg) :
    ∃ fd : FuncData, (∀ (s : Shared) (v : Value), BindsTo s fd ⟨[v], []⟩ [("_law_script", v)]) ∧ ∀ base : Heap, K.In base → base.Ns mainGlobals mg → FnOk l.prog w K mg base CX0 5 fa fd ["_law_script"] (sp_law K) := by
  have e := hfa.symm.trans T.d_law.m
  cases e
  refine ⟨T.d_law.fd, fun s v => ?_, fun base _ _ => ok_law T⟩
  obtain ⟨oc, od, kV, doc, pm, an, cdv, ct, osl, e, _, _⟩ := T.d_law.F.ex
  rw [e]
  exact .of_eq rfl
theorem walk {l : PySem.W.OpenLaw} {q : Program} {loose : List Str} {XP : (Str → Option Value) → Heap → Prop} {YP : World → Heap → Prop} {d : DefRec} {K : Params → PySem.W.Frag} (hn : l.most = some 63) (hdf : d.params.defaults = [])
    (hY : ∀ (w : World) (h : Heap), YP w h → (K w.params).In h)
    (F : ∀ (w : World) (mg : Str → Option Value) (fa : Addr) (h : Heap), (K w.params).In h → h.Ns mainGlobals mg → mg d.name = some (.ref fa) →
      ∃ fd : FuncData, (∀ (s : Shared) (u : Value), BindsTo s fd ⟨[u], []⟩ [("_law_script", u)]) ∧ ∀ base : Heap, (K w.params).In base → base.Ns mainGlobals mg → FnOk l.prog w (K w.params) mg base CX0 5 fa fd ["_law_script"] (sp_law (K w.params))) :
    PySem.W.WalkO q loose XP YP l.row.toRowW d [] (fun f vs => PySem.call f vs) :=
  L2.walk_of (n := 63) (k := 5) (x := "_law_script") (CX := fun _ => CX0) (sp := fun w => sp_law (K w.params)) hn (by decide) hdf ⟨rfl, by decide, by decide⟩ hY F (fun _ _ a ns hl _ hS => ⟨a, ns, rfl, hS, hl, fun _ _ => rfl⟩) fun _ _ _ _ _ z => z
end Ow
open PySem PySem.W PyProof.Rows
set_option maxRecDepth 100000 in
set_option maxHeartbeats 0 in
theorem PySem.Challenge.cw_overwise_k04_halves_and_carries_holds : PySem.Challenge.rw_overwise_k04_halves_and_carries.Holds := by
  w_on; o_law; k_head; (case hw => w_witness2)
  k_fill
  refine _root_.Ow.walk (l := PySem.Challenge.rw_overwise_k04_halves_and_carries) rfl rfl (fun w h Y => PySem.W.kIn_of Y) ?F
  case F =>
    intro w mg fa h KX G hmg
    refine' _root_.Ow.all_mk (h := h) hmg (_root_.Ow.tx_mk KX G ?a_l_box ?l_l_box ?c_l_box ?k_l_box ?a_l_take ?l_l_take ?c_l_take ?k_l_take ?a_l_bits ?l_l_bits ?c_l_bits ?k_l_bits ?a_l_cell ?l_l_cell ?c_l_cell ?k_l_cell ?a_is_whole ?l_is_whole ?c_is_whole ?k_is_whole ?a_need_width ?l_need_width ?c_need_width ?k_need_width ?a_cut ?l_cut ?c_cut ?k_cut ?a_sum_of ?l_sum_of ?c_sum_of ?k_sum_of ?a_gap_of ?l_gap_of ?c_gap_of ?k_gap_of ?a_low_product ?l_low_product ?c_low_product ?k_low_product ?a_high_product ?l_high_product ?c_high_product ?k_high_product ?a_l_word ?l_l_word ?c_l_word ?k_l_word ?a_l_two ?l_l_two ?c_l_two ?k_l_two ?a_l_both_right ?l_l_both_right ?c_l_both_right ?k_l_both_right ?a_left ?l_left ?c_left ?k_left ?a_right ?l_right ?c_right ?k_right ?a_slide ?l_slide ?c_slide ?k_slide ?a_l_count ?l_l_count ?c_l_count ?k_l_count ?a_l_moved_right ?l_l_moved_right ?c_l_moved_right ?k_l_moved_right ?a_law ?l_law ?c_law ?k_law ?a_LEAST_WIDTH ?a_GREATEST_WIDTH ?z_max ?z_len ?z_isinstance ?z_bool ?z_int ?z_tuple ?z_range ?z_min)
    (case a_l_box => k_is)
    (case l_l_box => k_is)
    (case c_l_box => k_is)
    (case k_l_box => k_is)
    (case a_l_take => k_is)
    (case l_l_take => k_is)
    (case c_l_take => k_is)
    (case k_l_take => k_is)
    (case a_l_bits => k_is)
    (case l_l_bits => k_is)
    (case c_l_bits => k_is)
    (case k_l_bits => k_is)
    (case a_l_cell => k_is)
    (case l_l_cell => k_is)
    (case c_l_cell => k_is)
    (case k_l_cell => k_is)
    (case a_is_whole => k_is)
    (case l_is_whole => k_is)
    (case c_is_whole => k_is)
    (case k_is_whole => k_is)
    (case a_need_width => k_is)
    (case l_need_width => k_is)
    (case c_need_width => k_is)
    (case k_need_width => k_is)
    (case a_cut => k_is)
    (case l_cut => k_is)
    (case c_cut => k_is)
    (case k_cut => k_is)
    (case a_sum_of => k_is)
    (case l_sum_of => k_is)
    (case c_sum_of => k_is)
    (case k_sum_of => k_is)
    (case a_gap_of => k_is)
    (case l_gap_of => k_is)
    (case c_gap_of => k_is)
    (case k_gap_of => k_is)
    (case a_low_product => k_is)
    (case l_low_product => k_is)
    (case c_low_product => k_is)
    (case k_low_product => k_is)
    (case a_high_product => k_is)
    (case l_high_product => k_is)
    (case c_high_product => k_is)
    (case k_high_product => k_is)
    (case a_l_word => k_is)
    (case l_l_word => k_is)
    (case c_l_word => k_is)
    (case k_l_word => k_is)
    (case a_l_two => k_is)
    (case l_l_two => k_is)
    (case c_l_two => k_is)
    (case k_l_two => k_is)
    (case a_l_both_right => k_is)
    (case l_l_both_right => k_is)
    (case c_l_both_right => k_is)
    (case k_l_both_right => k_is)
    (case a_left => k_is)
    (case l_left => k_is)
    (case c_left => k_is)
    (case k_left => k_is)
    (case a_right => k_is)
    (case l_right => k_is)
    (case c_right => k_is)
    (case k_right => k_is)
    (case a_slide => k_is)
    (case l_slide => k_is)
    (case c_slide => k_is)
    (case k_slide => k_is)
    (case a_l_count => k_is)
    (case l_l_count => k_is)
    (case c_l_count => k_is)
    (case k_l_count => k_is)
    (case a_l_moved_right => k_is)
    (case l_l_moved_right => k_is)
    (case c_l_moved_right => k_is)
    (case k_l_moved_right => k_is)
    (case a_law => k_is)
    (case l_law => k_is)
    (case c_law => k_is)
    (case k_law => k_is)
    (case a_LEAST_WIDTH => k_is)
    (case a_GREATEST_WIDTH => k_is)
    (case z_max => k_is)
    (case z_len => k_is)
    (case z_isinstance => k_is)
    (case z_bool => k_is)
    (case z_int => k_is)
    (case z_tuple => k_is)
    (case z_range => k_is)
    (case z_min => k_is)
