import PyProof.Rows.All
import Wide.All
import OpenK.AllK
import Wide.FinOn
import Lean
import PySem.Challenge.RW_pb0415_01
open PySem PySem.W PyProof.Rows PySem.Calls
set_option Elab.async false
set_option maxRecDepth 100000
set_option maxHeartbeats 8000000
set_option genSizeOf false
set_option genInjectivity false
namespace Mine
/-- the text's statements but those that set `__name__` -/
noncomputable def cutOf (l : List Stmt) : List Stmt := (l.drop 1).take 10 ++ ((l.drop 12).take 10 ++ l.drop 23)
noncomputable def hd.view_39 : Program := { PySem.Challenge.pw_pb0415_01 with main := { PySem.Challenge.pw_pb0415_01.main with body := cutOf PySem.Challenge.pw_pb0415_01.main.body } }
/-- the look at the law, without a twin of its text -/
theorem law_said : OpenLaw.wellSaid PySem.Challenge.rw_pb0415_01 = true := by
  refine (congrFun PySem.W.Fast.te9446332074065402090 _).trans ?_
  delta PySem.W.Fast.tw9446332074065402090
  repeat' (first | with_reducible refine look_both ?_ ?_ | (delta PySem.W.Fast.tw17960256430627541270; with_reducible refine look_both ?_ ?_) | (delta PySem.W.Fast.tw2436336058641802641; with_reducible refine look_both ?_ ?_) | (delta PySem.W.Fast.tw9825065953147845992; with_reducible refine look_both ?_ ?_) | (delta PySem.W.Fast.tw12908688711261696721; with_reducible refine look_both ?_ ?_))
  all_goals as_aux_lemma => kernel_rfl
local macro_rules | `(tactic| o_law) => `(tactic| (refine holds_law Mine.law_said fun said => ?_))
local macro_rules | `(tactic| o_head $H) => `(tactic| (refine holds_open (q := Mine.hd.view_39) (loose := [PySem.Str.ofString "MintError"]) (Xt := fun s => xlAt Mine.hd.view_39 [] s && recOk (RowW.records (OpenRow.toRowW PySem.Challenge.rw_pb0415_01.row)) s) (XP := XL Mine.hd.view_39 []) (Yf := Hook.obs $H) (Ya := Hook.val $H) (YP := Hook.says $H) (N := 3042) ?hl (Hook.of $H) (Hook.keeps $H) (fun s e => xl_of s (Bool.and_eq_true_iff.mp e).1) XL.keeps (by rfl) (by rfl) (by rfl) (fun s e => recFacts_of (Bool.and_eq_true_iff.mp e).2) (by rfl) (by first | assumption | decide +kernel) (by decide +kernel) ⟨rfl, rfl, rfl, rfl, rfl, by decide +kernel⟩ ?hw ?hc; (case hl => (intro w9; delta PySem.W.openEnds PySem.W.fencedOpening PySem.W.topFrom; rw [PySem.W.Fast.te10274390034422433532, PySem.W.Fast.te1435165496053646825, PySem.W.Fast.te14289696077712309145, PySem.W.Fast.te14082659384304107361, PySem.W.Fast.te14364793385576792824]; kernel_rfl))))
open_top hd for PySem.Challenge.rw_pb0415_01
theorem fillit : PySem.Challenge.rw_pb0415_01.Holds ∨ ∀ P, Mine.hd.heap_1 P = [] ∨ True := by
  k_fill
  exact .inr fun _ => .inr trivial

/-- the number that a row of signs means -/
noncomputable def val : List Bool → Nat
  | [] => 0
  | b :: l => b.toNat * 2 ^ l.length + val l
theorem val_lt : ∀ l : List Bool, val l < 2 ^ l.length
  | [] => by simp [val]
  | b :: l => by
    have h := val_lt l
    have hb : b.toNat ≤ 1 := by cases b <;> decide
    have h2 : b.toNat * 2 ^ l.length ≤ 1 * 2 ^ l.length := Nat.mul_le_mul_right _ hb
    simp only [val, List.length_cons, Nat.pow_succ]
    omega
theorem val_append : ∀ l r : List Bool, val (l ++ r) = val l * 2 ^ r.length + val r
  | [], r => by simp [val]
  | b :: l, r => by
    simp only [List.cons_append, val, val_append l r, List.length_append, Nat.pow_add, Nat.add_mul, Nat.mul_assoc, Nat.add_assoc]
theorem val_split (l : List Bool) (k : Nat) : val l = val (l.take k) * 2 ^ (l.length - k) + val (l.drop k) := by
  have h := val_append (l.take k) (l.drop k)
  rw [List.take_append_drop, List.length_drop] at h
  exact h
theorem val_take (l : List Bool) (k : Nat) : val (l.take k) = val l / 2 ^ (l.length - k) := by
  have h := val_split l k
  have h2 := val_lt (l.drop k)
  rw [List.length_drop] at h2
  rw [h, Nat.mul_comm, Nat.mul_add_div (Nat.two_pow_pos _), Nat.div_eq_of_lt h2, Nat.add_zero]
theorem val_drop (l : List Bool) (k : Nat) : val (l.drop k) = val l % 2 ^ (l.length - k) := by
  have h := val_split l k
  have h2 := val_lt (l.drop k)
  rw [List.length_drop] at h2
  rw [h, Nat.mul_comm, Nat.mul_add_mod, Nat.mod_eq_of_lt h2]
theorem val_one (b : Bool) : val [b] = b.toNat := by simp [val]
theorem toNat_mod2 (b : Bool) : b.toNat % 2 = b.toNat := by cases b <;> rfl
theorem take_succ_getD (l : List Bool) (k : Nat) (h : k < l.length) : l.take (k + 1) = l.take k ++ [l.getD k false] := by
  rw [List.take_add_one]
  simp [List.getD, h]
theorem val_bit (l : List Bool) (i : Nat) (h : i < l.length) : val l / 2 ^ i % 2 = (l.getD (l.length - 1 - i) false).toNat := by
  have e : i = l.length - (l.length - 1 - i + 1) := by omega
  have h1 := val_take l (l.length - 1 - i + 1)
  rw [← e] at h1
  rw [← h1, take_succ_getD l _ (by omega), val_append, val_one]
  simp only [List.length_cons, List.length_nil, Nat.zero_add, Nat.pow_one]
  have := toNat_mod2 (l.getD (l.length - 1 - i) false)
  omega
theorem val_replicate (k : Nat) : val (List.replicate k false) = 0 := by
  induction k with
  | zero => rfl
  | succ k ih => simp [List.replicate_succ, val, ih]
theorem val_ones (k : Nat) : val (List.replicate k true) = 2 ^ k - 1 := by
  induction k with
  | zero => rfl
  | succ k ih =>
    have := Nat.two_pow_pos k
    simp only [List.replicate_succ, val, ih, List.length_replicate, Bool.toNat_true, Nat.one_mul, Nat.pow_succ]
    omega
theorem val_inj : ∀ {l r : List Bool}, l.length = r.length → val l = val r → l = r
  | [], [], _, _ => rfl
  | a :: l, b :: r, hl, h => by
    simp only [List.length_cons, Nat.add_right_cancel_iff] at hl
    simp only [val] at h
    have h1 := val_lt l
    have h2 := val_lt r
    rw [hl] at h1 h
    have hab : a = b := by
      cases a <;> cases b <;> simp at h ⊢ <;> omega
    subst hab
    rw [val_inj hl (by omega)]

/-- the signs of a number, k of them -/
noncomputable def bits : Nat → Nat → List Bool
  | 0, _ => []
  | k + 1, w => (w / 2 ^ k % 2 == 1) :: bits k w
theorem bits_length (w : Nat) : ∀ k, (bits k w).length = k
  | 0 => rfl
  | k + 1 => by simp [bits, bits_length w k]
theorem val_bits (w : Nat) : ∀ k, val (bits k w) = w % 2 ^ k
  | 0 => by simp [bits, val, Nat.mod_one]
  | k + 1 => by
    have h : (w / 2 ^ k % 2 == 1).toNat = w / 2 ^ k % 2 := by
      rcases Nat.mod_two_eq_zero_or_one (w / 2 ^ k) with e | e <;> rw [e] <;> rfl
    rw [bits, val, val_bits w k, bits_length, h, Nat.pow_succ, Nat.mod_mul]
    rw [Nat.mul_comm, Nat.add_comm]

/-- as an int -/
noncomputable def V (l : List Bool) : Int := (val l : Int)
theorem V_nn (l : List Bool) : 0 ≤ V l := Int.natCast_nonneg _
theorem V_lt (l : List Bool) : V l < 2 ^ l.length := by
  have h := val_lt l
  rw [← kbt_cast]
  exact Int.ofNat_lt.mpr h
theorem V_bits {x : Int} {n : Nat} (h0 : 0 ≤ x) (h1 : x < 2 ^ n) : V (bits n x.toNat) = x := by
  rw [← kbt_cast] at h1
  unfold V
  rw [val_bits, Nat.mod_eq_of_lt (by omega)]
  omega
noncomputable def B (b : Bool) : Int := if b then 1 else 0
theorem B_toNat (b : Bool) : (b.toNat : Int) = B b := by cases b <;> rfl
theorem V_bit (l : List Bool) (i : Nat) (h : i < l.length) : V l / 2 ^ i % 2 = B (l.getD (l.length - 1 - i) false) := by
  rw [← B_toNat, ← val_bit l i h]
  unfold V
  rw [Int.natCast_emod, Int.natCast_ediv, kbt_cast]
  rfl
theorem V_take (l : List Bool) (k : Nat) : V (l.take k) = V l / 2 ^ (l.length - k) := by
  unfold V
  rw [val_take, Int.natCast_ediv, kbt_cast]
theorem V_drop (l : List Bool) (k : Nat) : V (l.drop k) = V l % 2 ^ (l.length - k) := by
  unfold V
  rw [val_drop, Int.natCast_emod, kbt_cast]
theorem V_append (l r : List Bool) : V (l ++ r) = V l * 2 ^ r.length + V r := by
  unfold V
  rw [val_append, Int.natCast_add, Int.natCast_mul, kbt_cast]
theorem V_cons (b : Bool) (l : List Bool) : V (b :: l) = B b * 2 ^ l.length + V l := by
  unfold V
  rw [val, Int.natCast_add, Int.natCast_mul, kbt_cast, B_toNat]
theorem V_zeros (k : Nat) : V (List.replicate k false) = 0 := by unfold V; rw [val_replicate]; rfl
theorem and_apart (a r k : Nat) (h : r < 2 ^ k) : (a * 2 ^ k) &&& r = 0 := by
  have e : r = (2 ^ k - 1) &&& r := by rw [Nat.and_comm, Nat.and_two_pow_sub_one_eq_mod, Nat.mod_eq_of_lt h]
  rw [e, ← Nat.and_assoc, Nat.and_two_pow_sub_one_eq_mod, Nat.mul_mod_left, Nat.zero_and]
/-- or of two that lie apart -/
theorem or_add {x y : Int} {k : Nat} (a : Nat) (hx : x = (a : Int) * 2 ^ k) (hy0 : 0 ≤ y) (hy : y < 2 ^ k) : Builtin.bitOr x y = x + y := by
  have hx' : x = ((a * 2 ^ k : Nat) : Int) := by rw [hx, Int.natCast_mul, kbt_cast]
  have hy' : y.toNat < 2 ^ k := by rw [← kbt_cast] at hy; omega
  have h0 : 0 ≤ x := by rw [hx']; exact Int.natCast_nonneg _
  rw [bitOr_and, bitAnd_pp h0 hy0, hx', Int.toNat_natCast, and_apart a y.toNat k hy']
  simp
theorem or_apart (l r : List Bool) : Builtin.bitOr (V l * 2 ^ r.length) (V r) = V (l ++ r) := by
  rw [or_add (x := V l * 2 ^ r.length) (val l) rfl (V_nn r) (V_lt r), V_append]
theorem xor_B (a b : Bool) : Builtin.bitXor (B a) (B b) = B (a ^^ b) := by cases a <;> cases b <;> decide


/-- the ones of a number -/
noncomputable def pop : Nat → Nat
  | 0 => 0
  | n + 1 => (n + 1) % 2 + pop ((n + 1) / 2)
theorem pop_eq (n : Nat) : pop n = n % 2 + pop (n / 2) := by
  cases n with
  | zero => simp [pop]
  | succ n => rw [pop]
/-- how many signs it takes -/
noncomputable def lg : Nat → Nat
  | 0 => 0
  | n + 1 => 1 + lg ((n + 1) / 2)
theorem lg_pos {n : Nat} (h : 0 < n) : lg n = 1 + lg (n / 2) := by
  cases n with
  | zero => omega
  | succ n => rw [lg]
theorem and_halves (a b : Nat) : a &&& b = 2 * (a / 2 &&& b / 2) + (a % 2) * (b % 2) := by
  have h1 : (a &&& b) / 2 = a / 2 &&& b / 2 := Nat.and_div_two
  have h2 := @Nat.and_mod_two_eq_one a b
  generalize a / 2 &&& b / 2 = q at *
  generalize a &&& b = c at *
  rcases Nat.mod_two_eq_zero_or_one a with ea | ea <;> rcases Nat.mod_two_eq_zero_or_one b with eb | eb <;> rw [ea, eb] at h2 ⊢ <;> simp at h2 ⊢ <;> omega
theorem pop_low : ∀ m : Nat, 0 < m → pop (m &&& (m - 1)) + 1 = pop m := by
  intro m
  induction m using Nat.strongRecOn with
  | ind m ih =>
    intro h
    rcases Nat.mod_two_eq_zero_or_one m with e | e
    · have hk := ih (m / 2) (by omega) (by omega)
      have e1 : (m - 1) / 2 = m / 2 - 1 := by omega
      have e3 : m &&& (m - 1) = 2 * (m / 2 &&& (m / 2 - 1)) := by rw [and_halves, e1, e]; omega
      rw [e3, pop_eq (2 * (m / 2 &&& (m / 2 - 1))), pop_eq m, e, Nat.mul_mod_right, Nat.zero_add, Nat.zero_add, Nat.mul_div_cancel_left _ (by decide)]
      exact hk
    · have e1 : (m - 1) / 2 = m / 2 := by omega
      have e2 : (m - 1) % 2 = 0 := by omega
      have e3 : m &&& (m - 1) = 2 * (m / 2) := by rw [and_halves, e1, e2, Nat.and_self]; omega
      rw [e3, pop_eq (2 * (m / 2)), pop_eq m, e, Nat.mul_mod_right, Nat.zero_add, Nat.mul_div_cancel_left _ (by decide)]
      omega
theorem and_pred_lt {m : Nat} (h : 0 < m) : m &&& (m - 1) < m := Nat.lt_of_le_of_lt Nat.and_le_right (by omega)
theorem pop_step {a : Int} (h : 0 < a) : 0 ≤ Builtin.bitAnd a (a - 1) ∧ (Builtin.bitAnd a (a - 1)).toNat < a.toNat ∧ pop (Builtin.bitAnd a (a - 1)).toNat + 1 = pop a.toNat := by
  have e : (a - 1).toNat = a.toNat - 1 := by omega
  rw [bitAnd_pp (by omega) (by omega), e, Int.toNat_natCast]
  exact ⟨Int.natCast_nonneg _, and_pred_lt (by omega), pop_low _ (by omega)⟩
theorem lg_step {a : Int} (h : 0 < a) : 0 ≤ a / 2 ^ Int.toNat 1 ∧ (a / 2 ^ Int.toNat 1).toNat < a.toNat ∧ 1 + lg (a / 2 ^ Int.toNat 1).toNat = lg a.toNat := by
  have e0 : (2 : Int) ^ Int.toNat 1 = 2 := by decide
  rw [e0]
  have e : (a / 2).toNat = a.toNat / 2 := by omega
  rw [e]
  exact ⟨by omega, by omega, (lg_pos (by omega)).symm⟩

/-- the ones of a row -/
noncomputable def cnt : List Bool → Nat
  | [] => 0
  | b :: l => b.toNat + cnt l
theorem cnt_append : ∀ l r : List Bool, cnt (l ++ r) = cnt l + cnt r
  | [], r => by simp [cnt]
  | b :: l, r => by simp [cnt, cnt_append l r, Nat.add_assoc]
theorem pop_double (a : Nat) (b : Bool) : pop (a * 2 + b.toNat) = pop a + b.toNat := by
  rw [pop_eq]
  have h1 : (a * 2 + b.toNat) % 2 = b.toNat := by cases b <;> simp <;> omega
  have h2 : (a * 2 + b.toNat) / 2 = a := by cases b <;> simp <;> omega
  rw [h1, h2, Nat.add_comm]
theorem pop_val (l : List Bool) : pop (val l) = cnt l := by
  have : ∀ r : List Bool, pop (val r.reverse) = cnt r.reverse := by
    intro r
    induction r with
    | nil => simp [val, pop, cnt]
    | cons b r ih =>
      rw [List.reverse_cons, val_append, val_one, cnt_append, ← ih]
      simp only [List.length_cons, List.length_nil, Nat.zero_add, Nat.pow_one]
      rw [pop_double]
      simp [cnt]
  have h := this l.reverse
  rw [List.reverse_reverse] at h
  exact h
theorem lg_bounds : ∀ (k m : Nat), 2 ^ k ≤ m → m < 2 ^ (k + 1) → lg m = k + 1
  | 0, m, h1, h2 => by
    have : m = 1 := by omega
    subst this
    rw [lg_pos (by decide)]
    simp [lg]
  | k + 1, m, h1, h2 => by
    have h0 := Nat.two_pow_pos k
    rw [Nat.pow_succ] at h1 h2
    rw [lg_pos (by omega), lg_bounds k (m / 2) (by omega) (by omega), Nat.add_comm]
/-- where the first one stands -/
noncomputable def first (l : List Bool) : Nat := l.findIdx id
theorem first_le (l : List Bool) : first l ≤ l.length := List.findIdx_le_length
theorem first_cons (b : Bool) (l : List Bool) : first (b :: l) = if b then 0 else first l + 1 := by
  unfold first
  rw [List.findIdx_cons]
  cases b <;> rfl
theorem lg_val : ∀ l : List Bool, lg (val l) + first l = l.length
  | [] => by simp [val, lg, first]
  | b :: l => by
    rw [first_cons]
    cases b with
    | false => have h := lg_val l; simp only [val, Bool.toNat_false, Nat.zero_mul, Nat.zero_add, Bool.false_eq_true, if_false, List.length_cons]; omega
    | true =>
      have h := val_lt l
      simp only [val, Bool.toNat_true, Nat.one_mul, if_true, List.length_cons, Nat.add_zero]
      exact lg_bounds l.length _ (by omega) (by rw [Nat.pow_succ]; omega)
theorem first_lt {l : List Bool} (h : 0 < val l) : first l < l.length := by
  have h1 := lg_val l
  have h2 := lg_pos h
  omega
theorem val_zero_first {l : List Bool} (h : val l = 0) : first l = l.length := by
  have h1 := lg_val l
  rw [h] at h1
  simp [lg] at h1
  exact h1
theorem split_first : ∀ {r : List Bool}, first r < r.length → r = List.replicate (first r) false ++ true :: r.drop (first r + 1)
  | [], h => by simp at h
  | b :: r, h => by
    rw [first_cons] at h ⊢
    cases b with
    | true => simp
    | false =>
      simp only [Bool.false_eq_true, if_false, List.length_cons] at h ⊢
      have ih := split_first (r := r) (by omega)
      simp only [List.replicate_succ, List.cons_append, List.drop_succ_cons]
      rw [← ih]
/-- how many noughts stand at the end -/
noncomputable def tz (l : List Bool) : Nat := first l.reverse
theorem first_none {l : List Bool} : first l = l.length ↔ ∀ b ∈ l, b = false := by
  induction l with
  | nil => simp [first]
  | cons b l ih =>
    rw [first_cons]
    cases b with
    | true => simp
    | false => simp [ih]
theorem tz_lt {l : List Bool} (h : 0 < val l) : tz l < l.length := by
  have h1 := first_lt h
  have h2 := first_le l.reverse
  rw [List.length_reverse] at h2
  unfold tz
  rcases Nat.lt_or_eq_of_le h2 with h3 | h3
  · exact h3
  · have h4 : ∀ b ∈ l.reverse, b = false := first_none.mp (by rw [h3, List.length_reverse])
    have h5 : first l = l.length := first_none.mpr fun b hb => h4 b (List.mem_reverse.mpr hb)
    omega
theorem tz_zero {l : List Bool} (h : val l = 0) : tz l = l.length := by
  have h1 := val_zero_first h
  have h2 : ∀ b ∈ l.reverse, b = false := fun b hb => first_none.mp h1 b (List.mem_reverse.mp hb)
  have h3 := first_none.mpr h2
  rw [List.length_reverse] at h3
  exact h3
theorem V_tz {l : List Bool} (h : 0 < val l) : ∃ a : Int, V l = 2 ^ tz l * (2 * a + 1) := by
  have h1 := tz_lt h
  have h2 := split_first (r := l.reverse) (by rw [List.length_reverse]; exact h1)
  have h3 : l = (l.reverse.drop (tz l + 1)).reverse ++ true :: List.replicate (tz l) false := by
    have h4 := congrArg List.reverse h2
    rw [List.reverse_reverse] at h4
    rw [List.reverse_append, List.reverse_cons, List.reverse_replicate, List.append_assoc] at h4
    exact h4
  generalize (l.reverse.drop (tz l + 1)).reverse = p at h3
  generalize tz l = t at h3
  refine ⟨V p, ?_⟩
  rw [h3, V_append, V_cons, V_zeros, List.length_cons, List.length_replicate, Int.pow_succ]
  simp only [B, if_true, Int.one_mul, Int.add_zero, Int.mul_add, Int.mul_one]
  rw [Int.mul_comm (V p), Int.mul_assoc]
theorem pop_ones (t : Nat) : pop (2 ^ t - 1) = t := by
  have h := pop_val (List.replicate t true)
  rw [val_ones] at h
  rw [h]
  clear h
  induction t with
  | zero => rfl
  | succ t ih => simp only [List.replicate_succ, cnt, ih, Bool.toNat_true]; omega


noncomputable abbrev LO : List Str := looseW Mine.hd.view_39 [Str.ofString "MintError"]
section
variable {prog : Program} {w : World} {A : Around} {E : Value → Shared → Prop} {s : Shared} {Q : Value → Shared → Prop} {a b n : Int} {t u : Tok}
theorem r_shr (hn : 0 ≤ n) (h : Q (.int (a / 2 ^ n.toNat) s.toks) { s with toks := s.toks + 1 }) : wpAny (model prog w) A (binaryOp .RShift (.int a t) (.int n u)) Q E s :=
  rshift_int hn (by rw [Int.fdiv_eq_ediv_of_nonneg _ (Int.le_of_lt (kbt_pos _))]; exact h)
theorem r_shl (hn : 0 ≤ n) (hn2 : n ≤ 100000) (ha : Builtin.Int.intBits a ≤ 100000) (h : Q (.int (a * 2 ^ n.toNat) s.toks) { s with toks := s.toks + 1 }) : wpAny (model prog w) A (binaryOp .LShift (.int a t) (.int n u)) Q E s :=
  lshift_int hn (by have e : (2 : Int) ^ 27 = 134217728 := by decide
                    rw [e]; omega) h
theorem r_mod (hb : 0 < b) (h : Q (.int (a % b) s.toks) { s with toks := s.toks + 1 }) : wpAny (model prog w) A (binaryOp .Mod (.int a t) (.int b u)) Q E s :=
  PyProof.Rows.mod_int (by omega) (by rw [Int.fmod_eq_emod_of_nonneg _ (by omega)]; exact h)
theorem log2_of_bits {x : Int} {k : Nat} (h : Builtin.Int.intBits x ≤ k) (hk : k ≤ 8000) : x.natAbs.log2 < 9000 := by
  have h1 := intBits_le_iff.mp h
  by_cases h0 : x.natAbs = 0
  · rw [h0]; decide +kernel
  · exact Nat.lt_of_lt_of_le ((Nat.log2_lt h0).mpr h1) (by omega)
theorem r_div (hb : 0 < b) (hs : Builtin.Int.intBits b ≤ 8000) (h : Q (.int (a / b) s.toks) { s with toks := s.toks + 1 }) : wpAny (model prog w) A (binaryOp .FloorDiv (.int a t) (.int b u)) Q E s :=
  PyProof.Rows.floordiv_int (by omega) (by rw [Int.fdiv_eq_ediv_of_nonneg _ (by omega)]; exact h) (Or.inl (PyProof.noPylong_of_log2 (log2_of_bits hs (by decide))))
theorem r_mul (ha : Builtin.Int.intBits a ≤ 100000) (hb : Builtin.Int.intBits b ≤ 100000) (h : Q (.int (a * b) s.toks) { s with toks := s.toks + 1 }) : wpAny (model prog w) A (binaryOp .Mult (.int a t) (.int b u)) Q E s :=
  PyProof.Rows.mul_int h (IntMulOk.of_le ha hb (by decide))
theorem r_pow (hn : 0 ≤ n) (hn2 : n ≤ 1000) (ha : Builtin.Int.intBits a ≤ 100) (h : Q (.int (a ^ n.toNat) s.toks) { s with toks := s.toks + 1 }) : wpAny (model prog w) A (binaryOp .Pow (.int a t) (.int n u)) Q E s :=
  PyProof.Rows.pow_int hn (by
    have e : (2 : Int) ^ 27 = 134217728 := by decide
    have h1 : (Builtin.Int.intBits a : Int) * n ≤ 100 * n := Int.mul_le_mul_of_nonneg_right (by omega) hn
    rw [e]; omega) h
end
theorem bits_lt {x : Int} {k : Nat} (h0 : 0 ≤ x) (h1 : x < 2 ^ k) : Builtin.Int.intBits x ≤ k := by
  rw [← kbt_cast] at h1
  exact intBits_le_iff.mpr (by omega)
theorem bits_ediv {x y : Int} {m : Nat} (h : Builtin.Int.intBits x ≤ m) : Builtin.Int.intBits (x / y) ≤ m :=
  PyProof.Rows.bits_of_natAbs_le (Int.natAbs_ediv_le_natAbs x y) h
theorem bits_pow2 {k : Int} (h : k ≤ 1000) : Builtin.Int.intBits ((2 : Int) ^ k.toNat) ≤ 2001 :=
  Nat.le_trans (intBits_pow_le (m := 2) (intBits_le_iff.mpr (by decide)) k.toNat) (by omega)
theorem bits_VL (l : List Bool) (h : l.length ≤ 1000) : Builtin.Int.intBits (V l) ≤ 1000 := Nat.le_trans (bits_lt (V_nn l) (V_lt l)) h
theorem bits_B (b : Bool) : Builtin.Int.intBits (B b) ≤ 1 := by cases b <;> decide
theorem bits_V (l : List Bool) : Builtin.Int.intBits (V l) ≤ l.length := bits_lt (V_nn l) (V_lt l)

noncomputable def code (b : Bool) : Nat := if b then 49 else 48
/-- the text of a row -/
noncomputable def T (l : List Bool) : Str := ⟨(l.map code).toArray⟩
theorem T_len (l : List Bool) : (T l).length = l.length := by simp [T, Str.length]
theorem T_list (l : List Bool) : (T l).cps.toList = l.map code := by simp [T]
theorem str_ext {x y : Str} (h : x.cps.toList = y.cps.toList) : x = y := by
  obtain ⟨⟨a⟩⟩ := x
  obtain ⟨⟨b⟩⟩ := y
  simp only at h
  rw [h]
theorem code_inj {a b : Bool} : code a = code b ↔ a = b := by cases a <;> cases b <;> decide
theorem T_inj {a b : List Bool} : T a = T b ↔ a = b := by
  constructor
  · intro h
    have h2 := congrArg (fun x => x.cps.toList) h
    simp only [T_list] at h2
    exact (List.map_inj_right (fun x y e => code_inj.mp e)).mp h2
  · exact fun h => h ▸ rfl
theorem slice_T_sn {l : List Bool} {i : Int} (h0 : 0 ≤ i) : Txt.slice (T l) (some i) none = T (l.drop i.toNat) := by
  by_cases h : i ≤ (T l).length
  · rw [slice_from_eq h0 h rfl]
    refine str_ext ?_
    rw [T_list]
    simp only [T_list, List.map_drop]
    rw [List.take_of_length_le]
    simp only [List.length_drop, List.length_map, T_len]
    omega
  · rw [slice_beyond (by omega)]
    rw [T_len] at h
    rw [List.drop_eq_nil_of_le (by omega)]
    rfl
theorem slice_T_ns {l : List Bool} {j : Int} (h0 : 0 ≤ j ∧ j ≤ l.length) : Txt.slice (T l) none (some j) = T (l.take j.toNat) := by
  rw [beq_iff_eq.mp (slice_closes_to (x := T l) (j := j) (by rw [T_list]; simpa using h0))]
  refine str_ext ?_
  simp only [T_list, List.map_take]
  simp
theorem slice_T_ss {l : List Bool} {i j : Int} (h0 : 0 ≤ i ∧ i ≤ j ∧ j ≤ l.length) : Txt.slice (T l) (some i) (some j) = T ((l.drop i.toNat).take (j - i).toNat) := by
  rw [beq_iff_eq.mp (slice_closes (x := T l) (i := i) (j := j) (by rw [T_list]; simpa using h0))]
  refine str_ext ?_
  simp only [T_list, List.map_take, List.map_drop]
theorem rev_T {l : List Bool} {u : Tok} : Txt.sliceBy (T l) none none (-1, u) = T l.reverse := by
  refine str_ext ?_
  rw [step_rev_list, T_list, T_len]
  refine List.ext_getElem (by simp) fun i h1 h2 => ?_
  simp only [List.length_map, List.length_range] at h1
  simp only [List.getElem_map, List.getElem_range, List.getElem_reverse, T]
  simp only [Array.getD, List.size_toArray, List.length_map]
  rw [dif_pos (by omega)]
  simp
theorem seqIndex_nn {i : Int} {n : Nat} (h0 : 0 ≤ i) (h1 : i < n) : seqIndex? i n = some i.toNat := by
  unfold seqIndex?
  simp only [show ¬ i < 0 by omega, if_false]
  rw [if_pos (by simp; omega)]
theorem seqIndex_m1 {n : Nat} (h1 : 0 < n) : seqIndex? (-1) n = some (n - 1) := by
  unfold seqIndex?
  simp only [show (-1 : Int) < 0 by decide, if_true]
  rw [if_pos (by simp; omega)]
  congr 1
  omega
theorem charAt_T {l : List Bool} {i : Int} {j : Nat} (h : seqIndex? i l.length = some j) (hj : j < l.length) : Txt.item (T l) i = T [l.getD j false] := by
  unfold Txt.item Txt.charAt
  rw [T_len, h]
  simp [T, List.getD, hj]
theorem item_T {l : List Bool} {i : Int} (h0 : 0 ≤ i) (h1 : i < l.length) : Txt.item (T l) i = T [l.getD i.toNat false] := charAt_T (seqIndex_nn h0 h1) (by omega)
theorem item_T1 {l : List Bool} (h1 : 0 < l.length) : Txt.item (T l) (-1) = T [l.getD (l.length - 1) false] := charAt_T (seqIndex_m1 h1) (by omega)
theorem mul_T {b : Bool} {k : Int} (h : 0 ≤ k) : Txt.mul (T [b]) k = T (List.replicate k.toNat b) := by
  unfold Txt.mul
  by_cases h1 : k < 1
  · rw [if_pos h1]
    have e : k.toNat = 0 := by omega
    rw [e]
    first | rfl | decide
  · rw [if_neg h1]
    split
    · rename_i h2
      rw [T_len] at h2
      have e : k = 1 := by simpa using h2
      subst e
      rfl
    · refine str_ext ?_
      rw [T_list]
      have hc : (T [b]).cps = #[code b] := by simp [T]
      have key : ∀ (n : Nat) (acc : Array Nat), ((List.replicate n #[code b]).foldl (· ++ ·) acc).toList = acc.toList ++ List.replicate n (code b) := by
        intro n
        induction n with
        | zero => intro acc; simp
        | succ n ih => intro acc; rw [List.replicate_succ, List.foldl_cons, ih]; simp [List.replicate_succ]
      show ((List.replicate k.toNat (T [b]).cps).foldl (· ++ ·) #[]).toList = _
      rw [hc, key]
      simp
theorem at_T {l : List Bool} {i : Nat} : StrLaws.At (T l) (T [true]) (T l).length i ↔ l[i]? = some true := by
  have h := StrLaws.subAt_one (T l) 49 i
  have e : (T [true]) = ⟨#[49]⟩ := rfl
  unfold StrLaws.At
  rw [e, h, T_list, List.getElem?_map]
  cases l[i]? with
  | none => simp
  | some b => cases b <;> simp [code]
theorem first_is {l : List Bool} {i : Nat} (h : l[i]? = some true) (hn : ∀ k : Nat, k < i → l[k]? ≠ some true) : first l = i := by
  obtain ⟨hi, hv⟩ := List.getElem?_eq_some_iff.mp h
  unfold first
  refine (List.findIdx_eq hi).mpr ⟨hv, fun j hj => ?_⟩
  have := hn j hj
  rw [List.getElem?_eq_getElem (by omega)] at this
  simpa using this
theorem first_no {l : List Bool} (hn : ∀ k : Nat, l[k]? ≠ some true) : first l = l.length := first_none.mpr fun b hb => by
  obtain ⟨k, hk⟩ := List.getElem?_of_mem hb
  cases b with
  | false => rfl
  | true => exact absurd hk (hn k)
/-- where it is found -/
theorem find_T (l : List Bool) : Txt.find (T l) (T [true]) = if first l < l.length then (first l : Int) else -1 := by
  unfold Txt.find
  rcases StrLaws.occ_head_from (T l) (T [true]) 0 1 (by decide) with ⟨e, hn⟩ | ⟨i, r, e, _, ha, hn⟩
  · have h := first_no (l := l) fun k hk => hn k (Nat.zero_le _) (at_T.mpr hk)
    rw [e, h, if_neg (Nat.lt_irrefl _)]
  · have h := first_is (at_T.mp ha) fun k hk hq => hn k (Nat.zero_le _) hk (at_T.mpr hq)
    have hi := (List.getElem?_eq_some_iff.mp (at_T.mp ha)).1
    rw [e, h, if_pos hi]
theorem in_T (l : List Bool) : (!(Builtin.Str.occurrences (T l) (T [true]) 0 (T l).length 1).isEmpty) = decide (first l < l.length) := by
  rcases StrLaws.occ_head_from (T l) (T [true]) 0 1 (by decide) with ⟨e, hn⟩ | ⟨i, r, e, _, ha, hn⟩
  · have h := first_no (l := l) fun k hk => hn k (Nat.zero_le _) (at_T.mpr hk)
    rw [e, h]
    simp
  · have h := first_is (at_T.mp ha) fun k hk hq => hn k (Nat.zero_le _) hk (at_T.mpr hq)
    have hi := (List.getElem?_eq_some_iff.mp (at_T.mp ha)).1
    rw [e, h]
    simp [hi]
theorem find_01 (b : Bool) : Txt.find (T [false, true]) (T [b]) = B b := by cases b <;> decide +kernel

section
variable {prog : Program} {w : World} {A : Around} {E : Value → Shared → Prop} {s : Shared} {value slice : Expr} {l r : List Bool} {t u : Tok} {h₀ : Heap} {L : Addr} {m : Str → Option Value} {news : List (Addr × Obj)} {Q : Value → Shared → Prop}
theorem sz_T (h : l.length ≤ 10000) : (T l).length ≤ sizeLine := by rw [T_len, sizeLine_eq]; omega
theorem r_slice_sn {i : Int} {ui : Tok} (F : Fr h₀ L s.heap m) (N : News h₀ L s.heap news) (h0 : 0 ≤ i) (hz : l.length ≤ 10000) (h : ∀ t' h' k, Fr h₀ L h' m → News h₀ L h' news → Q (.str (T (l.drop i.toNat)) t') { s with heap := h', toks := k })
    (hs : subscripted slice false (.str (T l) t) (.ref s.heap.objs.size) = operate [.ref s.heap.objs.size, .str (T l) t] (getItem (.str (T l) t) (.ref s.heap.objs.size)) := by with_unfolding_all rfl)
    (ht : ∀ r, letTemporaryGo value (.str (T l) t) r = pure () := by intro _; with_unfolding_all rfl) :
    wpAny (model prog w) A (subscriptTail value slice (.str (T l) t) (.ref s.heap.objs.size)) Q E { s with heap := s.heap.push { cls := .type "slice", data := .fields #[.int i ui, .none, .none] } } :=
  slice_strN_sn F N (fun h' t' k a b => by rw [slice_T_sn h0]; exact h t' h' k a b) hs ht (sz_T hz)
theorem r_slice_ns {j : Int} {uj : Tok} (F : Fr h₀ L s.heap m) (N : News h₀ L s.heap news) (h0 : 0 ≤ j ∧ j ≤ l.length) (hz : l.length ≤ 10000) (h : ∀ t' h' k, Fr h₀ L h' m → News h₀ L h' news → Q (.str (T (l.take j.toNat)) t') { s with heap := h', toks := k })
    (hs : subscripted slice false (.str (T l) t) (.ref s.heap.objs.size) = operate [.ref s.heap.objs.size, .str (T l) t] (getItem (.str (T l) t) (.ref s.heap.objs.size)) := by with_unfolding_all rfl)
    (ht : ∀ r, letTemporaryGo value (.str (T l) t) r = pure () := by intro _; with_unfolding_all rfl) :
    wpAny (model prog w) A (subscriptTail value slice (.str (T l) t) (.ref s.heap.objs.size)) Q E { s with heap := s.heap.push { cls := .type "slice", data := .fields #[.none, .int j uj, .none] } } :=
  slice_strN_ns F N (fun h' t' k a b => by rw [slice_T_ns h0]; exact h t' h' k a b) hs ht (sz_T hz)
theorem r_slice_ss {i j : Int} {ui uj : Tok} (F : Fr h₀ L s.heap m) (N : News h₀ L s.heap news) (h0 : 0 ≤ i ∧ i ≤ j ∧ j ≤ l.length) (hz : l.length ≤ 10000) (h : ∀ t' h' k, Fr h₀ L h' m → News h₀ L h' news → Q (.str (T ((l.drop i.toNat).take (j - i).toNat)) t') { s with heap := h', toks := k })
    (hs : subscripted slice false (.str (T l) t) (.ref s.heap.objs.size) = operate [.ref s.heap.objs.size, .str (T l) t] (getItem (.str (T l) t) (.ref s.heap.objs.size)) := by with_unfolding_all rfl)
    (ht : ∀ r, letTemporaryGo value (.str (T l) t) r = pure () := by intro _; with_unfolding_all rfl) :
    wpAny (model prog w) A (subscriptTail value slice (.str (T l) t) (.ref s.heap.objs.size)) Q E { s with heap := s.heap.push { cls := .type "slice", data := .fields #[.int i ui, .int j uj, .none] } } :=
  slice_strN_ss F N (fun h' t' k a b => by rw [slice_T_ss h0]; exact h t' h' k a b) hs ht (sz_T hz)
theorem r_slice_rev {uk : Tok} (F : Fr h₀ L s.heap m) (N : News h₀ L s.heap news) (hz : l.length ≤ 10000) (h : ∀ t' h' k, Fr h₀ L h' m → News h₀ L h' news → Q (.str (T l.reverse) t') { s with heap := h', toks := k })
    (hs : subscripted slice false (.str (T l) t) (.ref s.heap.objs.size) = operate [.ref s.heap.objs.size, .str (T l) t] (getItem (.str (T l) t) (.ref s.heap.objs.size)) := by with_unfolding_all rfl)
    (ht : ∀ r, letTemporaryGo value (.str (T l) t) r = pure () := by intro _; with_unfolding_all rfl) :
    wpAny (model prog w) A (subscriptTail value slice (.str (T l) t) (.ref s.heap.objs.size)) Q E { s with heap := s.heap.push { cls := .type "slice", data := .fields #[.none, .none, .int (-1) uk] } } :=
  slice_strK_nn F N rfl (fun h' t' k a b => by rw [rev_T]; exact h t' h' k a b) hs ht (sz_T hz)
theorem r_item {i : Int} (h0 : 0 ≤ i ∧ i < l.length) (hz : l.length ≤ 10000) (h : Q (.str (T [l.getD i.toNat false]) s.toks) { s with toks := s.toks + 1 })
    (hs : subscripted slice false (.str (T l) t) (.int i u) = operate [.str (T l) t, .int i u] (getItem (.str (T l) t) (.int i u)) := by with_unfolding_all rfl)
    (ht : ∀ r, letTemporaryGo value (.str (T l) t) r = pure () := by intro _; with_unfolding_all rfl) :
    wpAny (model prog w) A (subscriptTail value slice (.str (T l) t) (.int i u)) Q E s :=
  item_str (by unfold fitsSsize; simp; omega) (by rw [T_len]; omega) (by rw [T_len]; omega) (fun _ => by rw [item_T h0.1 h0.2]; exact h) hs ht
theorem r_item_last (h0 : 0 < l.length) (hz : l.length ≤ 10000) (h : Q (.str (T [l.getD (l.length - 1) false]) s.toks) { s with toks := s.toks + 1 })
    (hs : subscripted slice false (.str (T l) t) (.int (-1) u) = operate [.str (T l) t, .int (-1) u] (getItem (.str (T l) t) (.int (-1) u)) := by with_unfolding_all rfl)
    (ht : ∀ r, letTemporaryGo value (.str (T l) t) r = pure () := by intro _; with_unfolding_all rfl) :
    wpAny (model prog w) A (subscriptTail value slice (.str (T l) t) (.int (-1) u)) Q E s :=
  item_str rfl (by rw [T_len]; omega) (by rw [T_len]; omega) (fun _ => by rw [item_T1 h0]; exact h) hs ht
theorem r_item_lit {x : Str} {i : Int} {l : List Bool} (hx : x = T l) (h0 : 0 ≤ i ∧ i < l.length) (hz : l.length ≤ 10000) (h : Q (.str (T [l.getD i.toNat false]) s.toks) { s with toks := s.toks + 1 })
    (hs : subscripted slice false (.str x t) (.int i u) = operate [.str x t, .int i u] (getItem (.str x t) (.int i u)) := by with_unfolding_all rfl)
    (ht : ∀ r, letTemporaryGo value (.str x t) r = pure () := by intro _; with_unfolding_all rfl) :
    wpAny (model prog w) A (subscriptTail value slice (.str x t) (.int i u)) Q E s := by
  subst hx
  exact r_item h0 hz h hs ht
theorem r_add (hl : l.length ≤ 10000) (hr : r.length ≤ 10000) (h : ∀ t' k, Q (.str (T (l ++ r)) t') { s with toks := k }) : wpAny (model prog w) A (binaryOp .Add (.str (T l) t) (.str (T r) u)) Q E s := by
  refine P.add_str ?_
  split
  · rename_i e
    have e' : l = [] := by rw [T_len] at e; exact List.eq_nil_of_length_eq_zero (by simpa using e)
    subst e'
    exact h u s.toks
  · split
    · rename_i e
      have e' : r = [] := by rw [T_len] at e; exact List.eq_nil_of_length_eq_zero (by simpa using e)
      subst e'
      have := h t s.toks
      rw [List.append_nil] at this
      exact this
    · have e : T l ++ T r = T (l ++ r) := str_ext (by
        have : (T l ++ T r).cps = (T l).cps ++ (T r).cps := Str.cps_append _ _
        rw [this, Array.toList_append, T_list, T_list, T_list, List.map_append])
      rw [e]
      refine ⟨?_, h _ _⟩
      rw [T_len, List.length_append, sizeLine_eq]; omega
theorem r_mulT {b : Bool} {k : Int} (h0 : 0 ≤ k ∧ k ≤ 10000) (h : ∀ t' k', Q (.str (T (List.replicate k.toNat b)) t') { s with toks := k' }) : wpAny (model prog w) A (binaryOp .Mult (.str (T [b]) t) (.int k u)) Q E s :=
  SB.mul (mulOk_of 16 1048576 (by rw [T_len]; simp) (by omega) (by omega) (by decide) (by decide)) (fun t' k' => by rw [mul_T h0.1]; exact h t' k')
theorem r_ne {a b : Bool} (h : Q (.bool (a ^^ b)) s) : wpAny (model prog w) A (compareOp .NotEq (.str (T [a]) t) (.str (T [b]) u)) Q E s :=
  P.ne_str (by cases a <;> cases b <;> exact h)
theorem r_eq1 {a : Bool} {x : Str} (hx : x = T [true]) (h : Q (.bool a) s) : wpAny (model prog w) A (compareOp .Eq (.str (T [a]) t) (.str x u)) Q E s := by
  subst hx
  exact P.eq_str (by cases a <;> exact h)
theorem r_int_bool {b : Bool} (h : Q (.int (B b) s.toks) { s with toks := s.toks + 1 }) : wpAny (model prog w) A (call (.type "int") [.bool b]) Q E s := call_int_bool h
theorem r_find {x y : Str} (hy : y = T [true]) (hx : x = T l) (h : Q (.int (if first l < l.length then (first l : Int) else -1) s.toks) { s with toks := s.toks + 1 }) : wpAny (model prog w) A (call (.builtin "str.find") [.str x t, .str y u]) Q E s := by
  subst hx; subst hy
  exact SC.find (by rw [find_T]; exact h)
theorem r_find01 {x : Str} {b : Bool} (hx : x = T [false, true]) (h : Q (.int (B b) s.toks) { s with toks := s.toks + 1 }) : wpAny (model prog w) A (call (.builtin "str.find") [.str x t, .str (T [b]) u]) Q E s := by
  subst hx
  exact SC.find (by rw [find_01]; exact h)
theorem r_in {y : Str} (hy : y = T [true]) (h : Q (.bool (decide (first l < l.length))) s) : wpAny (model prog w) A (compareOp .In (.str y u) (.str (T l) t)) Q E s := by
  subst hy
  exact P.in_str (by rw [in_T]; exact h)
theorem r_int_T {b : Bool} (h : Q (.int (B b) s.toks) { s with toks := s.toks + 1 }) : wpAny (model prog w) A (call (.type "int") [.str (T [b]) t]) Q E s :=
  KIN.call_text (n := B b) (by cases b <;> decide +kernel) (by rw [T_len]; simp) h
end


section
variable {prog : Program} {w : World} {A : Around} {E : Value → Shared → Prop} {s : Shared} {h₀ : Heap} {L : Addr} {m : Str → Option Value} {news : List (Addr × Obj)} {Q : Value → Shared → Prop} {t u : Tok}
theorem r_ne_ii {a b : Int} (e : a = b) (h : Q (.bool false) s) : wpAny (model prog w) A (compareOp .NotEq (.int a t) (.int b u)) Q E s :=
  ne_int (by subst e; simpa using h)
end
section
variable {prog : Program} {w : World} {A : Around} {E : Value → Shared → Prop} {s : Shared} {h₀ : Heap} {L : Addr} {m : Str → Option Value} {news : List (Addr × Obj)}
theorem applied_to2 {sl : Addr} {u : Tok} {Q : Int × Int × Nat → Shared → Prop} (hs : s.heap.IsSliceOf sl .none (.int 2 u) .none) (h : Q (0, 1, 2) s) :
    wpAny (model prog w) A (Builtin.Slice.sliceApplied (.ref sl) (pure (3 : Int))) Q E s := by
  obtain ⟨os, hos, hcs, hds⟩ := id hs
  unfold Builtin.Slice.sliceApplied Builtin.Slice.sliceFields
  refine wpAny_bind (wpAny_bind (wpAny_field hos hds (x := .none) rfl (wpAny_bind (wpAny_field hos hds (x := .int 2 u) rfl (wpAny_bind (wpAny_field hos hds (x := .none) rfl (wpAny_pure ?_)))))))
  refine wpAny_bind (slicePart_none ?_)
  show wpAny _ _ (if ((1 : Int) == 0) = true then _ else _) _ _ s
  rw [if_neg (by decide)]
  refine wpAny_bind (slicePart_none (wpAny_bind (slicePart_int (wpAny_bind (wpAny_pure ?_)))))
  exact wpAny_pure h
theorem getItem_to2 {t sl : Addr} {x y z : Value} {u : Tok} {Q : Value → Shared → Prop} (ht : IsTup s.heap t #[x, y, z]) (hs : s.heap.IsSliceOf sl .none (.int 2 u) .none)
    (h : Q (.ref s.heap.objs.size) { s with heap := s.heap.push { cls := .type "tuple", data := .seq #[x, y] } }) : wpAny (model prog w) A (getItem (.ref t) (.ref sl)) Q E s := by
  have hsize : sizeOk (.seq #[x, y]) := by show 2 ≤ sizeLine; decide
  obtain ⟨os, hos, hcs, hds⟩ := id hs
  have hTs : s.TypeIs (.ref sl) "slice" := ⟨os, hos, hcs⟩
  unfold getItem
  try with_reducible refine wpAny_holding ?_
  first | refine wpAny_bind (wpAny_pure ?_) | skip
  refine wpAny_bind (wpAny_sequenceKey ht.typeIs (by decide) ?_)
  refine wpAny_bind (wpAny_callSpecial?_slot (name := Str.ofString "__getitem__") ht.typeIs slot_tuple_getitem
    (wpAny_call_entry slot_tuple_getitem ht.typeIs entry_tuple_getitem ?_ (args_tuple_getitem _ _)))
  show wpAny _ _ (Builtin.Tuple.tupleItemsOf (.ref t) >>= _) _ _ s
  refine wpAny_bind (tupleItemsOf_ ht ?_)
  refine wpAny_bind (wpAny_typeOf hTs ?_)
  rw [if_pos (by decide)]
  refine wpAny_bind (applied_to2 hs ?_)
  show wpAny _ _ (if ((0 : Int) == 0 && (1 : Int) == 1 && 2 == 3) = true then _ else _) _ _ s
  rw [if_neg (by decide)]
  first
    | exact wpAny_bind (m := Builtin.Tuple.tupleExact _) (wpAny_newObj_type (wpAny_pure ⟨_, rfl, wpAny_pure h⟩) hsize)
    | exact wpAny_bind (m := Builtin.Tuple.tupleExact _) (wpAny_newObj_type (wpAny_bind (wpAny_pure (wpAny_pure ⟨_, rfl, wpAny_pure h⟩))) hsize)
    | exact wpAny_bind (wpAny_bind (m := Builtin.Tuple.tupleExact _) (wpAny_newObj_type (wpAny_pure (wpAny_pure ⟨_, rfl, wpAny_pure h⟩)) hsize))
    | exact wpAny_bind (wpAny_bind (m := Builtin.Tuple.tupleExact _) (wpAny_newObj_type (wpAny_pure ⟨_, rfl, wpAny_pure h⟩) hsize))
theorem r_tup_to2 {value slice : Expr} {t : Addr} {x y z : Value} {c : Nat} {u : Tok} {Q : Value → Shared → Prop}
    (F : Fr h₀ L s.heap m) (N : News h₀ L s.heap news) (ht : (t, ({ cls := .type "tuple", data := .seq #[x, y, z] c } : Obj)) ∈ news)
    (h : ∀ D h', Fr h₀ L h' m → News h₀ L h' ((D, { cls := .type "tuple", data := .seq #[x, y] }) :: news) → AllLt D news → Q (.ref D) { s with heap := h' })
    (hs : subscripted slice false (.ref t) (.ref s.heap.objs.size) = operate [.ref s.heap.objs.size, .ref t] (getItem (.ref t) (.ref s.heap.objs.size)) := by with_unfolding_all rfl)
    (hg : ∀ r, letTemporaryGo value (.ref t) r = pure () := by intro _; with_unfolding_all rfl) :
    wpAny (model prog w) A (subscriptTail value slice (.ref t) (.ref s.heap.objs.size)) Q E { s with heap := s.heap.push { cls := .type "slice", data := .fields #[.none, .int 2 u, .none] } } := by
  have ht0 : IsTup s.heap t #[x, y, z] := ⟨_, (N _ ht).1, rfl, c, rfl⟩
  have ht' : IsTup (s.heap.push { cls := .type "slice", data := .fields #[.none, .int 2 u, .none] }) t #[x, y, z] := ht0.keeps fun _ _ e => Heap.get?_push_of_some _ e
  refine subscriptTail_ops (s := { s with heap := s.heap.push { cls := .type "slice", data := .fields #[.none, .int 2 u, .none] } }) ht'.typeIs slot_tuple_getitem.lookup
    (getItem_to2 ht' (Heap.IsSliceOf.new ..) ?_) hs hg
  have N1 := News.push (F.push { cls := .type "slice", data := .fields #[.none, .int 2 u, .none] }) (N.grown fun _ _ e => Heap.get?_push_of_some _ e) { cls := .type "tuple", data := .seq #[x, y] }
  rw [Heap.size_push] at N1
  show Q (.ref (s.heap.push _).objs.size) _
  rw [Heap.size_push]
  refine h _ _ ((F.push _).push _) N1 (allLt_of fun p hp => ?_)
  exact Nat.lt_succ_of_lt (Heap.lt_size (N p hp).1)
end
theorem r_led_item {prog : Program} {w : World} {A : Around} {E : Value → Shared → Prop} {s : Shared} {h₀ : Heap} {L : Addr} {news : List (Addr × Obj)} {Q : Value → Shared → Prop} {value slice : Expr} {l : Addr} {vs : List Value} {c : Nat} {k : Int} {u : Tok} {v : Value}
    (N : News h₀ L s.heap news) (hl : (l, ({ cls := .type "list", data := .seq vs.toArray c } : Obj)) ∈ news) (h0 : 0 ≤ k) (hk : k < 2 ^ 63) (hx : vs[k.toNat]? = some v) (h : Q v s)
    (hs : subscripted slice false (.ref l) (.int k u) = operate [.ref l, .int k u] (getItem (.ref l) (.int k u)) := by with_unfolding_all rfl) :
    wpAny (model prog w) A (subscriptTail value slice (.ref l) (.int k u)) Q E s :=
  have hL : s.heap.IsList l vs.toArray := ⟨_, (N _ hl).1, rfl, c, rfl⟩
  tail_any hL.typeIs slot_list_getitem.lookup (wpAny_getItem_list hL h0 hk (by simpa using hx) h) hs
theorem r_tup_item {prog : Program} {w : World} {A : Around} {E : Value → Shared → Prop} {s : Shared} {h₀ : Heap} {L : Addr} {news : List (Addr × Obj)} {Q : Value → Shared → Prop} {value slice : Expr} {t : Addr} {l : List Value} {c : Nat} {k : Int} {u : Tok} {v : Value} {j : Nat}
    (N : News h₀ L s.heap news) (hl : (t, ({ cls := .type "tuple", data := .seq ⟨l⟩ c } : Obj)) ∈ news) (h0 : -(2 ^ 63) ≤ k) (hk : k < 2 ^ 63) (hj : seqIndex? k l.length = some j) (hx : l[j]? = some v) (h : Q v s)
    (hs : subscripted slice false (.ref t) (.int k u) = operate [.ref t, .int k u] (getItem (.ref t) (.int k u)) := by with_unfolding_all rfl) :
    wpAny (model prog w) A (subscriptTail value slice (.ref t) (.int k u)) Q E s :=
  item_tupleT (l := l) ⟨_, (N _ hl).1, rfl, c, rfl⟩ h0 hk hj hx h hs
/-- ways that meet in one sign -/
structure MarkS (x : Bool) : Prop where
/-- ways that meet in one int -/
structure MarkI (x : Int) : Prop where
/-- trees that leave every object's dict pointer -/
noncomputable def Tame {α : Type} : Sem α → Prop
  | .pure _ => True
  | .raise _ => True
  | .unsupported _ => True
  | .finish _ => True
  | .rule _ k => Tame (k ())
  | .at _ k => Tame (k ())
  | .load _ _ k => ∀ o, Tame (k o)
  | .update _ _ f k => (∀ o, (f o).dict = o.dict ∧ (f o).isFreed = o.isFreed) ∧ Tame (k ())
  | .alloc _ k => ∀ a, Tame (k a)
  | .loadIfAlive _ k => ∀ o, Tame (k o)
  | .point _ k => Tame (k ())
  | .register _ _ => True
  | .fresh k => ∀ t, Tame (k t)
  | .ask k => ∀ x, Tame (k x)
  | .stack k => ∀ l, Tame (k l)
  | .handled _ k => ∀ o, Tame (k o)
  | _ => False
noncomputable def DK (h h' : Heap) : Prop := ∀ b o, h.get? b = some o → ∃ o', h'.get? b = some o' ∧ o'.dict = o.dict
theorem DK.refl (h : Heap) : DK h h := fun _ o e => ⟨o, e, rfl⟩
theorem DK.trans {h₁ h₂ h₃ : Heap} (x : DK h₁ h₂) (y : DK h₂ h₃) : DK h₁ h₃ := fun b o e => by
  obtain ⟨o₁, e₁, d₁⟩ := x b o e
  obtain ⟨o₂, e₂, d₂⟩ := y b o₁ e₁
  exact ⟨o₂, e₂, d₂.trans d₁⟩
theorem DK.update {h : Heap} {a : Addr} {f : Obj → Obj} (hf : ∀ o, (f o).dict = o.dict ∧ (f o).isFreed = o.isFreed) : DK h (h.update a f) := fun b o e => by
  by_cases q : a = b
  · subst q
    exact ⟨f o, Heap.get?_update_self f e ((hf o).2.trans (Heap.get?_some_iff.mp e).2), (hf o).1⟩
  · exact ⟨o, (Heap.get?_update_other h f q).trans e, rfl⟩
theorem DK.push {h : Heap} {o : Obj} : DK h (h.push o) := fun _ o' e => ⟨o', Heap.get?_push_of_some _ e, rfl⟩
theorem tame_wp {α : Type} {M : Model} {Γ : Ctx} {Q : α → Pos → Shared → Prop} {E : Value → Pos → Shared → Prop} {h₀ : Heap} : ∀ (t : Sem α), Tame t → ∀ (p : Pos) (s : Shared), DK h₀ s.heap → Sem.wp M Γ t Q E p s →
    Sem.wp M Γ t (fun a p' s' => Q a p' s' ∧ DK h₀ s'.heap) (fun e p' s' => E e p' s' ∧ DK h₀ s'.heap) p s := by
  intro t
  induction t with
  | pure a => intro _ p s d h; exact ⟨h, d⟩
  | raise e => intro _ p s d h; exact ⟨h, d⟩
  | unsupported _ => intro _ p s d h; exact h
  | finish _ => intro _ p s d h; exact h
  | rule _ k ih => intro T p s d h; exact ih () T p s d h
  | «at» p' k ih => intro T p s d h; exact ih () T p' s d h
  | load a part k ih => intro T p s d h; obtain ⟨o, e, h⟩ := h; exact ⟨o, e, ih o (T o) p s d h⟩
  | update a part f k ih => intro T p s d h; exact ⟨h.1, ih () T.2 p _ (d.trans (DK.update T.1)) h.2⟩
  | alloc o k ih => intro T p s d h; exact ih _ (T _) p _ (d.trans DK.push) h
  | loadIfAlive a k ih => intro T p s d h; exact ih _ (T _) p s d h
  | point _ k ih => intro T p s d h; exact ih () T p s d h
  | register _ _ _ => intro _ p s d h; exact h
  | fresh k ih => intro T p s d h; exact ih _ (T _) p _ d h
  | ask k ih => intro T p s d h; exact ih _ (T _) p s d h
  | stack k ih => intro T p s d h; exact ih _ (T _) p s d h
  | handled _ k ih => intro T p s d h; exact ih _ (T _) p s d h
  | _ => intro T; exact absurd T (fun q => q)
theorem tame_any {α : Type} {M : Model} {A : Around} {t : Sem α} {Q : α → Shared → Prop} {E : Value → Shared → Prop} {s : Shared} (T : Tame t) (h : wpAny M A t Q E s) :
    wpAny M A t (fun a s' => Q a s' ∧ DK s.heap s'.heap) (fun e s' => E e s' ∧ DK s.heap s'.heap) s := fun Γ p hΓ => tame_wp t T p s (DK.refl _) (h Γ p hΓ)
theorem tame_bind {α β : Type} {f : α → Sem β} (hf : ∀ a, Tame (f a)) : ∀ (m : Sem α), Tame m → Tame (m >>= f) := by
  intro m
  show Tame m → Tame (Sem.bind m f)
  induction m with
  | pure a => intro _; exact hf a
  | raise _ => intro _; trivial
  | unsupported _ => intro _; trivial
  | finish _ => intro _; trivial
  | rule _ k ih => intro T; exact ih () T
  | «at» _ k ih => intro T; exact ih () T
  | load _ _ k ih => intro T o; exact ih o (T o)
  | update _ _ f k ih => intro T; exact ⟨T.1, ih () T.2⟩
  | alloc _ k ih => intro T a; exact ih a (T a)
  | loadIfAlive _ k ih => intro T o; exact ih o (T o)
  | point _ k ih => intro T; exact ih () T
  | register _ _ _ => intro _; trivial
  | fresh k ih => intro T t; exact ih t (T t)
  | ask k ih => intro T x; exact ih x (T x)
  | stack k ih => intro T l; exact ih l (T l)
  | handled _ k ih => intro T o; exact ih o (T o)
  | _ => intro T; exact absurd T (fun q => q)
theorem tame_pure {α : Type} {a : α} : Tame (pure a : Sem α) := trivial
theorem tame_unsupported {α : Type} {x : String} : Tame (unsupported x : Sem α) := trivial
theorem tame_load {a : Addr} : Tame (load a) := fun _ => trivial
theorem tame_alloc {o : Obj} : Tame (alloc o) := fun _ => trivial
theorem tame_stack : Tame stack := fun _ => trivial
theorem mapFields_same (g : Array Value → Array Value) (o : Obj) : (Obj.mapFields g o).dict = o.dict ∧ (Obj.mapFields g o).isFreed = o.isFreed := by
  obtain ⟨c, d, dt, sl⟩ := o
  cases dt <;> exact ⟨rfl, rfl⟩
theorem tame_fieldsOf (v : Value) : Tame (fieldsOf v) := by
  unfold fieldsOf
  cases v <;> try exact tame_unsupported
  refine tame_bind (fun o => ?_) _ tame_load
  cases o.data <;> first | exact tame_unsupported | exact tame_pure
theorem tame_field (v : Value) (i : Nat) : Tame (field v i) := by
  unfold field
  refine tame_bind (fun vs => ?_) _ (tame_fieldsOf v)
  split
  · exact tame_pure
  · exact tame_unsupported
theorem tame_setField (v : Value) (i : Nat) (x : Value) : Tame (setField v i x) := by
  unfold setField
  cases v <;> try exact tame_unsupported
  unfold updateField
  refine tame_bind (fun o => ?_) _ tame_load
  split
  · split
    · exact ⟨mapFields_same _, trivial⟩
    · exact tame_unsupported
  · exact tame_unsupported
theorem tame_setFlight (e : Value) (f : Option Addr) : Tame (setFlight e f) := by
  unfold setFlight
  refine tame_bind (fun tb => ?_) _ (tame_field e 1)
  split
  · exact tame_setField _ _ _
  · exact tame_pure

theorem tame_ite {α : Type} {c : Prop} [Decidable c] {a b : Sem α} (ha : Tame a) (hb : Tame b) : Tame (if c then a else b) := by split <;> assumption
theorem tame_keptBack (env : Env) (b : Bool) : ∀ outer : List Env, Tame (keptBack env b outer)
  | [] => tame_ite tame_pure (tame_bind (fun _ => tame_pure) _ (tame_bind (fun _ => tame_pure) _ tame_stack))
  | _ :: _ => tame_pure
theorem tame_readyFrames : ∀ l : List Env, Tame (readyFrames l)
  | [] => tame_pure
  | env :: outer => by
    unfold readyFrames
    split
    · refine tame_bind (fun o => ?_) _ tame_load
      split
      · exact tame_pure
      · refine tame_bind (fun b => ?_) _ ?_
        · refine tame_bind (fun k => ?_) _ (tame_keptBack _ _ _)
          refine tame_bind (fun _ => tame_readyFrames outer) _ ?_
          exact ⟨fun o => ⟨rfl, by obtain ⟨_, _, dt, _⟩ := o; cases dt <;> rfl⟩, trivial⟩
        · unfold behindIsImport
          split
          · exact tame_pure
          · split
            · exact tame_pure
            · exact tame_bind (fun _ => tame_pure) _ (tame_field _ _)
    · exact tame_unsupported
theorem tame_frameOf (env : Env) : Tame (PySem.frameOf env) := by
  unfold PySem.frameOf frameEnvs
  refine tame_bind (fun l => ?_) _ (tame_bind (fun _ => tame_pure) _ tame_stack)
  refine tame_bind (fun o => ?_) _ ?_
  · split
    · exact tame_pure
    · exact tame_unsupported
  · unfold frameObject
    split
    · exact tame_pure
    · exact tame_bind (fun _ => tame_pure) _ (tame_readyFrames _)
theorem tame_entryPlaceOf (f : Addr) (b : Bool) : Tame (entryPlaceOf f b) := by
  unfold entryPlaceOf
  refine tame_bind (fun l => ?_) _ tame_stack
  split <;> exact tame_pure
theorem tame_newEntry (a b c d e : Value) (pl : List Value) : Tame (EntryCells.newEntry a b c d e pl) := by
  unfold EntryCells.newEntry newFields newObj newObjAsIs
  dsimp only
  split <;> exact tame_ite (tame_bind (fun _ => tame_bind (fun _ => tame_pure) _ tame_alloc) _ tame_unsupported) (tame_bind (fun _ => tame_pure) _ tame_alloc)
theorem tame_noteFrame (e : Value) (env : Env) : Tame (noteFrame e env) := by
  unfold noteFrame
  split
  · refine tame_bind (fun head => ?_) _ (tame_field _ _)
    have k : Tame (do let a ← PySem.frameOf env; let pl ← entryPlaceOf ‹Addr› (head != .none); let b ← EntryCells.newEntry head a .none (rawInt ‹Addr›) .none pl; setField e 1 b) :=
      tame_bind (fun a => tame_bind (fun pl => tame_bind (fun b => tame_setField _ _ _) _ (tame_newEntry _ _ _ _ _ _)) _ (tame_entryPlaceOf _ _)) _ (tame_frameOf env)
    split
    · refine tame_bind (fun x => ?_) _ (tame_field _ _)
      split
      · exact tame_pure
      · exact tame_bind (fun _ => k) _ (tame_setField _ _ _)
    · exact k
  · exact tame_unsupported
theorem tame_leaving (env : Env) (e : Value) : Tame (leaving env e) := by
  unfold leaving
  exact tame_bind (fun _ => tame_setFlight _ _) _ (tame_noteFrame _ _)


section
variable {w : World} {h : Heap}
theorem at52 (X : (Mine.hd.heap_1 w.params).In h) : ∃ nm q bs hdct sn sub ab col dd k0 k1 k2 k3 k5, h.get? 52 = some (excClassObj nm q 52 51 bs [.ref 39, .type "Exception", .type "BaseException", .type "object"] hdct sn sub ab col dd k0 k1 k2 k3 k5 "Exception.__new__") :=
  ⟨_, _, _, _, _, _, _, _, _, _, _, _, _, _, X _ _ (by k_is)⟩
theorem init52 : findIn (Mine.hd.heap_1 w.params) (.ref 52) (Str.ofString "__init__") = some (some (.ref 29)) := by k_is
theorem fn29 : typeIn (Mine.hd.heap_1 w.params) (.ref 29) = some (.type "function") := by k_is
theorem set52 : findIn (Mine.hd.heap_1 w.params) (.ref 52) (Str.ofString "__setattr__") = some (some (.builtin "object.__setattr__")) := by k_is
theorem ga52 : findIn (Mine.hd.heap_1 w.params) (.ref 52) (Str.ofString "__getattribute__") = some (some (.builtin "BaseException.__getattribute__")) := by k_is
theorem gat52 : findIn (Mine.hd.heap_1 w.params) (.ref 52) (Str.ofString "__getattr__") = some none := by k_is
theorem cls52 : ∃ cd, clsIn (Mine.hd.heap_1 w.params) 52 = some cd ∧ cd.hasDict = true ∧ cd.mro = [.ref 52, .ref 39, .type "Exception", .type "BaseException", .type "object"] := ⟨_, by k_is, rfl, rfl⟩
end
noncomputable abbrev excObj (t : Addr) (d : Option Addr) : Obj := { cls := .ref 52, dict := d, data := .fields #[.ref t, .none, .none, .none, .bool false, .none] }
section
variable {prog : Program} {w : World} {A : Around} {E : Value → Shared → Prop} {h : Heap} {g : Array GenState} {d : Drawn} {t : Nat} {os : OsState} {R : Result → Shared → Prop}
theorem exc_new (X : (Mine.hd.heap_1 w.params).In h) {rest : List Value} (hrest : rest.length ≤ sizeLine)
    (hq : R (.ok (.ret (.ref (h.objs.size + 1)))) ⟨(h.push { cls := .type "tuple", data := .seq rest.toArray }).push (excObj h.objs.size none), g, d, t, os⟩) :
    codeAny (model prog w) A (.builtin "Exception.__new__" ⟨.ref 52 :: rest, []⟩) R ⟨h, g, d, t, os⟩ := by
  obtain ⟨nm, q, bs, hdct, sn, sub, ab, col, dd, k0, k1, k2, k3, k5, hC⟩ := at52 X
  have EF := PySem.F.excBase_Exception
  have hends := EF.ends
  have b1 : (Value.ref 52 :: [.ref 39, .type "Exception", .type "BaseException", .type "object"]).contains (.type "Exception") = true := by decide +kernel
  have b2 : (Value.ref 52 :: [.ref 39, .type "Exception", .type "BaseException", .type "object"]).contains (.type "AttributeError") = false := by decide +kernel
  have b3 : (Value.ref 52 :: [.ref 39, .type "Exception", .type "BaseException", .type "object"]).contains (.type "NameError") = false := by decide +kernel
  refine codeAny_builtinAt EF.entry ?_
  unfold Builtin.«BaseException.__new__»
  refine PySem.wpAt_bind ?_
  show PySem.wpAt _ _ _ (stack >>= _) _ _ _
  refine PySem.wpAt_bind (PySem.wpAt_stack fun p below => PySem.wpAt_of_wpAny ?_)
  wp_walk
  refine PySem.wpAt_of_wpAny ?_
  rw [EF.owner]
  repeat (first | with_reducible refine wpAny_madeHere_exc EF.canon hC ?_ | with_reducible refine wpAny_loadPart_at hC ?_ | (with_reducible refine wpAny_isSubtype_exc hC ?_; first | rw [b1] | rw [b2] | rw [b3]) | wp_step)
  show R _ _
  rw [Heap.size_push]
  exact hq
theorem exc_check (X : (Mine.hd.heap_1 w.params).In h) {M : Model} {rest : List Value} {Q : Unit → Shared → Prop} (hq : Q () ⟨h, g, d, t, os⟩) : wpAny M A (checkBuiltinCall "Exception.__new__" ⟨.ref 52 :: rest, []⟩) Q E ⟨h, g, d, t, os⟩ := by
  obtain ⟨nm, q, bs, hdct, sn, sub, ab, col, dd, k0, k1, k2, k3, k5, hC⟩ := at52 X
  have EF := PySem.F.excBase_Exception
  have b1 : (Value.ref 52 :: [.ref 39, .type "Exception", .type "BaseException", .type "object"]).contains (.type "Exception") = true := by decide +kernel
  have hstar := EF.noStar
  simp only [checkBuiltinCall, EF.newKind, EF.newSplit, EF.newRow]
  repeat (first | refine wpAny_loadPart_at hC ?_ | (refine wpAny_isSubtype_exc hC ?_; rw [b1]) | refine wpAny_staticBase_exc hC ?_ | refine wpAny_madeBy_exc hC ?_ | simp only [bne_self_eq_false, Bool.false_eq_true, if_false] | wp_step)
  exact hq
theorem exc_type_call (X : (Mine.hd.heap_1 w.params).In h) {rest : List Value} {Q : Fin → Shared → Prop} (hrest : rest.length ≤ sizeLine)
    (hq : wpAny (model prog w) A (call (.ref 29) (.ref (h.objs.size + 1) :: rest)) (fun r s' => r = .none ∧ Q (.done (.ret (.ref (h.objs.size + 1)))) s') E
      ⟨(h.push { cls := .type "tuple", data := .seq rest.toArray }).push (excObj h.objs.size none), g, d, t, os⟩) :
    wpAny (model prog w) A (Builtin.«type.__call__» ⟨.ref 52 :: rest, []⟩) Q E ⟨h, g, d, t, os⟩ := by
  obtain ⟨nm, q, bs, hdct, sn, sub, ab, col, dd, k0, k1, k2, k3, k5, hC⟩ := at52 X
  have EF := PySem.F.excBase_Exception
  repeat (first | with_reducible refine wpAny_loadPart_at hC ?_ | with_reducible refine wpAny_madeBy_exc hC ?_ | wp_step)
  refine codeAny_call_builtin_code (Code.quiet_builtin _ EF.quiet) (exc_check X ?_)
  refine exc_new X hrest ?_
  show wpAny _ _ _ _ _ _
  have X₁ : (Mine.hd.heap_1 w.params).In ((h.push { cls := .type "tuple", data := .seq rest.toArray }).push (excObj h.objs.size none)) := X.keeps fun b o e => Heap.get?_push_of_some _ (Heap.get?_push_of_some _ e)
  have hC₁ := Heap.get?_push_of_some (excObj h.objs.size none) (Heap.get?_push_of_some { cls := .type "tuple", data := .seq rest.toArray } hC)
  have hget : ((h.push { cls := .type "tuple", data := .seq rest.toArray }).push (excObj h.objs.size none)).get? (h.objs.size + 1) = some (excObj h.objs.size none) := by heap_get
  have hcC : (Value.ref 52 :: [.ref 39, .type "Exception", .type "BaseException", .type "object"]).contains (.ref 52) = true := by decide +kernel
  unfold isInstance
  repeat (first | with_reducible refine wpAny_loadPart_at hget ?_ | (with_reducible refine wpAny_isSubtype_exc hC₁ ?_; rw [hcC]) | wp_step)
  show wpAny _ _ (typeLookup (.ref 52) _) _ _ _
  refine (looks_findIn X₁ init52).here ?_
  refine wpAny_holding (wpAny_bind ((bind_fn X₁ _ fn29).here (wpAny_bind (wpAny_mono hq (fun r s' hr => ?_) fun _ _ x => x))))
  obtain ⟨rfl, hQ⟩ := hr
  wp_walk
  exact hQ
theorem exc_call (X : (Mine.hd.heap_1 w.params).In h) {rest : List Value} {Q : Value → Shared → Prop} (hrest : rest.length ≤ sizeLine)
    (hq : wpAny (model prog w) (A.under (.builtin "type.__call__" ⟨.ref 52 :: rest, []⟩)) (call (.ref 29) (.ref (h.objs.size + 1) :: rest)) (fun r s' => r = .none ∧ Q (.ref (h.objs.size + 1)) s') E
      ⟨(h.push { cls := .type "tuple", data := .seq rest.toArray }).push (excObj h.objs.size none), g, d, t, os⟩) :
    wpAny (model prog w) A (call (.ref 52) rest) Q E ⟨h, g, d, t, os⟩ := by
  obtain ⟨nm, q, bs, hdct, sn, sub, ab, col, dd, k0, k1, k2, k3, k5, hC⟩ := at52 X
  have f1 := tc_lookup
  have f2 := tc_bind (.ref 52)
  have hT : (⟨h, g, d, t, os⟩ : Shared).TypeIs (.ref 52) "type" := ⟨_, hC, rfl⟩
  refine wpAny_call (codeAny_of_tree ?_)
  show wpAny _ _ (callAny (.ref 52) _) _ _ _
  repeat (any_goals (first | assumption | with_reducible refine wpAny_loadPart_at hC ?_ | wp_step))
  refine ⟨rfl, ?_⟩
  exact codeAny_call_builtin_at (Code.quiet_builtin _ (by decide +kernel)) entry_typeCall (wpAny_check_type_call_sub hC (exc_type_call X hrest hq))
end


section
variable {prog : Program} {w : World} {A : Around} {E : Value → Shared → Prop} {s : Shared} {R : Result → Shared → Prop} {h₀ : Heap} {L : Addr} {m : Str → Option Value} {name : Str} {v : Value}
theorem exc_osa {x : Addr} {ox : Obj} {od : Option Obj} {tk : Tok} (X : (Mine.hd.heap_1 w.params).In s.heap) (I : InstAt s.heap x ox 52 od) (ht : takerIn (Mine.hd.heap_1 w.params) 52 name = some none)
    (h : ∀ b, wpAny (model prog w) A.in1 (Builtin.ObjectAttr.storeInOwnDict (.ref x) (.ref 52) (.str name tk) name v b)
      (fun fin s' => match fin with | .done f => R (.ok f) s' | .again c' => c'.quiet = true ∧ codeAny (model prog w) A c' R s') (fun e s' => R (.error e) s') s) :
    codeAny (model prog w) A (.call (.builtin "object.__setattr__") ⟨[.ref x, .str name tk, v], []⟩) R s := by
  have SF := PySem.F.store_Exception
  obtain ⟨cd, hc, _, hm⟩ := cls52 (w := w)
  have sub : Looks (model prog w) s.heap (isInstance (.ref x) (.type "object")) true := I.type.andThen (looks_mroIn X (by unfold mroIn; rw [hc, Option.bind_some, hm]; rfl))
  obtain ⟨attr, ha, hr⟩ := Option.bind_eq_some_iff.mp ht
  have L2 : Looks (model prog w) s.heap (mroOf (.ref 52)) cd.mro := (looks_clsIn X hc).andThen .now
  have L3 : Looks (model prog w) s.heap (Builtin.ObjectAttr.storeTaker? attr) none := by
    cases attr with
    | none => exact .now
    | some a =>
      obtain ⟨b, hb, e⟩ := Option.map_eq_some_iff.mp hr
      cases b with
      | false => exact (looks_takesIn X hb).andThen .now
      | true => cases e
  refine codeAny_call_builtin SF.slot.plain SF.entry (@check_slot (model prog w) _ _ s "object.__setattr__" "object" "__setattr__" (.ref x) [.str name tk, v] [] _ SF.kind SF.split sub (SF.args (.ref x) (.str name tk) v) ?_)
  rw [osa_eq, refuse_eq]
  refine wpAny_bind (wpAny_bind (I.type.here (wpAny_bind (L2.here ?_))))
  rw [hm, refuseLoop_ref, refuseLoop_ref, SF.passes]
  exact wpAny_pure (wpAny_bind (I.type.here (wpAny_bind ((looks_findIn X ha).here (wpAny_bind (L3.here (h _)))))))
theorem exc_put {D : Addr} {tk : Tok} {pre post : List (Addr × Obj)} {es es' : List DictEntry} {n n' : Nat} {Q : PySem.Fin → Shared → Prop} (F : Fr h₀ L s.heap m) (N : News h₀ L s.heap (pre ++ (D, dictOf es n) :: post)) (h1 : ∀ p ∈ pre, p.1 ≠ D) (h2 : ∀ p ∈ post, p.1 ≠ D)
    (hl : (getL name es).isSome = true) (e : (putL name (PyData.keyHash w.params name) (.str name s.toks) v es, putN name es n) = (es', n')) (hz : es'.length ≤ 1000)
    (h : ∀ h', Fr h₀ L h' m → News h₀ L h' (pre ++ (D, dictOf es' n') :: post) → Q (.done (.ret .none)) { s with heap := h', toks := s.toks + 1 }) :
    wpAny (model prog w) A (Builtin.ObjectAttr.storeInDict D (.str name tk) name v) Q E s := by
  obtain ⟨e1, e2⟩ := Prod.mk.inj e
  obtain ⟨U1, U2⟩ := news_upd (f := Obj.putName name (PyData.keyHash w.params name) (.str name s.toks) v) F N h1 h2 (by rw [putName_dict, e1, e2]) rfl
  have G := (N (D, dictOf es n) (by simp)).1
  have G' := (U2 (D, dictOf es' n') (by simp)).1
  unfold Builtin.ObjectAttr.storeInDict
  refine wpAny_bind (wpAny_pure (wpAny_bind ?_))
  unfold nsSet
  refine wpAny_bind (wpAny_bind (PySem.wpAny_askSetting (wpAny_pure (wpAny_bind (wpAny_mkText (wpAny_bind (wpAny_loadPart G ?_)))))))
  have c : (!es.toArray.any (·.key.isStr name) && es.toArray.any (·.refKey)) = false := by
    rw [← Array.any_toList, ← Array.any_toList]
    unfold getL at hl
    split at hl
    · rename_i en he
      rw [List.any_eq_true.mpr ⟨en, List.mem_of_find?_eq_some he, List.find?_some he⟩]; rfl
    · split at hl
      · cases hl
      · rename_i z; rw [Bool.not_eq_true] at z; rw [show es.toArray.toList.any (·.refKey) = false from z, Bool.and_false]
  dsimp only
  rw [aRefKeyMayBeTheName_at, c]
  refine wpAny_updatePart G ?_
  refine wpAny_bind (wpAny_lookBehind G' (by show Data.pastItsLine (.dict es'.toArray n') = none; exact pastItsLine_dict (by rw [List.size_toArray, sizeLine_eq]; omega)) ?_)
  exact wpAny_pure (h _ U1 U2)
theorem exc_set1 {x t : Addr} {news : List (Addr × Obj)} {Q : Unit → Shared → Prop} (F : Fr h₀ L s.heap m) (X₀ : (Mine.hd.heap_1 w.params).In h₀) (N : News h₀ L s.heap ((x, excObj t none) :: news)) (hne : ∀ p ∈ news, p.1 ≠ x)
    (ht : takerIn (Mine.hd.heap_1 w.params) 52 name = some none)
    (h : ∀ D h' tk hsh u, Fr h₀ L h' m → News h₀ L h' ((x, excObj t (some D)) :: (D, dictOf [⟨hsh, .str name u, v⟩] 1) :: news) → x ≠ D → (∀ p ∈ news, p.1 ≠ D) → Q () { s with heap := h', toks := tk }) :
    wpAny (model prog w) A (setAttr (.ref x) name v) Q E s := by
  have X := X₀.keeps F.keep
  have hx := (N _ (.head _)).1
  have I : InstAt s.heap x (excObj t none) 52 none := ⟨hx, rfl, rfl, trivial⟩
  obtain ⟨cd, hc, hdi, hm⟩ := cls52 (w := w)
  refine set_plain X I set52 (exc_osa (s := { s with toks := s.toks + 1 }) X I ht fun b => ?_)
  unfold Builtin.ObjectAttr.storeInOwnDict
  refine wpAny_bind (wpAny_pure ?_)
  refine wpAny_bind ?_
  unfold Builtin.ObjectAttr.ownDictForStores instanceDict
  refine wpAny_bind (wpAny_loadPart hx ?_)
  refine wpAny_bind ((looks_clsIn X hc).here (s := { s with toks := s.toks + 1 }) ?_)
  dsimp only
  rw [hdi]
  have hlt := Heap.lt_size hx
  have hx₁ : (s.heap.push (dictOf [] 0)).get? x = some (excObj t none) := Heap.get?_push_of_some _ hx
  have F₁ := F.push (dictOf [] 0)
  have N₁ : News h₀ L (s.heap.push (dictOf [] 0)) ((s.heap.objs.size, dictOf [] 0) :: (x, excObj t none) :: news) := News.push F N (dictOf [] 0)
  obtain ⟨F₂, N₂⟩ := news_upd (pre := [(s.heap.objs.size, dictOf [] 0)]) (d := x) (post := news) (o := excObj t none) (o' := excObj t (some s.heap.objs.size)) (f := fun o => { o with dict := some s.heap.objs.size }) F₁ N₁ (by intro p hp; rw [List.mem_singleton.mp hp]; exact Nat.ne_of_gt hlt) hne rfl rfl
  have hnD : ∀ p ∈ news, p.1 ≠ s.heap.objs.size := fun p hp => Nat.ne_of_lt (Heap.lt_size (N p (List.mem_cons_of_mem _ hp)).1)
  refine wpAny_bind (wpAny_alloc (wpAny_bind (wpAny_update hx₁ ?_)))
  refine wpAny_pure ?_
  refine exc_put (D := s.heap.objs.size) (pre := []) (es := []) (n := 0) (es' := [⟨PyData.keyHash w.params name, .str name (s.toks + 1), v⟩]) (n' := 1) F₂ N₂ (fun p hp => nomatch hp) (fun p hp => ?_) rfl rfl (by simp) fun h' F' N' => ?_
  · rcases List.mem_cons.mp hp with rfl | hp
    · exact Nat.ne_of_lt hlt
    · exact hnD p hp
  · have N'' : News h₀ L h' ((x, excObj t (some s.heap.objs.size)) :: (s.heap.objs.size, dictOf [⟨PyData.keyHash w.params name, .str name (s.toks + 1), v⟩] 1) :: news) := fun p hp => N' p ?_
    exact h _ h' _ _ _ F' N'' (Nat.ne_of_lt hlt) hnD
    rcases List.mem_cons.mp hp with rfl | hp
    · exact .tail _ (.head _)
    · rcases List.mem_cons.mp hp with rfl | hp
      · exact .head _
      · exact .tail _ (.tail _ hp)
theorem exc_set2 {x t D : Addr} {es es' : List DictEntry} {n n' : Nat} {news : List (Addr × Obj)} {Q : Unit → Shared → Prop} (F : Fr h₀ L s.heap m) (X₀ : (Mine.hd.heap_1 w.params).In h₀) (N : News h₀ L s.heap ((x, excObj t (some D)) :: (D, dictOf es n) :: news)) (hxD : x ≠ D) (hne : ∀ p ∈ news, p.1 ≠ D)
    (ht : takerIn (Mine.hd.heap_1 w.params) 52 name = some none) (hl : (getL name es).isSome = true) (e : ∀ hsh u, (putL name hsh (.str name u) v es, putN name es n) = (es' ++ [⟨hsh, .str name u, v⟩], n')) (hz : es'.length ≤ 900)
    (h : ∀ h' tk hsh u, Fr h₀ L h' m → News h₀ L h' ((x, excObj t (some D)) :: (D, dictOf (es' ++ [⟨hsh, .str name u, v⟩]) n') :: news) → Q () { s with heap := h', toks := tk }) :
    wpAny (model prog w) A (setAttr (.ref x) name v) Q E s := by
  have X := X₀.keeps F.keep
  have hx := (N _ (.head _)).1
  have hD := (N _ (.tail _ (.head _))).1
  have I : InstAt s.heap x (excObj t (some D)) 52 (some (dictOf es n)) := ⟨hx, rfl, rfl, hD⟩
  obtain ⟨cd, hc, hdi, hm⟩ := cls52 (w := w)
  refine set_plain X I set52 (exc_osa (s := { s with toks := s.toks + 1 }) X I ht fun b => ?_)
  unfold Builtin.ObjectAttr.storeInOwnDict
  refine wpAny_bind (wpAny_pure ?_)
  refine wpAny_bind ?_
  unfold Builtin.ObjectAttr.ownDictForStores instanceDict
  refine wpAny_bind (wpAny_loadPart hx ?_)
  refine wpAny_bind ((looks_clsIn X hc).here (s := { s with toks := s.toks + 1 }) ?_)
  dsimp only
  rw [hdi]
  refine wpAny_pure ?_
  exact exc_put (D := D) (pre := [(x, excObj t (some D))]) F N (by intro p hp; rw [List.mem_singleton.mp hp]; exact hxD) hne hl (e _ _) (by rw [List.length_append]; simp; omega) fun h' F' N' => h h' _ _ _ F' N'
/-- the load -/
theorem exc_get {x D : Addr} {oe : Obj} {es : List DictEntry} {n : Nat} {news : List (Addr × Obj)} {expr : Bool} {Q : Value → Shared → Prop} (F : Fr h₀ L s.heap m) (X₀ : (Mine.hd.heap_1 w.params).In h₀) (N : News h₀ L s.heap news) (hx : (x, oe) ∈ news) (hc : oe.cls = .ref 52) (hd : oe.dict = some D) (hn : notCls oe = true) (hD : (D, dictOf es n) ∈ news)
    (ha : findIn (Mine.hd.heap_1 w.params) (.ref 52) name = some none) (hl : getL name es = some (some v)) (hv : handedIn v = true) (h : Q v { s with toks := s.toks + 1 }) :
    wpAny (model prog w) A (getAttr (.ref x) name expr) Q E s := by
  have X := X₀.keeps F.keep
  have I : InstAt s.heap x oe 52 (some (dictOf es n)) := ⟨(N _ hx).1, hc, hn, by rw [hd]; exact (N _ hD).1⟩
  obtain ⟨cd, hcd, hdi, hm⟩ := cls52 (w := w)
  have FB := PySem.F.attr_Exception
  have hx1 : (onTheHeap (Value.ref 52) && Value.builtin "BaseException.__getattribute__" == Value.builtin "object.__getattribute__") = false := by decide +kernel
  have hx0 : (expr && onTheHeap (Value.builtin "BaseException.__getattribute__")) = false := by cases expr <;> rfl
  have sub : Looks (model prog w) s.heap (isInstance (.ref x) (.type "BaseException")) true := I.type.andThen (looks_mroIn X (by unfold mroIn; rw [hcd, Option.bind_some, hm]; rfl))
  have L0 := I.type (M := model prog w)
  have L1 := looks_find (M := model prog w) X I (findObj_own (by unfold hasDictIn; rw [hcd]; exact hdi) ha rfl hl)
  unfold getAttr getAttrBy
  refine wpAny_bind (wpAny_mkText (wpAny_holding (wpAny_bind (L0.here (s := { s with toks := s.toks + 1 }) (wpAny_bind ((looks_findIn X ga52).here (s := { s with toks := s.toks + 1 }) ?_))))))
  dsimp only
  rw [hx1]
  unfold getAttrByItsOwn hookBefore
  refine wpAny_bind ((looks_findIn X gat52).here (s := { s with toks := s.toks + 1 }) ?_)
  refine wpAny_bind (wpAny_attempt (wpAny_holding ?_))
  unfold callGetattribute
  rw [hx0]
  unfold boundAndCalled
  rw [FB.ga.bind]
  refine wpAny_bind (wpAny_pure (wpAny_call (codeAny_call_builtin FB.ga.plain PySem.F.entry_bexc_ga
    (@check_slot (model prog w) _ _ { s with toks := s.toks + 1 } "BaseException.__getattribute__" "BaseException" "__getattribute__" (.ref x) [.str name s.toks] [] _ (by decide +kernel) (by decide +kernel) sub (PySem.F.args_bexc_ga _ _) ?_))))
  unfold Builtin.«object.__getattribute__»
  refine wpAny_bind (wpAny_pure (wpAny_bind (wpAny_pure (wpAny_bind (L0.here (s := { s with toks := s.toks + 1 }) (wpAny_bind (L1.here (s := { s with toks := s.toks + 1 }) ?_)))))))
  refine wpAny_pure ?_
  show wpAny _ _ (handedOut v) _ _ _
  rw [handedOut_of hv]
  exact wpAny_pure h
end


section
variable {prog : Program} {w : World} {A : Around} {E : Value → Shared → Prop} {s : Shared} {R : Result → Shared → Prop} {h₀ : Heap} {L : Addr} {m : Str → Option Value} {v : Value}
theorem exc_init {x t : Addr} {news : List (Addr × Obj)} {Q : Value → Shared → Prop} (F : Fr h₀ L s.heap m) (X₀ : (Mine.hd.heap_1 w.params).In h₀) (N : News h₀ L s.heap ((x, excObj t none) :: news)) (hne : ∀ p ∈ news, p.1 ≠ x)
    (h : ∀ D h', Fr h₀ L h' m → News h₀ L h' ((x, excObj D none) :: (D, { cls := .type "tuple", data := .seq #[v] }) :: news) → x ≠ D → (∀ p ∈ news, p.1 ≠ D) → Q .none { s with heap := h' }) :
    wpAny (model prog w) A (call (.builtin "Exception.__init__") [.ref x, v]) Q E s := by
  have X := X₀.keeps F.keep
  have hx := (N _ (.head _)).1
  have I : InstAt s.heap x (excObj t none) 52 none := ⟨hx, rfl, rfl, trivial⟩
  obtain ⟨cd, hcd, hdi, hm⟩ := cls52 (w := w)
  have EF := PySem.F.excCall_Exception
  have sub : Looks (model prog w) s.heap (isInstance (.ref x) (.type "Exception"))  true := I.type.andThen (looks_mroIn X (by unfold mroIn; rw [hcd, Option.bind_some, hm]; rfl))
  refine wpAny_call ?_
  refine codeAny_call_builtin EF.init.plain EF.initEntry ?_
  have hstar := EF.noStar
  simp only [checkBuiltinCall, EF.initKind, EF.initSplit, EF.initRow]
  refine wpAny_bind (sub.here ?_)
  obtain ⟨nm, q, bs, hdct, sn, sub', ab, col, dd, k0, k1, k2, k3, k5, hC⟩ := at52 X
  repeat (first | with_reducible refine wpAny_load hC ?_ | with_reducible refine wpAny_loadPart hC ?_ | wp_step)
  have F₁ := F.push { cls := .type "tuple", data := .seq #[v] }
  have N₁ := News.push F N { cls := .type "tuple", data := .seq #[v] }
  obtain ⟨F₂, N₂⟩ := news_upd (pre := [(s.heap.objs.size, { cls := .type "tuple", data := .seq #[v] })]) (d := x) (post := news) (o := excObj t none) (o' := excObj s.heap.objs.size none) (f := Obj.mapFields (·.setIfInBounds 0 (Value.ref s.heap.objs.size))) F₁ N₁
    (by intro p hp; rw [List.mem_singleton.mp hp]; exact Nat.ne_of_gt (Heap.lt_size hx)) hne rfl rfl
  have N₃ : News h₀ L ((s.heap.push { cls := .type "tuple", data := .seq #[v] }).update x (Obj.mapFields (·.setIfInBounds 0 (Value.ref s.heap.objs.size)))) ((x, excObj s.heap.objs.size none) :: (s.heap.objs.size, { cls := .type "tuple", data := .seq #[v] }) :: news) := fun p hp => N₂ p (by
    rcases List.mem_cons.mp hp with rfl | hp
    · exact .tail _ (.head _)
    · rcases List.mem_cons.mp hp with rfl | hp
      · exact .head _
      · exact .tail _ (.tail _ hp))
  exact h _ _ F₂ N₃ (Nat.ne_of_lt (Heap.lt_size hx)) (fun p hp => Nat.ne_of_lt (Heap.lt_size (N p (.tail _ hp)).1))
end

theorem apart_cons {D x : Addr} {o : Obj} {news : List (Addr × Obj)} (h1 : D ≠ x) (h2 : ∀ p ∈ news, p.1 ≠ x) : ∀ p ∈ (D, o) :: news, p.1 ≠ x := fun p hp => by
  rcases List.mem_cons.mp hp with rfl | hp
  · exact h1
  · exact h2 p hp
theorem meta_Exc : typeOf (.type "Exception") = pure (.type "type") := by kernel_rfl
local macro_rules | `(tactic| walk_at "getMethod type:Exception") => `(tactic| (k_dflt (refine' method_type ?F ?X ?m (by decide +kernel) ?e ?h ?_; (case F => k_asm); (case X => k_asm); (case m => exact meta_Exc); (case e => k_is); (case h => k_handed))))
local macro_rules | `(tactic| walk_at "call builtin:Exception.__init__") => `(tactic| ((with_reducible rename News _ _ _ _ => N'); (with_reducible rename Fr _ _ _ _ => F'); (refine exc_init F' (by assumption) N' (by assumption) ?_); (intro D9 h9 F9 N9 hx9 hn9)))
local macro_rules | `(tactic| walk_at "setAttr ref") => `(tactic| ((with_reducible rename News _ _ _ _ => N'); (with_reducible rename Fr _ _ _ _ => F'); (refine exc_set1 F' (by assumption) N' (apart_cons (Ne.symm (by assumption)) (by assumption)) (by k_is) ?_); (intro D9 h9 k9 s9 u9 F9 N9 hx9 hn9)))
local macro_rules | `(tactic| walk_at "setAttr ref") => `(tactic| ((with_reducible rename News _ _ _ _ => N'); (with_reducible rename Fr _ _ _ _ => F'); (refine exc_set2 (es' := [_]) F' (by assumption) N' (by assumption) (by assumption) (by k_is) (by exact rfl) (by intro _ _; exact rfl) (Nat.le_of_ble_eq_true rfl) ?_); (intro h9 k9 s9 u9 F9 N9)))

theorem c_mintinit {w : World} {mean : ExcName → Option Value} {mg mb : Str → Option Value} {x t : Addr} {what : Str} {tx : Tok} {dp un : Nat} {gd : Option (List Code)} {cn : Str} {cs : Scope} {a : Addr} {ccd : Value} {cl : List (Str × Addr)} {outer : List Env} {A₀ : Around} {base h₀ : Heap} {L : Addr} {m : Str → Option Value} {s : Shared} {Q E : Value → Shared → Prop} {news : List (Addr × Obj)}
    (BL : Below A₀ base outer h₀) (F : Fr h₀ L s.heap m) (X : (Mine.hd.heap_1 w.params).In h₀) (N : News h₀ L s.heap ((x, excObj t none) :: news)) (hne : ∀ p ∈ news, p.1 ≠ x) (TP : Top Mine.hd.view_39 LO mean mg mb h₀) (hk : cs.kind = .function)
    (hd : dp + 3 < recursionLimit) (hu : un + 24 < cLine)
    (hret : ∀ D t1 hs1 u1 hs2 u2 h' tk', Fr h₀ L h' m → News h₀ L h' ((x, excObj t1 (some D)) :: (D, dictOf [⟨hs1, .str (Str.ofString "what") u1, .str what tx⟩, ⟨hs2, .str (Str.ofString "at") u2, .none⟩] 2) :: (t1, { cls := .type "tuple", data := .seq #[.str what tx] }) :: news) → Q .none { s with heap := h', toks := tk' }) :
    wpAny (model PySem.Challenge.rw_pb0415_01.row.prog w) (ktrTop dp un gd cn cs L a ccd cl outer) (call (.ref 29) [.ref x, .str what tx]) Q E s := by
  refine wpAny_call ?_
  k_dflt (refine' code_def ?k1 ?k2 ?k3 ?k4 ?k5 ?kA ?kF ?kK ?k6 ?k7 ?k8 ?k9 ?kB ?_ ?c2 ?c3 ?c4 ?c5; (case kA => exact rfl); (case kF => exact rfl); (case kK => assumption); (case k1 => k_asm); (case k2 => k_asm); (case k3 => k_asm); (case k4 => k_asm); (case k5 => k_asm); (case k6 => k_is); (case k7 => k_is); (case k8 => ktr_room); (case k9 => exact binds_K (by k_in) rfl (by k_is) rfl rfl rfl); (case c5 => decide); (case kB => exact locs rfl); (case c2 => exact rfl); (case c3 => exact rfl); (case c4 => exact rfl); k_whole; intro g' L' h' FG' F' N' B' X' T'; (try dsimp only); (try k_fold))
  k_steps
  with_reducible rename News _ _ _ _ => N9
  with_reducible rename Fr _ _ _ _ => F9
  exact hret _ _ _ _ _ _ _ _ F9 N9


theorem under_tc {dp un : Nat} {gd : Option (List Code)} {cn : Str} {cs : Scope} {L a : Addr} {ccd : Value} {cl : List (Str × Addr)} {outer : List Env} {C : Addr} {rest : List Value} :
    (ktrTop dp un gd cn cs L a ccd cl outer).under (.builtin "type.__call__" ⟨.ref C :: rest, []⟩) = ktrTop (dp + 1) (un + 1) gd cn cs L a ccd cl outer := rfl
theorem c_mach {w : World} {mean : ExcName → Option Value} {mg mb : Str → Option Value} {what : Str} {tx : Tok} {dp un : Nat} {gd : Option (List Code)} {cn : Str} {cs : Scope} {a : Addr} {ccd : Value} {cl : List (Str × Addr)} {outer : List Env} {A₀ : Around} {base h₀ : Heap} {L : Addr} {m : Str → Option Value} {s : Shared} {Q E : Value → Shared → Prop} {news : List (Addr × Obj)}
    (BL : Below A₀ base outer h₀) (F : Fr h₀ L s.heap m) (X : (Mine.hd.heap_1 w.params).In h₀) (N : News h₀ L s.heap news) (TP : Top Mine.hd.view_39 LO mean mg mb h₀) (hk : cs.kind = .function)
    (hd : dp + 5 < recursionLimit) (hu : un + 40 < cLine)
    (hret : ∀ x t D hs1 u1 hs2 u2 h' tk', Fr h₀ L h' m → News h₀ L h' ((x, excObj t (some D)) :: (D, dictOf [⟨hs1, .str (Str.ofString "what") u1, .str what tx⟩, ⟨hs2, .str (Str.ofString "at") u2, .none⟩] 2) :: (t, { cls := .type "tuple", data := .seq #[.str what tx] }) :: news) → (∀ p ∈ news, p.1 ≠ x) → x ≠ D → x ≠ t → Q (.ref x) { s with heap := h', toks := tk' }) :
    wpAny (model PySem.Challenge.rw_pb0415_01.row.prog w) (ktrTop dp un gd cn cs L a ccd cl outer) (call (.ref 52) [.str what tx]) Q E s := by
  obtain ⟨h, g, d, tk, os⟩ := s
  refine exc_call (X.keeps F.keep) (by size_fits) ?_
  rw [under_tc]
  have N₁ := News.push (F.push { cls := .type "tuple", data := .seq [Value.str what tx].toArray }) (News.push F N { cls := .type "tuple", data := .seq [Value.str what tx].toArray }) (excObj h.objs.size none)
  rw [Heap.size_push] at N₁
  have hne : ∀ p ∈ news, p.1 ≠ h.objs.size + 1 := fun p hp => by have := Heap.lt_size (N p hp).1; exact Nat.ne_of_lt (Nat.lt_succ_of_lt this)
  refine c_mintinit BL ((F.push _).push _) X (news := news) (t := h.objs.size) (fun p hp => N₁ p ?_) hne TP hk (by omega) (by omega) fun D t1 hs1 u1 hs2 u2 h' tk' F' N' => ⟨rfl, ?_⟩
  · rcases List.mem_cons.mp hp with rfl | hp
    · exact .head _
    · exact .tail _ (.tail _ hp)
  · refine hret _ _ _ _ _ _ _ h' tk' F' N' hne ?_ ?_
    · intro e
      have e1 := (N' _ (.head _)).1
      have e2 := (N' _ (.tail _ (.head _))).1
      rw [← e] at e2
      rw [e2] at e1
      exact nomatch (congrArg Obj.cls (Option.some.inj e1))
    · intro e
      have e1 := (N' _ (.head _)).1
      have e2 := (N' _ (.tail _ (.tail _ (.head _)))).1
      rw [← e] at e2
      rw [e2] at e1
      exact nomatch (congrArg Obj.cls (Option.some.inj e1))
section
variable {prog : Program} {w : World} {A : Around} {E : Value → Shared → Prop} {s : Shared} {env : Env}
theorem exc_raiseStmt {M : Model} {x : Sem Value} {Q : Flow → Shared → Prop} (hh : A.handled = none)
    (h : wpAny M A x (fun v s₁ => ∃ e t D, v = .ref e ∧ (Mine.hd.heap_1 w.params).In s₁.heap ∧ s₁.heap.get? e = some (excObj t (some D)) ∧ E (.ref e) s₁) E s) :
    wpAny M A (raiseStmt env (some x) none) Q E s := by
  have hcB : (Value.ref 52 :: [.ref 39, .type "Exception", .type "BaseException", .type "object"]).contains (.type "BaseException") = true := by decide +kernel
  unfold raiseStmt
  refine wpAny_bind (wpAny_mono h (fun v s₁ h₁ => ?_) fun _ _ x => x)
  obtain ⟨e, t, D, rfl, X, he, hE⟩ := h₁
  obtain ⟨hp, g, d, tk, os⟩ := s₁
  obtain ⟨nm, q, bs, hdct, sn, sub', ab, col, dd, k0, k1, k2, k3, k5, hC⟩ := at52 X
  repeat (first | with_reducible refine wpAny_loadPart_at he ?_ | with_reducible refine wpAny_loadPart_at hC ?_ | (with_reducible refine wpAny_isSubtype_exc hC ?_; rw [hcB]) | wp_step)
  exact wpAny_raiseNew_none hh hE
noncomputable def RaiseX (w : World) (E : Value → Shared → Prop) (v : Value) (s₁ : Shared) : Prop := ∃ e t D, v = .ref e ∧ (Mine.hd.heap_1 w.params).In s₁.heap ∧ s₁.heap.get? e = some (excObj t (some D)) ∧ E (.ref e) s₁
theorem exc_raise {ex : Expr} {pos : Pos} {Q : Flow → Shared → Prop} (hh : A.handled = none)
    (h : wpAny (model prog w) A (eval ex env) (RaiseX w E) E s) :
    wpAny (model prog w) A (exec (.Raise (some ex) none pos) env) Q E s := by
  rw [arm_exec_Raise]
  exact wpAny_bind (wpAny_standAt (exc_raiseStmt hh (wpAny_bind (wpAny_mono h (fun v s₃ h₃ => wpAny_bind (wpAny_standAt (wpAny_pure h₃))) fun _ _ x => x))))
end


/-- an exception of the program's in flight, with its dict -/
noncomputable def RaisedX (base G : Heap) (l : List Env) (e D : Addr) (news : List (Addr × Obj)) (h : Heap) : Prop :=
  ∃ B a0 oe, base.StaysIn B ∧ (∀ b o, G.get? b = some o → b ∉ l.filterMap (·.frame) → B.get? b = some o) ∧ (∀ q ∈ news, B.get? q.1 = some q.2 ∧ G.get? q.1 = none) ∧ Heap.FlyingW B l e (.ref 52) a0 h ∧ h.get? e = some oe ∧ oe.dict = some D
section
variable {M : Model} {A : Around} {E : Value → Shared → Prop} {s : Shared}
/-- a station of the flight keeps what the object is -/
theorem with_dict {α : Type} {t : Sem α} {P : α → Heap → Prop} {Q : α → Shared → Prop} {e D : Addr} {oe : Obj} (T : Tame t) (he : s.heap.get? e = some oe) (hd : oe.dict = some D)
    (lib : ∀ {E' : Value → Shared → Prop}, wpAny M A t (fun a s' => ∃ h', s' = { s with heap := h' } ∧ P a h') E' s) (k : ∀ a h' oe', P a h' → h'.get? e = some oe' → oe'.dict = some D → Q a { s with heap := h' }) : wpAny M A t Q E s := by
  refine wpAny_mono (tame_any T (lib (E' := E))) (fun a s' hs => ?_) fun _ _ x => x.1
  obtain ⟨⟨h', rfl, hP⟩, hDK⟩ := hs
  obtain ⟨oe', he', hd'⟩ := hDK e oe he
  exact k a h' oe' hP he' (hd'.trans hd)
variable {base g : Heap} {outer : List Env} {L a e t D : Addr} {m : Str → Option Value} {name : Str} {scope : Scope} {cd : Value} {Q : Unit → Shared → Prop} {news : List (Addr × Obj)}
theorem exc_leaves (K : Below A base outer g) (F : Fr g L s.heap m) (N : News g L s.heap ((e, excObj t (some D)) :: news)) (hne : ∀ p ∈ news, p.1 ≠ e)
    (hQ : ∀ h', RaisedX base g outer e D news h' → g.UpToSlots h' → Q () { s with heap := h' }) (hk : scope.kind = .function := by rfl) :
    wpAny M (A.deeper (envOf name scope L a cd)) (leaving (envOf name scope L a cd) (.ref e)) Q E s := by
  have K' := K.push (name := name) (a := a) (cd := cd) F hk
  have Ne := N _ (.head _)
  have hin : ∀ env ∈ (envOf name scope L a cd :: outer), ∀ b, env.frame = some b → b ∈ e :: (envOf name scope L a cd :: outer).filterMap (·.frame) := fun env he b hb => .tail _ (List.mem_filterMap.mpr ⟨env, he, hb⟩)
  have hgn : ∀ b, g.get? b = none → base.get? b = none := fun b hb => fresh_of_stays K.stays hb
  have st : base.StaysIn (hideAll s.heap (e :: (envOf name scope L a cd :: outer).filterMap (·.frame))) := fun b o q => hideAll_get _ (K'.stays b o q) fun hm => by
    rcases List.mem_cons.mp hm with rfl | hm
    · rw [hgn _ Ne.2.2] at q; cases q
    · rw [(K'.frames.mem hm).1] at q; cases q
  have sg : ∀ b o, g.get? b = some o → b ∉ outer.filterMap (·.frame) → (hideAll s.heap (e :: (envOf name scope L a cd :: outer).filterMap (·.frame))).get? b = some o := fun b o q nm => hideAll_get _ (F.keep b o q) fun hm => by
    rcases List.mem_cons.mp hm with rfl | hm
    · rw [Ne.2.2] at q; cases q
    · rcases kts_mem hm with z | z
      · rw [z, kts_self F] at q; cases q
      · exact nm z
  have hl : ∀ q ∈ news, (hideAll s.heap (e :: (envOf name scope L a cd :: outer).filterMap (·.frame))).get? q.1 = some q.2 ∧ g.get? q.1 = none := fun q hq => by
    have Nq := N q (.tail _ hq)
    refine ⟨hideAll_get _ Nq.1 fun hm => ?_, Nq.2.2⟩
    rcases List.mem_cons.mp hm with z | hm
    · exact hne q hq z
    · rcases kts_mem hm with z | z
      · exact Nq.2.1 z
      · obtain ⟨o, ho, _⟩ := (K.frames.mem z).2
        rw [Nq.2.2] at ho; cases ho
  have hen : (hideAll s.heap (e :: (envOf name scope L a cd :: outer).filterMap (·.frame))).get? e = none := hideAll_none _ (.head _)
  refine with_dict (P := fun _ h' => Heap.LeftW (hideAll s.heap (e :: (envOf name scope L a cd :: outer).filterMap (·.frame))) (envOf name scope L a cd :: outer) e (.ref 52) (.ref t) s.heap h') (tame_leaving _ _) Ne.1 rfl
    (fun {E'} => wpAny_leaving_firstW (a0 := .ref t) K'.stack (funFrames_hide K'.frames hin) rfl Ne.1 (fun b o q => of_hideAll _ q) hen rfl rfl rfl fun h' hL => ⟨h', rfl, hL⟩) fun _ h' oe' hL he' hd' => ?_
  obtain ⟨x1, ⟨_, _, x2⟩, x3, x4⟩ := hL
  exact hQ h' ⟨_, _, oe', st, sg, hl, ⟨x1, hen, x2, x3⟩, he', hd'⟩ ((Heap.UpToSlots.of_keeps F.keep).trans x4)
end
section
variable {prog : Program} {w : World} {A₀ : Around} {E : Value → Shared → Prop} {s' : Shared} {base g G : Heap} {outer : List Env} {L a e D : Addr} {m : Str → Option Value} {name : Str} {scope : Scope} {cd : Value}
  {n : Str} {b₀ : Stmt} {suite : List Stmt} {pos np : Pos} {rest : List ExceptHandler} {Q : Flow → Shared → Prop} {news : List (Addr × Obj)} {KF : Frag} {p : Program} {loose : List Str} {mean : ExcName → Option Value} {mg mb : Str → Option Value} {x : Str}
theorem exc_caught (R : RaisedX base G (envOf name scope L a cd :: outer) e D news s'.heap) (F : Fr g L G m) (K : Below A₀ base outer g) (hsm : G.UpToSlots s'.heap) (XB : KF.In base) (TB : Top p loose mean mg mb base) (Dc : KtsDicts (outer.filterMap (·.frame)) g)
    (ex : nsIn KF mainGlobals x = some (some (.ref 52))) (q : ktsIn KF 52 "BaseException" = true)
    (k : ∀ h' g' oe tk, KtsTurn (outer.filterMap (·.frame)) g g' → Fr g' L h' (fun y => if y = n then some (.ref e) else m y) → News g' L h' ((e, oe) :: news) → oe.cls = .ref 52 → oe.dict = some D → notCls oe = true → Below A₀ base outer g' → KF.In g' → Top p loose mean mg mb g' → KtsDicts (outer.filterMap (·.frame)) g' →
      wpAny (model prog w) ((A₀.deeper (envOf name scope L a cd)).mark (some (.ref e))) (execs (b₀ :: suite) (envOf name scope L a cd))
        (fun f s₄ => wpAny (model prog w) (A₀.deeper (envOf name scope L a cd)) (do bindName (envOf name scope L a cd) n .none; unbindBehindTheSuite (envOf name scope L a cd) n pos) (fun _ s₅ => Q f s₅) E s₄)
        (AsSuiteRaised (model prog w) ((A₀.deeper (envOf name scope L a cd)).mark (some (.ref e))) (envOf name scope L a cd) n pos (notedBy (model prog w) ((A₀.deeper (envOf name scope L a cd)).mark (some (.ref e))) (envOf name scope L a cd) (cameBackBy (model prog w) (A₀.deeper (envOf name scope L a cd)) (envOf name scope L a cd) E)))
        { s' with heap := h', toks := tk })
    (hk : scope.kind = .function := by rfl) (hlo : (envOf name scope L a cd).kindOf n = some .local := by rfl) (hx : (envOf name scope L a cd).kindOf x = some .globalImplicit := by rfl) (hdb : (x == ("__debug__" : Str)) = false := by decide) :
    wpAny (model prog w) (A₀.deeper (envOf name scope L a cd)) (noteFrame (.ref e) (envOf name scope L a cd))
      (fun _ s₂ => wpAny (model prog w) (A₀.deeper (envOf name scope L a cd)) (setFlight (.ref e) none) (fun _ s₃ =>
        wpAny (model prog w) (A₀.deeper (envOf name scope L a cd)) (handleBy (.ref e) (envOf name scope L a cd) (.ExceptHandler (some (.Name x np)) (some n) (b₀ :: suite) pos :: rest)) Q E s₃) E s₂) E s' := by
  obtain ⟨B, a0, oe, hB, hBG, hl, hfl, he, hd⟩ := R
  have hL : B.get? L = none := by
    obtain ⟨_, ⟨L', _, hf, hn', _⟩, _⟩ := hfl.2.2.1
    obtain rfl : L = L' := Option.some.inj hf
    exact hn'
  refine with_dict (P := fun _ h' => Heap.HeldW B (envOf name scope L a cd :: outer) e (.ref 52) a0 L h' ∧ s'.heap.UpToSlots h') (tame_noteFrame _ _) he hd
    (fun {E'} => wpAny_looks_onW (Around.frames_deeper K.stack) rfl hfl fun h' a b => ⟨h', rfl, a, b⟩) fun _ h₄ oe₄ hP₄ he₄ hd₄ => ?_
  refine with_dict (s := { s' with heap := h₄ }) (P := fun _ h' => Heap.FlyingW B (envOf name scope L a cd :: outer) e (.ref 52) a0 h' ∧ h₄.UpToSlots h') (tame_setFlight _ _) he₄ hd₄
    (fun {E'} => wpAny_landsW (s := { s' with heap := h₄ }) hP₄.1 fun h' a b => ⟨h', rfl, a, b⟩) fun _ h₅ oe₅ hP₅ he₅ hd₅ => ?_
  obtain ⟨fl₅, sm₅⟩ := hP₅
  have sm := hsm.trans (hP₄.2.trans sm₅)
  obtain ⟨g₅, T₅, F₅, K₅⟩ := kts_ground K F hBG fl₅.1 sm
  have X₅ : KF.In g₅ := XB.keeps K₅.stays
  have P₅ : TopRead p loose mg mb g₅ := topRead_of (TB.keeps K₅.stays)
  obtain ⟨ob, hob, hobc⟩ := fl₅.there
  obtain ⟨nm, q', N, bs, bm, hdct, sn, sub, ab, col, dd, k0, k1, k2, k3, k5, newId, hC, hbase, hbT⟩ := kts_cls X₅ q
  have hC₅ := F₅.keep _ _ hC
  refine wpAny_handleBy_cons (codeAny_handlers_test (name_K F₅ X₅ P₅ ex ?_ hk hx hdb)) (by intro q; cases q)
  refine wpAny_excMatches_sub_self hC₅ hob hobc hbase (codeAny_handlers_suite_as ?_)
  refine with_dict (s := { s' with heap := h₅ }) (P := fun _ h' => Heap.FlyingW B (envOf name scope L a cd :: outer) e (.ref 52) a0 h' ∧ h₅.UpToSlots h') (tame_setFlight _ _) he₅ hd₅
    (fun {E'} => lands_againW (s := { s' with heap := h₅ }) fl₅ fun h' a b => ⟨h', rfl, a, b⟩) fun _ h₆ oe₆ hP₆ he₆ hd₆ => ?_
  obtain ⟨fl₆, sm₆⟩ := hP₆
  have smA := sm.trans sm₆
  obtain ⟨g₆, T₆, F₆, K₆⟩ := kts_ground K F hBG fl₆.1 smA
  obtain ⟨o₆, ws, ho₆, hoc, hod, _⟩ := fl₆.first
  obtain rfl : oe₆ = o₆ := Option.some.inj (he₆.symm.trans ho₆)
  have hno : ∀ es j, oe₆.data ≠ .dict es j := fun es j z => by rw [hod] at z; cases z
  have ne₆ : g₆.get? e = none := T₆.none_ _ (kts_fresh F hBG fl₆.2.1 fun o ho hm => by
    obtain ⟨o', es, j, ho', hdt⟩ := Dc _ hm
    rw [ho] at ho'
    cases ho'
    obtain ⟨sl, hs⟩ := smA _ _ (F.keep _ _ ho) (fun vs z => by rw [hdt] at z; cases z)
    rw [he₆] at hs
    have hs := Option.some.inj hs
    exact hno es j (by rw [hs]; exact hdt))
  have N₆ : News g₆ L h₆ ((e, oe₆) :: news) := fun r hr => by
    rcases List.mem_cons.mp hr with rfl | hr
    · refine ⟨he₆, fun z => ?_, ne₆⟩
      obtain ⟨oL, es, ep, hoL, hdL, _⟩ := F₆.ns
      have z' : e = L := z
      subst z'
      rw [he₆] at hoL
      cases hoL
      exact hno _ _ hdL
    · exact ⟨fl₆.1 _ _ (hl r hr).1, (fun z => by have := (hl r hr).1; rw [z, hL] at this; cases this), T₆.none_ _ (kts_none F.keep (hl r hr).2)⟩
  refine stN F₆ N₆ (fun h₇ F₇ N₇ => ?_) hk hlo
  exact k h₇ g₆ _ _ T₆ F₇ N₇ hoc hd₆ (by unfold notCls; rw [hod]) K₆ (XB.keeps K₆.stays) (TB.keeps K₆.stays) (Dc.turn T₆)
end

section
set_option genSizeOf false
set_option genInjectivity false
noncomputable abbrev Led := List (Addr × Obj)
/-- pure values: bits, sgn, txt are ints and texts whose signs are known -/
inductive PV where
  | int (x : Int)
  | bits (l : List Bool)
  | sgn (b : Bool)
  | str (x : Str)
  | txt (l : List Bool)
  | bool (b : Bool)
  | none
  | pen
  | tup (l : List PV)
  | lst (l : List PV)
  | ilst (l : List Int)
noncomputable def PV.toI : PV → Option Int
  | .int x => some x
  | .bits l => some (V l)
  | .sgn b => some (B b)
  | _ => .none
noncomputable def PV.toS : PV → Option Str
  | .str x => some x
  | .txt l => some (T l)
  | _ => .none
noncomputable def PV.sm : PV → Prop
  | .txt l => l.length ≤ 5000
  | _ => True
mutual
inductive Rep (P : Option Addr) (a : Led) : Value → PV → Prop
  | int {p x t} (h : p.toI = some x) : Rep P a (.int x t) p
  | str {p x t} (h : p.toS = some x) (b : p.sm) : Rep P a (.str x t) p
  | bool {b} : Rep P a (.bool b) (.bool b)
  | none : Rep P a .none .none
  | pen {D} (h : P = some D) : Rep P a (.ref D) .pen
  | tup {D vs ps k} (hp : P ≠ some D) (h : (D, ({ cls := .type "tuple", data := .seq ⟨vs⟩ k } : Obj)) ∈ a) (r : Reps P a vs ps) : Rep P a (.ref D) (.tup ps)
  | lst {D vs ps k} (hp : P ≠ some D) (h : (D, ({ cls := .type "list", data := .seq ⟨vs⟩ k } : Obj)) ∈ a) (r : Reps P a vs ps) : Rep P a (.ref D) (.lst ps)
  | ilst {D vs ns k} (hp : P ≠ some D) (h : (D, ({ cls := .type "list", data := .seq ⟨vs⟩ k } : Obj)) ∈ a) (r : IntsAre vs ns) : Rep P a (.ref D) (.ilst ns)
inductive Reps (P : Option Addr) (a : Led) : List Value → List PV → Prop
  | nil : Reps P a [] []
  | cons {v p vs ps} (h : Rep P a v p) (r : Reps P a vs ps) : Reps P a (v :: vs) (p :: ps)
end
/-- the ledger grows, the pen's list may turn -/
noncomputable def Up (P : Option Addr) (a b : Led) : Prop := ∀ q ∈ a, P ≠ some q.1 → q ∈ b
theorem Up.refl {P : Option Addr} {a : Led} : Up P a a := fun _ h _ => h
theorem Up.trans {P : Option Addr} {a b d : Led} (h : Up P a b) (k : Up P b d) : Up P a d := fun q hq hp => k q (h q hq hp) hp
theorem Up.of {P : Option Addr} {a b : Led} (h : ∀ q ∈ a, q ∈ b) : Up P a b := fun q hq _ => h q hq
mutual
theorem Rep.up {P : Option Addr} {a b : Led} (h : Up P a b) : ∀ {v p}, Rep P a v p → Rep P b v p
  | _, _, .int e => .int e
  | _, _, .str e b => .str e b
  | _, _, .bool => .bool
  | _, _, .none => .none
  | _, _, .pen e => .pen e
  | _, _, .tup hp m r => .tup hp (h _ m hp) (Reps.up h r)
  | _, _, .lst hp m r => .lst hp (h _ m hp) (Reps.up h r)
  | _, _, .ilst hp m r => .ilst hp (h _ m hp) r
theorem Reps.up {P : Option Addr} {a b : Led} (h : Up P a b) : ∀ {vs ps}, Reps P a vs ps → Reps P b vs ps
  | _, _, .nil => .nil
  | _, _, .cons x r => .cons (Rep.up h x) (Reps.up h r)
end
theorem Reps.len {P : Option Addr} {a : Led} : ∀ {vs ps}, Reps P a vs ps → vs.length = ps.length
  | _, _, .nil => rfl
  | _, _, .cons _ r => congrArg Nat.succ (Reps.len r)
theorem Reps.at {P : Option Addr} {a : Led} : ∀ {vs ps} {j : Nat} {p : PV}, Reps P a vs ps → ps[j]? = some p → ∃ v, vs[j]? = some v ∧ Rep P a v p
  | _, _, 0, _, .cons x _, h => ⟨_, rfl, by cases h; exact x⟩
  | _, _, j + 1, _, .cons _ r, h => Reps.at (j := j) r h
section
variable {P : Option Addr} {a : Led} {v : Value} {p : PV}
theorem Rep.i {x : Int} (R : Rep P a v p) (h : p.toI = some x) : ∃ t, v = .int x t := by
  cases R with
  | int e => exact ⟨_, by rw [Option.some.inj (h.symm.trans e)]⟩
  | str e => cases p <;> first | (cases h; done) | (cases e; done)
  | _ => cases h
theorem Rep.s {x : Str} (R : Rep P a v p) (h : p.toS = some x) : ∃ t, v = .str x t := by
  cases R with
  | str e => exact ⟨_, by rw [Option.some.inj (h.symm.trans e)]⟩
  | int e => cases p <;> first | (cases h; done) | (cases e; done)
  | _ => cases h
theorem Rep.x {l : List Bool} (R : Rep P a v (.txt l)) : ∃ t, v = .str (T l) t ∧ l.length ≤ 5000 := by
  cases R with
  | str e b => cases e; exact ⟨_, rfl, b⟩
  | int e => cases e
theorem Rep.b {b : Bool} (R : Rep P a v (.bool b)) : v = .bool b := by
  cases R with
  | bool => rfl
  | int e => cases e
  | str e => cases e
theorem Rep.t {ps : List PV} (R : Rep P a v (.tup ps)) : ∃ D vs k, v = .ref D ∧ P ≠ some D ∧ (D, ({ cls := .type "tuple", data := .seq ⟨vs⟩ k } : Obj)) ∈ a ∧ Reps P a vs ps := by
  cases R with
  | tup hp m r => exact ⟨_, _, _, rfl, hp, m, r⟩
  | int e => cases e
  | str e => cases e
theorem Rep.l {ps : List PV} (R : Rep P a v (.lst ps)) : ∃ D vs k, v = .ref D ∧ P ≠ some D ∧ (D, ({ cls := .type "list", data := .seq ⟨vs⟩ k } : Obj)) ∈ a ∧ Reps P a vs ps := by
  cases R with
  | lst hp m r => exact ⟨_, _, _, rfl, hp, m, r⟩
  | int e => cases e
  | str e => cases e
theorem Rep.is {ns : List Int} (R : Rep P a v (.ilst ns)) : ∃ D vs k, v = .ref D ∧ P ≠ some D ∧ (D, ({ cls := .type "list", data := .seq ⟨vs⟩ k } : Obj)) ∈ a ∧ IntsAre vs ns := by
  cases R with
  | ilst hp m r => exact ⟨_, _, _, rfl, hp, m, r⟩
  | int e => cases e
  | str e => cases e
theorem Rep.pn (R : Rep P a v .pen) : ∃ D, v = .ref D ∧ P = some D := by
  cases R with
  | pen e => exact ⟨_, rfl, e⟩
  | int e => cases e
  | str e => cases e
theorem Reps.two {vs : List Value} {p q : PV} (R : Reps P a vs [p, q]) : ∃ x y, vs = [x, y] ∧ Rep P a x p ∧ Rep P a y q := by
  obtain _ | ⟨x, _ | ⟨y, _ | _⟩⟩ := R
  exact ⟨_, _, rfl, x, y⟩
theorem Reps.three {vs : List Value} {p q z : PV} (R : Reps P a vs [p, q, z]) : ∃ x y u, vs = [x, y, u] ∧ Rep P a x p ∧ Rep P a y q ∧ Rep P a u z := by
  obtain _ | ⟨x, _ | ⟨y, _ | ⟨u, _ | _⟩⟩⟩ := R
  exact ⟨_, _, _, rfl, x, y, u⟩
end
/-- the law's pen -/
structure PenS where
  D : Addr
  C : Addr
  vs : List Value
  ns : List Int
  hi : IntsAre vs ns
  hl : vs.length ≤ 63
  hne : some D ≠ some C
noncomputable def PenOk (pen : Option PenS) (n : Nat) (a : Led) : Prop := ∀ p, pen = some p → (∃ t k, (p.D, ({ cls := .type "list", data := .seq ⟨[.ref p.C, .int n t]⟩ k } : Obj)) ∈ a) ∧ ∃ k, (p.C, ({ cls := .type "list", data := .seq ⟨p.vs⟩ k } : Obj)) ∈ a
theorem PenOk.sub {pen : Option PenS} {n : Nat} {a b : Led} (h : ∀ q ∈ a, q ∈ b) (k : PenOk pen n a) : PenOk pen n b := fun p e => by
  obtain ⟨⟨t, i, h1⟩, j, h2⟩ := k p e
  exact ⟨⟨t, i, h _ h1⟩, j, h _ h2⟩
/-- where a def runs -/
structure Cx (sc : Scope) (r : Nat) where
  w : World
  mean : ExcName → Option Value
  mg : Str → Option Value
  mb : Str → Option Value
  dp : Nat
  un : Nat
  gd : Option (List Code)
  cn : Str
  a : Addr
  ccd : Value
  cl : List (Str × Addr)
  outer : List Env
  A₀ : Around
  base : Heap
  h₀ : Heap
  L : Addr
  pen : Option PenS
  BL : Below A₀ base outer h₀
  X : (Mine.hd.heap_1 w.params).In h₀
  TP : Top Mine.hd.view_39 LO mean mg mb h₀
  hk : sc.kind = .function
  hd : dp + r < recursionLimit
  hu : un + 8 * r + 64 < cLine
noncomputable abbrev Cx.A {sc r} (c : Cx sc r) : Around := ktrTop c.dp c.un c.gd c.cn sc c.L c.a c.ccd c.cl c.outer
noncomputable abbrev Cx.env {sc r} (c : Cx sc r) : Env := envX c.cn sc c.L c.a c.ccd c.cl
noncomputable abbrev Cx.M {sc r} (c : Cx sc r) : Model := model PySem.Challenge.rw_pb0415_01.row.prog c.w
noncomputable abbrev Cx.F {sc r} (c : Cx sc r) (h : Heap) (m : Str → Option Value) : Prop := Fr c.h₀ c.L h m
noncomputable def Cx.P {sc r} (c : Cx sc r) : Option Addr := c.pen.map (·.D)
structure Cx.N {sc r} (c : Cx sc r) (n : Nat) (h : Heap) (a : Led) : Prop where
  N : News c.h₀ c.L h a
  pok : PenOk c.pen n a
noncomputable abbrev Sig := List (Str × PV)
/-- a name is seen -/
noncomputable def See (sc : Scope) (P : Option Addr) (cl : List (Str × Addr)) (m : Str → Option Value) (a : Led) (x : Str) (v : Value) : Prop :=
  (sc.names.lookup x = some .local ∧ m x = some v) ∨ (sc.names.lookup x = some .cell ∧ ∃ ca o, cl.lookup x = some ca ∧ P ≠ some ca ∧ (ca, o) ∈ a ∧ o.data = .cell (some v))
noncomputable def Cx.S {sc r} (c : Cx sc r) (m : Str → Option Value) (a : Led) (σ : Sig) : Prop :=
  ∀ x p, σ.lookup x = some p → (x == ("__debug__" : Str)) = false ∧ ∃ v, Rep c.P a v p ∧ See sc c.P c.cl m a x v
theorem Cx.S.up {sc r} {c : Cx sc r} {m σ} {a b : Led} (S : c.S m a σ) (h : Up c.P a b) : c.S m b σ := fun x p e =>
  let ⟨d, v, R, s⟩ := S x p e
  ⟨d, v, R.up h, s.imp id fun ⟨k, ca, o, h1, h2, h3, h4⟩ => ⟨k, ca, o, h1, h2, h _ h3 h2, h4⟩⟩
theorem Cx.S.nil {sc r} {c : Cx sc r} {m} {a : Led} : c.S m a [] := fun _ _ e => nomatch e
/-- a name is set -/
theorem Cx.S.set {sc r} {c : Cx sc r} {m m' : Str → Option Value} {σ : Sig} {a : Led} {x : Str} {v : Value} {p : PV} (S : c.S m a σ) (hd : (x == ("__debug__" : Str)) = false) (hk : sc.names.lookup x = some .local) (R : Rep c.P a v p) (h1 : m' x = some v) (h2 : ∀ y, (y == x) = false → m' y = m y) : c.S m' a ((x, p) :: σ) := fun y q e => by
  cases hy : y == x with
  | true =>
    rw [List.lookup_cons, hy] at e
    cases e
    have := eq_of_beq hy
    subst this
    exact ⟨hd, v, R, .inl ⟨hk, h1⟩⟩
  | false =>
    rw [List.lookup_cons, hy] at e
    obtain ⟨d, u, R', s⟩ := S y q e
    refine ⟨d, u, R', s.imp (fun z => ⟨z.1, (h2 y hy).trans z.2⟩) id⟩
theorem Cx.N.sub {sc r} {c : Cx sc r} {n : Nat} {h : Heap} {a b : Led} (N : c.N n h a) (h' : Heap) (hN : News c.h₀ c.L h' b) (u : ∀ q ∈ a, q ∈ b) : c.N n h' b := ⟨hN, N.pok.sub u⟩
theorem Cx.N.fresh {sc r} {c : Cx sc r} {n : Nat} {h : Heap} {a : Led} (N : c.N n h a) {D : Addr} (l : ∀ p ∈ a, p.1 < D) : c.P ≠ some D := fun e => by
  unfold Cx.P at e
  obtain ⟨p, hp, rfl⟩ := Option.map_eq_some_iff.mp e
  obtain ⟨⟨t, k, h1⟩, _⟩ := N.pok p hp
  exact Nat.lt_irrefl _ (l _ h1)
section
variable {sc : Scope} {r : Nat} (c : Cx sc r)
noncomputable abbrev KV := PV → Nat → Prop
noncomputable def EvW (e : Expr) (σ : Sig) (n : Nat) (K : KV) : Prop :=
  ∀ (s : Shared) (m : Str → Option Value) (a : Led) (Q : Value → Shared → Prop) (E : Value → Shared → Prop), c.F s.heap m → c.N n s.heap a → c.S m a σ →
    (∀ v h' tk' b p k, c.F h' m → c.N k h' b → Up c.P a b → Rep c.P b v p → K p k → Q v { s with heap := h', toks := tk' }) → wpAny c.M c.A (eval e c.env) Q E s
noncomputable def TrW (e : Expr) (σ : Sig) (n : Nat) (K : Bool → Nat → Prop) : Prop :=
  ∀ (s : Shared) (m : Str → Option Value) (a : Led) (Q : Bool → Shared → Prop) (E : Value → Shared → Prop), c.F s.heap m → c.N n s.heap a → c.S m a σ →
    (∀ x h' tk' b k, c.F h' m → c.N k h' b → Up c.P a b → K x k → Q x { s with heap := h', toks := tk' }) → wpAny c.M c.A (isTrue e c.env (eval e c.env)) Q E s
noncomputable def TrBW (op : BoolOp) (es : List Expr) (σ : Sig) (n : Nat) (K : Bool → Nat → Prop) : Prop :=
  ∀ (pos : Pos) (whole : Sem Value) (s : Shared) (m : Str → Option Value) (a : Led) (Q : Bool → Shared → Prop) (E : Value → Shared → Prop), c.F s.heap m → c.N n s.heap a → c.S m a σ →
    (∀ x h' tk' b k, c.F h' m → c.N k h' b → Up c.P a b → K x k → Q x { s with heap := h', toks := tk' }) → wpAny c.M c.A (isTrue (.BoolOp op es pos) c.env whole) Q E s
noncomputable def EvLW (es : List Expr) (σ : Sig) (n : Nat) (K : List PV → Nat → Prop) : Prop :=
  ∀ (pos : Pos) (s : Shared) (m : Str → Option Value) (a : Led) (Q : List Value → Shared → Prop) (E : Value → Shared → Prop), c.F s.heap m → c.N n s.heap a → c.S m a σ →
    (∀ vs h' tk' b ps k, c.F h' m → c.N k h' b → Up c.P a b → Reps c.P b vs ps → ps.length = es.length → K ps k → Q vs { s with heap := h', toks := tk' }) → wpAny c.M c.A (spliced (backTo pos (starEach es c.env))) Q E s
noncomputable def BackW (a : Led) (s : Shared) (m : Str → Option Value) (K : KV) (Q : Value → Shared → Prop) : Prop :=
  ∀ v h' tk' b p k, c.F h' m → c.N k h' b → Up c.P a b → Rep c.P b v p → K p k → Q v { s with heap := h', toks := tk' }
/-- a def of the text's -/
noncomputable def CallW (f : Addr) (ps : List PV) (n : Nat) (K : KV) : Prop :=
  ∀ (s : Shared) (m : Str → Option Value) (a : Led) (vs : List Value) (Q : Value → Shared → Prop) (E : Value → Shared → Prop), c.F s.heap m → c.N n s.heap a → Reps c.P a vs ps → BackW c a s m K Q → wpAny c.M c.A (call (.ref f) vs) Q E s
end
end

section
set_option genSizeOf false
set_option genInjectivity false
/-! the function of preconditions -/
structure Ent where
  name : Str
  addr : Addr
  room : Nat
  spec : List PV → Nat → KV → Prop
noncomputable def Br (b : Bool) (X Y : Prop) : Prop := match b with
  | true => X
  | false => Y
theorem Br.of {b : Bool} {X Y : Prop} (h1 : b = true → X) (h2 : b = false → Y) : Br b X Y := by
  cases b
  · exact h2 rfl
  · exact h1 rfl
noncomputable def asB (r pol : Bool) (X : Prop) : Prop := match pol with
  | true => Br r X False
  | false => Br r False X
/-- a written text: of signs, if it is one of these -/
noncomputable def litW (x : Str) (K : PV → Prop) : Prop := match x == Str.ofString "" with
  | true => K (.txt [])
  | false => match x == Str.ofString "0" with
    | true => K (.txt [false])
    | false => match x == Str.ofString "1" with
      | true => K (.txt [true])
      | false => match x == Str.ofString "01" with
        | true => K (.txt [false, true])
        | false => match x == Str.ofString "10" with
          | true => K (.txt [true, false])
          | false => K (.str x)
noncomputable def constW (k : Const) (K : PV → Prop) : Prop := match k with
  | .int x => K (.int x)
  | .bool b => K (.bool b)
  | .none => K .none
  | .str x => litW x K
  | _ => False
noncomputable def arW (op : Operator) (x y : Int) (K : PV → Prop) : Prop := match op with
  | .Add => K (.int (x + y))
  | .Sub => K (.int (x - y))
  | .Mult => (Builtin.Int.intBits x ≤ 100000 ∧ Builtin.Int.intBits y ≤ 100000) ∧ K (.int (x * y))
  | .FloorDiv => (0 < y ∧ Builtin.Int.intBits y ≤ 8000) ∧ K (.int (x / y))
  | .Mod => 0 < y ∧ K (.int (x % y))
  | .Pow => (0 ≤ y ∧ y ≤ 1000 ∧ Builtin.Int.intBits x ≤ 100) ∧ K (.int (x ^ y.toNat))
  | .LShift => (0 ≤ y ∧ y ≤ 100000 ∧ Builtin.Int.intBits x ≤ 100000) ∧ K (.int (x * 2 ^ y.toNat))
  | .RShift => 0 ≤ y ∧ K (.int (x / 2 ^ y.toNat))
  | .BitAnd => K (.int (Builtin.bitAnd x y))
  | .BitOr => K (.int (Builtin.bitOr x y))
  | .BitXor => K (.int (Builtin.bitXor x y))
  | _ => False
noncomputable def binT (op : Operator) (p q : PV) (K : PV → Prop) : Prop := match op with
  | .Add => match p with
    | .txt l => match q with
      | .txt l' => l.length + l'.length ≤ 5000 ∧ K (.txt (l ++ l'))
      | _ => False
    | _ => False
  | .Mult => match p with
    | .txt l => match l with
      | [b] => match q.toI with
        | some k => (0 ≤ k ∧ k ≤ 5000) ∧ K (.txt (List.replicate k.toNat b))
        | none => False
      | _ => False
    | _ => False
  | _ => False
noncomputable def binW (op : Operator) (p q : PV) (K : PV → Prop) : Prop := match p.toI with
  | some x => match q.toI with
    | some y => arW op x y K
    | none => False
  | none => binT op p q K
noncomputable def relW (op : CmpOp) (x y : Int) (K : Bool → Prop) : Prop := match op with
  | .Eq => K (decide (x = y))
  | .NotEq => K (!decide (x = y))
  | .Lt => K (decide (x < y))
  | .LtE => K (decide (x ≤ y))
  | .Gt => K (decide (y < x))
  | .GtE => K (decide (y ≤ x))
  | _ => False
/-- the ints of both are the same -/
noncomputable def eqs : List PV → List PV → Prop → Prop
  | [], [], X => X
  | p :: ps, q :: qs, X => match p.toI with
    | some x => match q.toI with
      | some y => x = y ∧ eqs ps qs X
      | none => False
    | none => match p with
      | .none => match q with
        | .none => eqs ps qs X
        | _ => False
      | _ => False
  | _, _, _ => False
noncomputable def strsOf : List PV → Option (List Str)
  | [] => some []
  | .str x :: r => match strsOf r with
    | some l => some (x :: l)
    | none => none
  | _ => none
noncomputable def cmpO (op : CmpOp) (p q : PV) (K : Bool → Prop) : Prop := match p with
  | .bool a => match q with
    | .bool b => match op with
      | .Eq => K (a == b)
      | .NotEq => K (a != b)
      | _ => False
    | _ => False
  | .str x => match q with
    | .str y => match op with
      | .Eq => K (x.cps.toList == y.cps.toList)
      | _ => False
    | .tup qs => match op with
      | .In => match strsOf qs with
        | some l => K (l.any (· == x))
        | none => False
      | _ => False
    | _ => False
  | .txt l => match q with
    | .txt l' => match op with
      | .NotEq => match l with
        | [a] => match l' with
          | [b] => K (a ^^ b)
          | _ => False
        | _ => False
      | .Eq => match l with
        | [a] => match l' with
          | [true] => K a
          | _ => False
        | _ => False
      | .In => match l with
        | [true] => K (decide (first l' < l'.length))
        | _ => False
      | _ => False
    | _ => False
  | .tup ps => match q with
    | .tup qs => match op with
      | .NotEq => eqs ps qs (K false)
      | .Eq => eqs ps qs (K true)
      | _ => False
    | .str x => match op with
      | .Eq => match ps with
        | [a, b] => match a.toI with
          | some _ => match b.toI with
            | some _ => match SeqAt.shaped (.str x) with
              | true => K false
              | false => False
            | none => False
          | none => False
        | _ => False
      | _ => False
    | _ => False
  | .ilst l => match q with
    | .lst [] => match op with
      | .NotEq => K (decide (0 < (l.length : Int)))
      | _ => False
    | _ => False
  | _ => False
noncomputable def cmpW (op : CmpOp) (p q : PV) (K : Bool → Prop) : Prop := match p.toI with
  | some x => match q.toI with
    | some y => relW op x y K
    | none => False
  | none => cmpO op p q K
/-- an asserted truth of two ints -/
noncomputable def relA (pol : Bool) (op : CmpOp) (x y : Int) (X : Prop) : Prop := match op with
  | .Eq => match pol with
    | true => x = y ∧ X
    | false => x ≠ y ∧ X
  | .NotEq => match pol with
    | true => x ≠ y ∧ X
    | false => x = y ∧ X
  | .Lt => match pol with
    | true => x < y ∧ X
    | false => y ≤ x ∧ X
  | .LtE => match pol with
    | true => x ≤ y ∧ X
    | false => y < x ∧ X
  | .Gt => match pol with
    | true => y < x ∧ X
    | false => x ≤ y ∧ X
  | .GtE => match pol with
    | true => y ≤ x ∧ X
    | false => x < y ∧ X
  | _ => False
noncomputable def cmpA (pol : Bool) (op : CmpOp) (p q : PV) (X : Prop) : Prop := match p.toI with
  | some x => match q.toI with
    | some y => relA pol op x y X
    | none => False
  | none => cmpO op p q fun r => asB r pol X
/-- how an index is written -/
inductive Ix where
  | plain | const | last
noncomputable def ixOf : Expr → Ix
  | .Constant .. => .const
  | .UnaryOp .. => .last
  | _ => .plain
noncomputable def idxT (ix : Ix) (l : List Bool) (q : PV) (K : PV → Prop) : Prop := match ix with
  | .last => match q with
    | .int x => match decide (x = -1) with
      | true => 0 < l.length ∧ K (.txt [l.getD (l.length - 1) false])
      | false => False
    | _ => False
  | _ => match q with
    | .sgn b => match l with
      | [false, true] => K (.txt [b])
      | [true, false] => K (.txt [!b])
      | _ => False
    | _ => match q.toI with
      | some k => (0 ≤ k ∧ k < l.length) ∧ K (.txt [l.getD k.toNat false])
      | none => False
noncomputable def idxL (ix : Ix) (ps : List PV) (k : Int) (K : PV → Prop) : Prop := match ix with
  | .const => match decide (0 ≤ k ∧ k < 2 ^ 63) with
    | true => match ps[k.toNat]? with
      | some z => K z
      | none => False
    | false => False
  | .plain => ∃ I : Int → Prop, ((0 ≤ k ∧ k < (ps.length : Int) ∧ ps.length ≤ 1000) ∧ ∀ p ∈ ps, ∃ x, p.toI = some x ∧ I x) ∧ ∀ x, I x → K (.int x)
  | .last => False
variable (T : List Ent) (ns : List Int) (sc : Scope) (r : Nat)
noncomputable def idxW (ns : List Int) (ix : Ix) (p q : PV) (n : Nat) (K : PV → Prop) : Prop := match p with
  | .txt l => idxT ix l q K
  | .tup ps => match q with
    | .int k => match ix with
      | .const => match decide (0 ≤ k ∧ k < 2 ^ 63) with
        | true => match ps[k.toNat]? with
          | some z => K z
          | none => False
        | false => False
      | _ => False
    | _ => False
  | .lst ps => match q.toI with
    | some k => idxL ix ps k K
    | none => False
  | .ilst l => match q.toI with
    | some k => (0 ≤ k ∧ k < (l.length : Int) ∧ l.length ≤ 1000) ∧ K (.int (l.getD k.toNat 0))
    | none => False
  | .pen => match q with
    | .int k => match decide (k = 0) with
      | true => K (.ilst ns)
      | false => match decide (k = 1) with
        | true => K (.int n)
        | false => False
    | _ => False
  | _ => False
noncomputable abbrev EF := Expr → Sig → Nat → KV → Prop
noncomputable abbrev TF := Expr → Sig → Nat → (Bool → Nat → Prop) → Prop
noncomputable abbrev AF := Bool → Expr → Sig → Nat → (Nat → Prop) → Prop
noncomputable abbrev BF := List Stmt → Sig → Nat → KV → (Nat → Prop) → (Sig → Nat → Prop) → (Sig → Nat → Prop) → Prop
noncomputable def isNm : Expr → Bool
  | .Name .. => true
  | _ => false
noncomputable def notCall : Expr → Bool
  | .Call .. => false
  | _ => true
noncomputable def isConst : Expr → Bool
  | .Constant .. => true
  | _ => false
noncomputable def notSlice : Expr → Bool
  | .Slice .. => false
  | _ => true
noncomputable def starred : Expr → Bool
  | .Starred .. => true
  | _ => false
noncomputable def plainTest : Expr → Bool
  | .UnaryOp .Not _ _ | .BoolOp .. | .IfExp .. | .Compare .. => false
  | _ => true
noncomputable def notComp : Expr → Bool
  | .ListComp .. | .SetComp .. | .DictComp .. => false
  | _ => true
/-- tests whose truth is written, or whose ways part -/
noncomputable def litTest : Expr → Bool
  | .Name .. => true
  | .Compare _ ops es _ => match ops with
    | [.Eq] => match es with
      | [.Constant (.str _) _ _] => true
      | _ => false
    | [.In] => true
    | [.NotEq] => match es with
      | [.List [] _] => true
      | _ => false
    | _ => false
  | _ => false
noncomputable def isIntE : Expr → Bool
  | .Constant (.int _) _ _ | .BinOp .. => true
  | _ => false
noncomputable def argsW (E : EF) : List Expr → Sig → Nat → (List PV → Nat → Prop) → Prop
  | [], _, n, K => K [] n
  | e :: es, σ, n, K => E e σ n fun p n => argsW E es σ n fun ps n => K (p :: ps) n
noncomputable def optW (E : EF) (e : Option Expr) (σ : Sig) (n : Nat) (K : Option PV → Nat → Prop) : Prop := match e with
  | some e => E e σ n fun p n => K (some p) n
  | none => K none n
noncomputable def sliceT (e : Expr) (p : PV) (a b d : Option PV) (K : PV → Prop) : Prop := match p with
  | .txt l => match d with
    | none => match a with
      | some a => match a.toI with
        | some i => match b with
          | some b => match b.toI with
            | some j => (0 ≤ i ∧ i ≤ j ∧ j ≤ l.length) ∧ K (.txt ((l.drop i.toNat).take (j - i).toNat))
            | none => False
          | none => 0 ≤ i ∧ K (.txt (l.drop i.toNat))
        | none => False
      | none => match b with
        | some b => match b.toI with
          | some j => (0 ≤ j ∧ j ≤ l.length) ∧ K (.txt (l.take j.toNat))
          | none => False
        | none => False
    | some d => match a with
      | none => match b with
        | none => match d with
          | .int x => match decide (x = -1) with
            | true => K (.txt l.reverse)
            | false => False
          | _ => False
        | _ => False
      | _ => False
  | .tup ps => match isNm e with
    | true => match ps with
      | [p0, p1, _] => match a with
        | none => match b with
          | some b => match b with
            | .int x => match decide (x = 2) with
              | true => match d with
                | none => K (.tup [p0, p1])
                | some _ => False
              | false => False
            | _ => False
          | none => False
        | some _ => False
      | _ => False
    | false => False
  | _ => False
/-- the builtins that are called by name -/
inductive Blt where
  | int | abs | len
noncomputable def bltOf (f : Str) : Option Blt := match f == Str.ofString "int" with
  | true => some .int
  | false => match f == Str.ofString "abs" with
    | true => some .abs
    | false => match f == Str.ofString "len" with
      | true => some .len
      | false => none
noncomputable def bltW (f : Blt) (ps : List PV) (K : PV → Prop) : Prop := match ps with
  | [p] => match f with
    | .int => match p with
      | .txt l => match l with
        | [b] => K (.sgn b)
        | _ => False
      | .bool b => K (.sgn b)
      | _ => False
    | .abs => match p.toI with
      | some x => K (.int (if x < 0 then -x else x))
      | none => False
    | .len => match p with
      | .ilst l => l.length ≤ 1000 ∧ K (.int (l.length : Nat))
      | _ => False
  | _ => False
noncomputable def callN (E : EF) (f : Str) (args : List Expr) (σ : Sig) (n : Nat) (K : KV) : Prop := match sc.names.lookup f with
  | some .globalImplicit => match f == ("__debug__" : Str) || args.any starred with
    | true => False
    | false => match T.find? fun e => e.name == f with
      | some e => match Nat.ble e.room r with
        | true => argsW E args σ n fun ps n => e.spec ps n K
        | false => False
      | none => match bltOf f with
        | some f => argsW E args σ n fun ps n => bltW f ps fun z => K z n
        | none => False
  | _ => False
noncomputable def findW (o : Expr) (l : List Bool) (q : PV) (K : PV → Prop) : Prop := match q with
  | .txt l' => match isConst o with
    | true => match l with
      | [false, true] => match l' with
        | [b] => K (.sgn b)
        | _ => False
      | _ => False
    | false => match l' with
      | [true] => K (.int (if first l < l.length then (first l : Int) else -1))
      | _ => False
  | _ => False
noncomputable def methW (E : EF) (o : Expr) (nm : Str) (pa : Pos) (args : List Expr) (pos : Pos) (σ : Sig) (n : Nat) (K : KV) : Prop := match args with
  | [a] => match nm == Str.ofString "find" && notCall o && !starred a && pa.endLine == pos.line with
    | true => E o σ n fun p n => match p with
      | .txt l => E a σ n fun q n => findW o l q fun z => K z n
      | _ => False
    | false => False
  | _ => False
/-- one stands for the other -/
noncomputable def PV.to1 (p q : PV) : Prop := match p.toI with
  | some x => match q.toI with
    | some y => x = y
    | Option.none => False
  | Option.none => p = q
noncomputable def tos : List PV → List PV → Prop
  | [], [] => True
  | p :: ps, q :: qs => p.to1 q ∧ tos ps qs
  | _, _ => False
noncomputable def PV.to (p q : PV) : Prop := match p with
  | .tup ps => match q with
    | .tup qs => tos ps qs
    | _ => False
  | _ => p.to1 q
noncomputable def stepE (E : EF) (Tt : TF) : EF := fun e σ n K => match e with
  | .Name x _ => match σ.lookup x with
    | some p => K p n
    | none => False
  | .Constant k _ _ => constW k fun p => K p n
  | .BinOp a op b _ => E a σ n fun p n => E b σ n fun q n => binW op p q fun z => K z n
  | .UnaryOp op a _ => match op with
    | .USub => E a σ n fun p n => match p.toI with
      | some x => K (.int (-x)) n
      | none => False
    | _ => False
  | .Compare a ops bs _ => match ops with
    | [op] => match bs with
      | [b] => match behindInMarks op b with
        | true => False
        | false => E a σ n fun p n => E b σ n fun q n => cmpW op p q fun x => K (.bool x) n
      | _ => False
    | [op, op'] => match bs with
      | [b, d] => match behindInMarks op' d with
        | true => False
        | false => E a σ n fun p n => E b σ n fun q n => cmpW op p q fun x => Br x (E d σ n fun z n => cmpW op' q z fun y => K (.bool y) n) (K (.bool false) n)
      | _ => False
    | _ => False
  | .BoolOp op es pos => match es with
    | [] => False
    | [e] => E e σ n K
    | e :: e' :: es => E e σ n fun p n => match p with
      | .bool x => match op with
        | .And => Br x (E (.BoolOp op (e' :: es) pos) σ n K) (K (.bool false) n)
        | .Or => Br x (K (.bool true) n) (E (.BoolOp op (e' :: es) pos) σ n K)
      | _ => False
  | .IfExp t a b _ => match litTest t with
    | true => Tt t σ n fun x n => Br x (E a σ n K) (E b σ n K)
    | false => match isIntE a || isIntE b with
      | true => Tt t σ n fun x n => ∃ z : Int, ((x = true → E a σ n fun q k => q.to (.int z) ∧ k = n) ∧ (x = false → E b σ n fun q k => q.to (.int z) ∧ k = n)) ∧ K (.int z) n
      | false => Tt t σ n fun x n => ∃ z : Bool, ((x = true → E a σ n fun q k => q = .txt [z] ∧ k = n) ∧ (x = false → E b σ n fun q k => q = .txt [z] ∧ k = n)) ∧ K (.txt [z]) n
  | .Subscript e i _ => match i with
    | .Slice a b d _ => E e σ n fun p n => optW E a σ n fun a n => optW E b σ n fun b n => optW E d σ n fun d n => sliceT e p a b d fun z => K z n
    | _ => E e σ n fun p n => E i σ n fun q n => idxW ns (ixOf i) p q n fun z => K z n
  | .Tuple es _ _ => match Nat.ble es.length 1000 && !es.any starred with
    | true => argsW E es σ n fun ps n => K (.tup ps) n
    | false => False
  | .List es _ => match Nat.ble es.length 1000 && !es.any starred with
    | true => argsW E es σ n fun ps n => K (.lst ps) n
    | false => False
  | .Call f args kw pos => match kw with
    | [] => match f with
      | .Name f _ => match args with
        | [] => False
        | _ :: _ => callN T sc r E f args σ n K
      | .Attribute o nm pa => methW E o nm pa args pos σ n K
      | _ => False
    | _ => False
  | _ => False
noncomputable def boolsW (Tt : TF) (op : BoolOp) : List Expr → Sig → Nat → (Bool → Nat → Prop) → Prop
  | [], _, n, K => match op with
    | .And => K true n
    | .Or => K false n
  | e :: es, σ, n, K => Tt e σ n fun x n => match op with
    | .And => Br x (boolsW Tt op es σ n K) (K false n)
    | .Or => Br x (K true n) (boolsW Tt op es σ n K)
noncomputable def stepT (E : EF) (Tt : TF) : TF := fun e σ n K => match plainTest e with
  | true => E e σ n fun p n => match p with
    | .bool x => K x n
    | _ => False
  | false => match e with
    | .UnaryOp op a _ => match op with
      | .Not => Tt a σ n fun x n => K (!x) n
      | _ => False
    | .BoolOp op es _ => boolsW Tt op es σ n K
    | .Compare a ops bs _ => match ops with
      | [op] => match bs with
        | [b] => match behindInMarks op b with
          | true => False
          | false => E a σ n fun p n => E b σ n fun q n => cmpW op p q fun x => K x n
        | _ => False
      | [op, op'] => match bs with
        | [b, d] => match behindInMarks op' d with
          | true => False
          | false => E a σ n fun p n => E b σ n fun q n => cmpW op p q fun x => Br x (E d σ n fun z n => cmpW op' q z fun y => K y n) (K false n)
        | _ => False
      | _ => False
    | _ => False
noncomputable def allA (A : Expr → Sig → Nat → (Nat → Prop) → Prop) : List Expr → Sig → Nat → (Nat → Prop) → Prop
  | [], _, n, K => K n
  | e :: es, σ, n, K => A e σ n fun n => allA A es σ n K
noncomputable def stepA (E : EF) (Tt : TF) (A : AF) : AF := fun pol e σ n K => match e with
  | .UnaryOp .Not a _ => A (!pol) a σ n K
  | .BoolOp op es _ => match op with
    | .Or => match pol with
      | false => allA (A false) es σ n K
      | true => Tt e σ n fun x n => asB x pol (K n)
    | .And => match pol with
      | true => allA (A true) es σ n K
      | false => match es with
        | [a, b] => Tt a σ n fun x n => (x = true → A false b σ n fun k => k = n) ∧ K n
        | _ => False
  | .Compare a ops bs _ => match ops with
    | [op] => match bs with
      | [b] => match behindInMarks op b with
        | true => False
        | false => E a σ n fun p n => E b σ n fun q n => cmpA pol op p q (K n)
      | _ => False
    | _ => Tt e σ n fun x n => asB x pol (K n)
  | _ => Tt e σ n fun x n => asB x pol (K n)
noncomputable def w0 : EF × TF × AF := (fun _ _ _ _ => False, fun _ _ _ _ => False, fun _ _ _ _ _ => False)
noncomputable def W (k : Nat) : EF × TF × AF := Nat.rec w0 (fun _ w => (stepE T ns sc r w.1 w.2.1, stepT w.1 w.2.1, stepA w.1 w.2.1 w.2.2)) k
/-! statements -/
noncomputable def okN (x : Str) : Bool := match sc.names.lookup x with
  | some .local => !(x == ("__debug__" : Str))
  | _ => false
noncomputable def nmOf : Expr → Option Str
  | .Name x _ => some x
  | _ => none
noncomputable def nmsOf : List Expr → Option (List Str)
  | [] => some []
  | e :: es => match nmOf e with
    | some x => match nmsOf es with
      | some l => some (x :: l)
      | none => none
    | none => none
noncomputable def bindL : List Str → List PV → Sig → (Sig → Prop) → Prop
  | [], ps, σ, K => match ps with
    | [] => K σ
    | _ => False
  | x :: xs, ps, σ, K => match ps with
    | p :: ps => match okN sc x with
      | true => bindL xs ps ((x, p) :: σ) K
      | false => False
    | [] => False
noncomputable def bindT (t : Expr) (p : PV) (σ : Sig) (K : Sig → Prop) : Prop := match t with
  | .Name x _ => match okN sc x with
    | true => K ((x, p) :: σ)
    | false => False
  | .Tuple ts _ _ => match nmsOf ts with
    | some xs => match p with
      | .tup ps => bindL sc xs ps σ K
      | _ => False
    | none => False
  | _ => False
/-- a tuple written on the right: the names whose stores are swapped -/
noncomputable def swNames (ts vs : List Expr) : Option (List Str) := match nmsOf ts with
  | some xs => match (ts.length == 2 || ts.length == 3) && vs.length == ts.length && !(vs.any fun | .Starred .. => true | _ => false) && (ts.all fun
      | .Name id pos => sc.names.lookup id == some .local && pos.line == (ts.head?.map (·.pos.line)).getD 0
      | _ => false) && xs.eraseDups.length == xs.length && !vs.all (foldedForSure 8) && !vs.all (constantsAlone 8) with
    | true => some xs
    | false => none
  | none => none
noncomputable def asgT (E : EF) (ts : List Expr) (k : Nat) (pt : Pos) (e : Expr) (σ : Sig) (n : Nat) (K : Sig → Nat → Prop) : Prop := match e with
  | .Tuple vs _ _ => match swNames sc ts vs with
    | some xs => E e σ n fun p n => match p with
      | .tup ps => bindL sc xs.reverse ps.reverse σ fun σ => K σ n
      | _ => False
    | none => match ts.length == 2 || ts.length == 3 with
      | true => False
      | false => E e σ n fun p n => bindT sc (.Tuple ts k pt) p σ fun σ => K σ n
  | .List .. => False
  | _ => match notComp e with
    | true => E e σ n fun p n => bindT sc (.Tuple ts k pt) p σ fun σ => K σ n
    | false => False
noncomputable def retF : List Stmt → Bool
  | [.Return (some (.Constant (.bool false) _ _)) _] => true
  | _ => false
noncomputable def allp (f : PV → Prop) : List PV → Prop
  | [] => True
  | p :: ps => f p ∧ allp f ps
/-- what was seen is seen -/
noncomputable def keepsA (σ₁ σ₀ : Sig) : Sig → Prop
  | [] => True
  | (x, _) :: σ => match σ₁.lookup x with
    | some q => match σ₀.lookup x with
      | some p => q.to p ∧ keepsA σ₁ σ₀ σ
      | none => False
    | none => False
noncomputable def keeps (σ₁ σ : Sig) : Prop := keepsA σ₁ σ σ
noncomputable def forU (sc : Scope) (B : BF) (t : Expr) (body : List Stmt) (K : Sig → Nat → Prop) : List PV → Sig → Nat → Prop
  | [], σ, n => K σ n
  | p :: ps, σ, n => bindT sc t p σ fun σ => B body σ n (fun _ _ => False) (fun _ => False) (forU sc B t body K ps) (forU sc B t body K ps)
/-- x = [e] and twice x.append(e) -/
noncomputable def appOf (x : Str) (st : Stmt) : Option Expr := match st with
  | .Expr c _ => match c with
    | .Call g xs kw pc => match g with
      | .Attribute o f pa => match nmOf o with
        | some y => match xs with
          | [e] => match kw with
            | [] => match x == y && f == Str.ofString "append" && pa.endLine == pc.line && !starred e with
              | true => some e
              | false => none
            | _ => none
          | _ => none
        | none => none
      | _ => none
    | _ => none
  | _ => none
noncomputable def lstOf (x : Str) (st : Stmt) : Option Expr := match st with
  | .Assign ts v _ => match ts with
    | [o] => match nmOf o with
      | some y => match v with
        | .List es _ => match es with
          | [e] => match x == y && !starred e with
            | true => some e
            | false => none
          | _ => none
        | _ => none
      | none => none
    | _ => none
  | _ => none
noncomputable def nameOf : Stmt → Option Str
  | .Assign [.Name y _] _ _ => some y
  | _ => none
noncomputable def flatP : PV → Bool
  | .tup _ | .lst _ | .ilst _ | .pen => false
  | _ => true
noncomputable def PV.pure : PV → Bool
  | .tup l => l.all flatP
  | _ => false
noncomputable def raiseOk (e : Option Expr) (d : Option Expr) : Bool := match d with
  | none => match e with
    | some c => match c with
      | .Call g xs kw _ => match nmOf g with
        | some f => match kw with
          | [] => match xs with
            | [a] => match a with
              | .Constant k _ _ => match k with
                | .str x => f == Str.ofString "MachineError" && x == Str.ofString "divide" && sc.names.lookup f == some .globalImplicit
                | _ => false
              | _ => false
            | _ => false
          | _ => false
        | none => false
      | _ => false
    | none => false
  | some _ => false
noncomputable def forW (E : EF) (B : BF) (t it : Expr) (body : List Stmt) (σ : Sig) (n : Nat) (K : Sig → Nat → Prop) : Prop := match it with
  | .Tuple .. => E it σ n fun p n => match p with
    | .tup ps => forU sc B t body K ps σ n
    | _ => False
  | .Set .. => False
  | _ => E it σ n fun p n => match p with
    | .lst ps => allp (fun p => bindT sc t p σ fun σ' => B body σ' n (fun _ _ => False) (fun _ => False) (fun σ₁ k => keeps σ₁ σ ∧ k = n) fun σ₁ k => keeps σ₁ σ ∧ k = n) ps ∧ K σ n
    | .ilst l => (∀ x ∈ l, bindT sc t (.int x) σ fun σ' => B body σ' n (fun _ _ => False) (fun _ => False) (fun σ₁ k => keeps σ₁ σ ∧ k = n) fun σ₁ k => keeps σ₁ σ ∧ k = n) ∧ K σ n
    | _ => False
noncomputable def asgW (E : EF) (t e : Expr) (σ : Sig) (n : Nat) (K : Sig → Nat → Prop) : Prop := match t with
  | .Name x _ => match okN sc x && notComp e with
    | true => E e σ n fun p n => K ((x, p) :: σ) n
    | false => False
  | .Tuple ts k pt => asgT sc E ts k pt e σ n K
  | .Subscript o i _ => match o with
    | .Name x _ => match i with
      | .Constant (.int k) _ _ => match decide (k = 1) && notComp e with
        | true => match σ.lookup x with
          | some .pen => E e σ n fun p k => match p.toI with
            | some z => z = (k + 1 : Nat) ∧ K σ (k + 1)
            | none => False
          | _ => False
        | false => False
      | _ => False
    | _ => False
  | _ => False
noncomputable def stmtW (E : EF) (Tt : TF) (A : AF) (B : BF) (st : Stmt) (σ : Sig) (n : Nat) (R : KV) (X : Nat → Prop) (C K : Sig → Nat → Prop) : Prop := match st with
  | .Return e _ => match e with
    | some e => E e σ n R
    | none => False
  | .Assign ts e _ => match ts with
    | [t] => asgW sc E t e σ n K
    | _ => False
  | .If t body orelse _ => match retF body with
    | true => match orelse with
      | [] => A false t σ n fun n => K σ n
      | _ => False
    | false => Tt t σ n fun x n => Br x (B body σ n R X C K) (B orelse σ n R X C K)
  | .For t it body orelse _ => match orelse with
    | [] => forW sc E B t it body σ n K
    | _ => False
  | .Continue _ => C σ n
  | .Raise e d _ => match raiseOk sc e d with
    | true => X n
    | false => False
  | _ => False
/-- statements that are taken by rules of their own: what is left behind them, what they need -/
structure LF where
  takes : List Stmt → Option (List Stmt)
  spec : List Stmt → Sig → Nat → (Sig → Nat → Prop) → Prop
noncomputable def noL : LF := ⟨fun _ => none, fun _ _ _ _ => False⟩
noncomputable def stepB (Lp : LF) (E : EF) (Tt : TF) (A : AF) (B : BF) : BF := fun b σ n R X C K => match b with
  | [] => K σ n
  | st :: rest => match Lp.takes (st :: rest) with
   | some rest => Lp.spec b σ n fun σ n => B rest σ n R X C K
   | none => match rest with
    | a :: b :: rest' => match nameOf st with
      | some x => match appOf x a with
        | some e1 => match appOf x b with
          | some e2 => match lstOf x st with
            | some e0 => match okN sc x && (σ.lookup x).isNone with
              | true => E e0 σ n fun p0 n => E e1 σ n fun p1 n => match p1.pure with
                | true => E e2 σ n fun p2 n => match p2.pure with
                  | true => B rest' ((x, .lst [p0, p1, p2]) :: σ) n R X C K
                  | false => False
                | false => False
              | false => False
            | none => False
          | none => False
        | none => stmtW sc E Tt A B st σ n R X C fun σ n => B rest σ n R X C K
      | none => stmtW sc E Tt A B st σ n R X C fun σ n => B rest σ n R X C K
    | _ => stmtW sc E Tt A B st σ n R X C fun σ n => B rest σ n R X C K
noncomputable def WB (Lp : LF) (f k : Nat) : BF := Nat.rec (fun _ _ _ _ _ _ _ => False) (fun _ B => stepB sc Lp (W T ns sc r f).1 (W T ns sc r f).2.1 (W T ns sc r f).2.2 B) k
end

section
/-! operators -/
section
variable {prog : Program} {w : World} {A : Around} {E : Value → Shared → Prop} {s : Shared} {Q : Value → Shared → Prop} {x y : Int} {t u : Tok} {K : PV → Prop} {P : Option Addr} {a : Led} {p q : PV} {v v' : Value} {op : Operator}
theorem arW_ok (h : arW op x y K) (k : ∀ z t tk, K (.int z) → Q (.int z t) { s with toks := tk }) : wpAny (model prog w) A (binaryOp op (.int x t) (.int y u)) Q E s := by
  cases op with
  | Add => exact PyProof.Rows.add_int (k _ _ _ h)
  | Sub => exact PyProof.Rows.sub_int (k _ _ _ h)
  | Mult => exact r_mul h.1.1 h.1.2 (k _ _ _ h.2)
  | FloorDiv => exact r_div h.1.1 h.1.2 (k _ _ _ h.2)
  | Mod => exact r_mod h.1 (k _ _ _ h.2)
  | Pow => exact r_pow h.1.1 h.1.2.1 h.1.2.2 (k _ _ _ h.2)
  | LShift => exact r_shl h.1.1 h.1.2.1 h.1.2.2 (k _ _ _ h.2)
  | RShift => exact r_shr h.1 (k _ _ _ h.2)
  | BitAnd => exact PyProof.Rows.and_int (k _ _ _ h)
  | BitOr => exact PyProof.Rows.or_int (k _ _ _ h)
  | BitXor => exact PyProof.Rows.xor_int (k _ _ _ h)
  | _ => exact False.elim h
theorem binT_ok (h : binT op p q K) (R : Rep P a v p) (R' : Rep P a v' q) (k : ∀ z v tk, Rep P a v z → K z → Q v { s with toks := tk }) : wpAny (model prog w) A (binaryOp op v v') Q E s := by
  cases op with
  | Add =>
    dsimp only [binT] at h
    split at h
    · split at h
      · obtain ⟨t, rfl, h1⟩ := R.x
        obtain ⟨u, rfl, h2⟩ := R'.x
        exact r_add (by omega) (by omega) fun _ _ => k _ _ _ (.str rfl (by show List.length _ ≤ _; rw [List.length_append]; exact h.1)) h.2
      · exact h.elim
    · exact h.elim
  | Mult =>
    dsimp only [binT] at h
    split at h
    · split at h
      · split at h
        · rename_i e
          obtain ⟨t, rfl⟩ := R.s rfl
          obtain ⟨u, rfl⟩ := R'.i e
          exact r_mulT ⟨h.1.1, by omega⟩ fun _ _ => k _ _ _ (.str rfl (by show List.length _ ≤ _; rw [List.length_replicate]; omega)) h.2
        · exact h.elim
      · exact h.elim
    · exact h.elim
  | _ => exact False.elim h
theorem binW_ok (h : binW op p q K) (R : Rep P a v p) (R' : Rep P a v' q) (k : ∀ z v tk, Rep P a v z → K z → Q v { s with toks := tk }) : wpAny (model prog w) A (binaryOp op v v') Q E s := by
  dsimp only [binW] at h
  split at h
  · split at h
    · rename_i e _ _ e'
      obtain ⟨t, rfl⟩ := R.i e
      obtain ⟨u, rfl⟩ := R'.i e'
      exact arW_ok h fun z t tk hz => k _ _ _ (.int rfl) hz
    · exact h.elim
  · exact binT_ok h R R' k
end
section
variable {prog : Program} {w : World} {A : Around} {E : Value → Shared → Prop} {s : Shared} {Q : Value → Shared → Prop} {x y : Int} {t u : Tok} {K : Bool → Prop} {P : Option Addr} {a : Led} {p q : PV} {v v' : Value} {op : CmpOp} {h₀ : Heap} {L : Addr}
theorem relW_ok (h : relW op x y K) (k : ∀ b, K b → Q (.bool b) s) : wpAny (model prog w) A (compareOp op (.int x t) (.int y u)) Q E s := by
  cases op with
  | Eq => exact PyProof.Rows.eq_int (k _ h)
  | NotEq => exact PyProof.Rows.ne_int (k _ h)
  | Lt => exact PyProof.Rows.lt_int (k _ h)
  | LtE => exact PyProof.Rows.le_int (k _ h)
  | Gt => exact PyProof.Rows.gt_int (k _ h)
  | GtE => exact PyProof.Rows.ge_int (k _ h)
  | _ => exact False.elim h
theorem relA_ok {pol : Bool} {X : Prop} (h : relA pol op x y X) : relW op x y fun b => b = pol ∧ X := by
  cases op <;> cases pol <;> dsimp only [relA, relW] at h ⊢ <;> first | exact h.elim | skip
  all_goals (refine ⟨?_, h.2⟩; have h1 := h.1; simp only [decide_eq_true_eq, decide_eq_false_iff_not, Bool.not_eq_true', Bool.not_eq_false']; first | exact h1 | omega)
/-- the data of scalars -/
noncomputable def dataOf : PV → PyData
  | .int x => .int x
  | .bits l => .int (V l)
  | .sgn b => .int (B b)
  | _ => .none
theorem reads_eqs : ∀ {ps qs : List PV} {vs us : List Value} {X : Prop} {h : Heap}, eqs ps qs X → Reps P a vs ps → Reps P a us qs → (ReadsAll h vs (ps.map dataOf) [] ∧ ReadsAll h us (ps.map dataOf) []) ∧ X
  | [], [], _, _, _, _, e, .nil, .nil => ⟨⟨.nil, .nil⟩, e⟩
  | p :: ps, q :: qs, _, _, X, h, e, .cons r rs, .cons r' rs' => by
    unfold eqs at e
    split at e
    · split at e
      · rename_i e1 _ _ e2
        obtain ⟨rfl, e⟩ := e
        obtain ⟨t, rfl⟩ := r.i e1
        obtain ⟨u, rfl⟩ := r'.i e2
        have ih := reads_eqs (h := h) e rs rs'
        have hd : ∀ t, Reads h (.int _ t) (dataOf p) [] := fun t => by
          cases p <;> cases e1 <;> exact .int _ _
        exact ⟨⟨.cons (hd t) ih.1.1, .cons (hd u) ih.1.2⟩, ih.2⟩
      · exact e.elim
    · split at e
      · split at e
        · have ih := reads_eqs (h := h) e rs rs'
          have h1 : ∀ {v}, Rep P a v .none → Reads h v .none [] := fun {v} z => by
            cases z with
            | none => exact .none
            | int z => cases z
            | str z => cases z
          exact ⟨⟨.cons (h1 r) ih.1.1, .cons (h1 r') ih.1.2⟩, ih.2⟩
        · exact e.elim
      · exact e.elim
theorem shaped_data (ps : List PV) : SeqAt.shaped (.tuple (ps.map dataOf)) = true := by
  have h1 : ∀ ps : List PV, PyData.canLayAll0 (ps.map dataOf) = true ∧ PyData.depthAll (ps.map dataOf) = 0 := fun ps => by
    induction ps with
    | nil => exact ⟨rfl, rfl⟩
    | cons p ps ih =>
      have h2 : (dataOf p).canLay0 = true ∧ (dataOf p).depth = 0 := by cases p <;> exact ⟨rfl, rfl⟩
      refine ⟨?_, ?_⟩
      · show ((dataOf p).canLay0 && PyData.canLayAll0 (ps.map dataOf)) = true
        rw [h2.1, ih.1]; rfl
      · show max (dataOf p).depth (PyData.depthAll (ps.map dataOf)) = 0
        rw [h2.2, ih.2]; rfl
  show (PyData.canLayAll0 (ps.map dataOf) && decide (PyData.depthAll (ps.map dataOf) + 1 ≤ 64)) = true
  rw [(h1 ps).1, (h1 ps).2]; rfl
theorem strs_are : ∀ {ps : List PV} {vs : List Value} {l : List Str}, strsOf ps = some l → Reps P a vs ps → StrsAre vs l
  | [], _, _, e, .nil => by cases e; exact .nil
  | p :: ps, _, l, e, .cons r rs => by
    cases p with
    | str x =>
      unfold strsOf at e
      split at e
      · rename_i e'
        cases e
        obtain ⟨t, rfl⟩ := r.s rfl
        exact .cons _ _ (strs_are e' rs)
      · cases e
    | _ => cases e
theorem cmpO_ok (h : cmpO op p q K) (N : News h₀ L s.heap a) (hu : A.units + 64 < cLine) (R : Rep P a v p) (R' : Rep P a v' q) (k : ∀ b, K b → Q (.bool b) s) : wpAny (model prog w) A (compareOp op v v') Q E s := by
  unfold cmpO at h
  split at h
  · split at h
    · rw [R.b, R'.b]
      split at h
      · exact PyProof.Rows.eq_bool (k _ h)
      · exact PyProof.Rows.ne_bool (k _ h)
      · exact h.elim
    · exact h.elim
  · obtain ⟨t, rfl⟩ := R.s rfl
    split at h
    · obtain ⟨u, rfl⟩ := R'.s rfl
      split at h
      · exact PySem.P.eq_str (k _ h)
      · exact h.elim
    · split at h
      · split at h
        · rename_i e
          obtain ⟨D, vs, i, rfl, _, hm, r⟩ := R'.t
          exact in_tuple_strs ⟨_, (N _ hm).1, rfl, _, rfl⟩ (strs_are e r) (k _ h)
        · exact h.elim
      · exact h.elim
    · exact h.elim
  · obtain ⟨t, rfl⟩ := R.s rfl
    split at h
    · obtain ⟨u, rfl⟩ := R'.s rfl
      split at h
      · split at h
        · split at h
          · exact r_ne (k _ h)
          · exact h.elim
        · exact h.elim
      · split at h
        · split at h
          · exact r_eq1 rfl (k _ h)
          · exact h.elim
        · exact h.elim
      · split at h
        · exact r_in rfl (k _ h)
        · exact h.elim
      · exact h.elim
    · exact h.elim
  · obtain ⟨D, vs, i, rfl, _, hm, r⟩ := R.t
    split at h
    · obtain ⟨D', us, j, rfl, _, hm', r'⟩ := R'.t
      split at h
      · obtain ⟨⟨e1, e2⟩, h⟩ := reads_eqs h r r'
        refine ne_dataH (.tuple (N _ hm).1 rfl rfl e1) (.tuple (N _ hm').1 rfl rfl e2) (shaped_data _) (shaped_data _) hu ?_
        rw [SeqAt.eqv_refl _ (SeqAt.canLay_of_shaped (shaped_data _))]
        exact k _ h
      · obtain ⟨⟨e1, e2⟩, h⟩ := reads_eqs h r r'
        refine eq_dataH (.tuple (N _ hm).1 rfl rfl e1) (.tuple (N _ hm').1 rfl rfl e2) (shaped_data _) (shaped_data _) hu ?_
        rw [SeqAt.eqv_refl _ (SeqAt.canLay_of_shaped (shaped_data _))]
        exact k _ h
      · exact h.elim
    · obtain ⟨u, rfl⟩ := R'.s rfl
      split at h
      · split at h
        · split at h
          · split at h
            · split at h
              · rename_i e1 _ _ e2 _ e3
                obtain ⟨y, z, rfl, r1, r2⟩ := r.two
                obtain ⟨t1, rfl⟩ := r1.i e1
                obtain ⟨t2, rfl⟩ := r2.i e2
                refine eq_dataH (.tuple (N _ hm).1 rfl rfl (.cons (.int _ _) (.cons (.int _ _) .nil))) (.str _ u) (by rfl) e3 hu ?_
                simp only [PyData.eqv]
                exact k _ h
              · exact h.elim
            · exact h.elim
          · exact h.elim
        · exact h.elim
      · exact h.elim
    · exact h.elim
  · rename_i l
    obtain ⟨D, vs, i, rfl, _, hm, r⟩ := R.is
    split at h
    · split at h
      · obtain ⟨D', us, j, rfl, _, hm', r'⟩ := R'.l
        cases r'
        have hL : s.heap.IsList D vs.toArray := ⟨_, (N _ hm).1, rfl, _, rfl⟩
        have hD : s.heap.IsList D' (([] : List Value)).toArray := ⟨_, (N _ hm').1, rfl, _, rfl⟩
        refine ne_intsK hL r hD .nil hu ?_
        have e := k _ h
        cases l with
        | nil => exact e
        | cons n r => rw [decide_eq_true (by simp)] at e; exact e
      · exact h.elim
    · exact h.elim
  · exact h.elim
theorem cmpW_ok (h : cmpW op p q K) (N : News h₀ L s.heap a) (hu : A.units + 64 < cLine) (R : Rep P a v p) (R' : Rep P a v' q) (k : ∀ b, K b → Q (.bool b) s) : wpAny (model prog w) A (compareOp op v v') Q E s := by
  unfold cmpW at h
  split at h
  · split at h
    · rename_i e _ _ e'
      obtain ⟨t, rfl⟩ := R.i e
      obtain ⟨u, rfl⟩ := R'.i e'
      exact relW_ok h k
    · exact h.elim
  · exact cmpO_ok h N hu R R' k
theorem asB_ok {b pol : Bool} {X : Prop} (h : asB b pol X) : b = pol ∧ X := by
  cases b <;> cases pol <;> first | exact ⟨rfl, h⟩ | exact False.elim h
theorem cmpA_ok {pol : Bool} {X : Prop} (h : cmpA pol op p q X) (N : News h₀ L s.heap a) (hu : A.units + 64 < cLine) (R : Rep P a v p) (R' : Rep P a v' q) (k : ∀ b, b = pol ∧ X → Q (.bool b) s) : wpAny (model prog w) A (compareOp op v v') Q E s := by
  unfold cmpA at h
  split at h
  · split at h
    · rename_i e _ _ e'
      obtain ⟨t, rfl⟩ := R.i e
      obtain ⟨u, rfl⟩ := R'.i e'
      exact relW_ok (relA_ok h) k
    · exact h.elim
  · exact cmpO_ok h N hu R R' fun b hb => k b (asB_ok hb)
end
/-! items -/
theorem subs_of {slice : Expr} {o i : Value} (h : notSlice slice = true) : subscripted slice false o i = operate [o, i] (getItem o i) := by
  cases slice <;> first | rfl | cases h
theorem lt_str {value : Expr} {x : Str} {t : Tok} (r : Value) : letTemporaryGo value (.str x t) r = pure () := by cases value <;> rfl
section
variable {prog : Program} {w : World} {A : Around} {E : Value → Shared → Prop} {s : Shared} {Q : Value → Shared → Prop} {K : PV → Prop} {P : Option Addr} {a : Led} {p q : PV} {v v' : Value} {h₀ : Heap} {L : Addr} {m : Str → Option Value} {value slice : Expr} {l : List Bool} {t : Tok} {ix : Ix} {n : Nat} {ns : List Int}
theorem one_sm {b : Bool} : PV.sm (.txt [b]) := Nat.le_of_ble_eq_true rfl
theorem idxT_ok (h : idxT ix l q K) (hl : l.length ≤ 5000) (hn : notSlice slice = true) (R' : Rep P a v' q) (k : ∀ z v tk, Rep P a v z → K z → Q v { s with toks := tk }) : wpAny (model prog w) A (subscriptTail value slice (.str (T l) t) v') Q E s := by
  unfold idxT at h
  split at h
  · split at h
    · split at h
      · rename_i e
        obtain ⟨u, rfl⟩ := R'.i rfl
        obtain rfl := of_decide_eq_true e
        exact r_item_last h.1 (by omega) (k _ _ _ (.str rfl one_sm) h.2) (subs_of hn) lt_str
      · exact h.elim
    · exact h.elim
  · split at h
    · rename_i b
      obtain ⟨u, rfl⟩ := R'.i rfl
      split at h
      · exact r_item_lit (l := [false, true]) rfl (by cases b <;> decide) (by decide) (by cases b <;> exact k _ _ _ (.str rfl one_sm) h) (subs_of hn) lt_str
      · exact r_item_lit (l := [true, false]) rfl (by cases b <;> decide) (by decide) (by cases b <;> exact k _ _ _ (.str rfl one_sm) h) (subs_of hn) lt_str
      · exact h.elim
    · split at h
      · rename_i e
        obtain ⟨u, rfl⟩ := R'.i e
        exact r_item h.1 (by omega) (k _ _ _ (.str rfl one_sm) h.2) (subs_of hn) lt_str
      · exact h.elim
end
end

section
theorem ints_at : ∀ {vs : List Value} {l : List Int} {j : Nat} {v : Value}, IntsAre vs l → vs[j]? = some v → ∃ t, v = .int (l.getD j 0) t
  | _ :: _, _ :: _, 0, _, .cons _ _ _, h => by cases h; exact ⟨_, rfl⟩
  | _ :: _, _ :: _, j + 1, _, .cons _ _ r, h => by simpa using ints_at (j := j) r h
theorem seq_ix {k : Int} {n : Nat} (h0 : 0 ≤ k) (h1 : k.toNat < n) : seqIndex? k n = some k.toNat := by
  unfold seqIndex?
  have h2 : ¬k < 0 := by omega
  simp only [h2, if_false]
  have h3 : (decide (0 ≤ k) && decide (k < n)) = true := by simp; omega
  rw [if_pos h3]
noncomputable def NsOk {sc : Scope} {r : Nat} (c : Cx sc r) (ns : List Int) : Prop := ∀ p, c.pen = some p → p.ns = ns
section
variable {sc : Scope} {r : Nat} {c : Cx sc r} {E : Value → Shared → Prop} {s : Shared} {Q : Value → Shared → Prop} {K : PV → Prop} {a : Led} {p q : PV} {v v' : Value} {m : Str → Option Value} {value slice : Expr} {ix : Ix} {n : Nat} {ns : List Int}
theorem Cx.N.pn {h : Heap} {D : Addr} (N : c.N n h a) (e : c.P = some D) : ∃ p, c.pen = some p ∧ p.D = D ∧ (∃ t k, (D, ({ cls := .type "list", data := .seq ⟨[.ref p.C, .int n t]⟩ k } : Obj)) ∈ a) ∧ ∃ k, (p.C, ({ cls := .type "list", data := .seq ⟨p.vs⟩ k } : Obj)) ∈ a := by
  obtain ⟨p, hp, rfl⟩ := Option.map_eq_some_iff.mp e
  exact ⟨p, hp, rfl, N.pok p hp⟩
theorem idxW_ok (h : idxW ns ix p q n K) (hN : NsOk c ns) (hn : notSlice slice = true) (N : c.N n s.heap a) (R : Rep c.P a v p) (R' : Rep c.P a v' q) (k : ∀ z v tk, Rep c.P a v z → K z → Q v { s with toks := tk }) : wpAny c.M c.A (subscriptTail value slice v v') Q E s := by
  unfold idxW at h
  split at h
  · obtain ⟨t, rfl, hl⟩ := R.x
    exact idxT_ok h hl hn R' k
  · obtain ⟨D, vs, i, rfl, _, hm, rs⟩ := R.t
    split at h
    · obtain ⟨u, rfl⟩ := R'.i rfl
      split at h
      · split at h
        · split at h
          · rename_i e _ _ ez
            have e := of_decide_eq_true e
            obtain ⟨x, ex, rx⟩ := rs.at ez
            have hlt := (List.getElem?_eq_some_iff.mp ex).1
            exact r_tup_item N.N hm (by omega) e.2 (seq_ix e.1 hlt) ex (k _ _ s.toks rx h) (subs_of hn)
          · exact h.elim
        · exact h.elim
      · exact h.elim
    · exact h.elim
  · obtain ⟨D, vs, i, rfl, _, hm, rs⟩ := R.l
    split at h
    · rename_i e
      obtain ⟨u, rfl⟩ := R'.i e
      cases ix with
      | const =>
        dsimp only [idxL] at h
        split at h
        · split at h
          · rename_i e _ _ ez
            have e := of_decide_eq_true e
            obtain ⟨x, ex, rx⟩ := rs.at ez
            exact r_led_item N.N hm e.1 e.2 ex (k _ _ s.toks rx h) (subs_of hn)
          · exact h.elim
        · exact h.elim
      | plain =>
        obtain ⟨I, ⟨⟨h0, h1, h2⟩, h3⟩, h4⟩ := h
        rename_i ps _ _ j
        have hlt : j.toNat < ps.length := by omega
        obtain ⟨x, ex, rx⟩ := rs.at (List.getElem?_eq_getElem hlt)
        obtain ⟨y, ey, hy⟩ := h3 _ (List.getElem_mem hlt)
        obtain ⟨t, rfl⟩ := rx.i ey
        exact r_led_item N.N hm h0 (by omega) ex (k _ _ s.toks (.int rfl) (h4 y hy)) (subs_of hn)
      | last => exact h.elim
    · exact h.elim
  · obtain ⟨D, vs, i, rfl, _, hm, rs⟩ := R.is
    split at h
    · rename_i e
      obtain ⟨u, rfl⟩ := R'.i e
      obtain ⟨⟨h0, h1, h2⟩, h3⟩ := h
      have hl := rs.length
      rename_i ps _ _ j
      have hlt : j.toNat < vs.length := by omega
      obtain ⟨t, ey⟩ := ints_at rs (List.getElem?_eq_getElem hlt)
      exact r_led_item N.N hm h0 (by omega) (List.getElem?_eq_getElem hlt) (by rw [ey]; exact k _ _ s.toks (.int rfl) h3) (subs_of hn)
    · exact h.elim
  · obtain ⟨D, rfl, e⟩ := R.pn
    obtain ⟨pn, hp, rfl, ⟨t, i, hm⟩, j, hm'⟩ := N.pn e
    split at h
    · obtain ⟨u, rfl⟩ := R'.i rfl
      split at h
      · rename_i e0
        obtain rfl := of_decide_eq_true e0
        have hne : c.P ≠ some pn.C := by rw [e]; exact pn.hne
        exact r_led_item N.N hm (by decide) (by decide) rfl (k (.ilst ns) _ s.toks (.ilst hne hm' (by rw [← hN pn hp]; exact pn.hi)) h) (subs_of hn)
      · split at h
        · rename_i e1
          obtain rfl := of_decide_eq_true e1
          exact r_led_item N.N hm (by decide) (by decide) rfl (k (.int n) _ s.toks (.int rfl) h) (subs_of hn)
        · exact h.elim
    · exact h.elim
  · exact h.elim
/-- a part of a slice -/
noncomputable def RepO (P : Option Addr) (a : Led) (v : Value) : Option PV → Prop
  | none => v = .none
  | some p => Rep P a v p
theorem RepO.up {P : Option Addr} {a b : Led} {v : Value} (u : Up P a b) : ∀ {p}, RepO P a v p → RepO P b v p
  | none, h => h
  | some _, h => Rep.up u h
theorem sliceT_ok {e : Expr} {x y z : Option Expr} {pos : Pos} {pa pb pd : Option PV} {va vb vd : Value} (h : sliceT e p pa pb pd K) (F : c.F s.heap m) (N : c.N n s.heap a) (R : Rep c.P a v p) (Ra : RepO c.P a va pa) (Rb : RepO c.P a vb pb) (Rd : RepO c.P a vd pd) (hz : pd = none → z = none)
    (k : ∀ z v h' tk b, c.F h' m → c.N n h' b → Up c.P a b → Rep c.P b v z → K z → Q v { s with heap := h', toks := tk }) :
    wpAny c.M c.A (subscriptTail e (.Slice x y z pos) v (.ref s.heap.objs.size)) Q E { s with heap := s.heap.push { cls := .type "slice", data := .fields #[va, vb, vd] } } := by
  unfold sliceT at h
  split at h
  · obtain ⟨t, rfl, hl⟩ := R.x
    split at h
    · cases Rd
      obtain rfl := hz rfl
      split at h
      · split at h
        · rename_i e1
          obtain ⟨u, rfl⟩ := Rep.i Ra e1
          split at h
          · split at h
            · rename_i e2
              obtain ⟨u', rfl⟩ := Rep.i Rb e2
              exact r_slice_ss F N.N h.1 (by omega) (fun t' h' k' F3 N3 => k _ _ _ _ a F3 ⟨N3, N.pok⟩ .refl (.str rfl (by show List.length _ ≤ _; rw [List.length_take, List.length_drop]; omega)) h.2) rfl lt_str
            · exact h.elim
          · cases Rb
            exact r_slice_sn F N.N h.1 (by omega) (fun t' h' k' F3 N3 => k _ _ _ _ a F3 ⟨N3, N.pok⟩ .refl (.str rfl (by show List.length _ ≤ _; rw [List.length_drop]; omega)) h.2) rfl lt_str
        · exact h.elim
      · cases Ra
        split at h
        · split at h
          · rename_i e2
            obtain ⟨u', rfl⟩ := Rep.i Rb e2
            exact r_slice_ns F N.N h.1 (by omega) (fun t' h' k' F3 N3 => k _ _ _ _ a F3 ⟨N3, N.pok⟩ .refl (.str rfl (by show List.length _ ≤ _; rw [List.length_take]; omega)) h.2) rfl lt_str
          · exact h.elim
        · exact h.elim
    · split at h
      · cases Ra
        split at h
        · cases Rb
          split at h
          · split at h
            · rename_i e3
              obtain rfl := of_decide_eq_true e3
              obtain ⟨u, rfl⟩ := Rep.i Rd rfl
              exact r_slice_rev F N.N (by omega) (fun t' h' k' F3 N3 => k _ _ _ _ a F3 ⟨N3, N.pok⟩ .refl (.str rfl (by show List.length _ ≤ _; rw [List.length_reverse]; exact hl)) h) (by cases z <;> with_unfolding_all rfl) lt_str
            · exact h.elim
          · exact h.elim
        · exact h.elim
      · exact h.elim
  · obtain ⟨D, vs, i, rfl, _, hm, rs⟩ := R.t
    split at h
    · rename_i hnm
      split at h
      · obtain ⟨x0, x1, x2, rfl, r0, r1, r2⟩ := rs.three
        split at h
        · cases Ra
          split at h
          · split at h
            · split at h
              · rename_i e3
                obtain rfl := of_decide_eq_true e3
                obtain ⟨u, rfl⟩ := Rep.i Rb rfl
                split at h
                · cases Rd
                  obtain rfl := hz rfl
                  refine r_tup_to2 F N.N hm (fun D' h' F3 N3 l => ?_) rfl (by cases e <;> first | (cases hnm; done) | exact fun _ => rfl)
                  have u : ∀ q ∈ a, q ∈ (D', ({ cls := .type "tuple", data := .seq #[x0, x1] } : Obj)) :: a := fun q hq => .tail _ hq
                  exact k _ _ _ _ _ F3 (N.sub _ N3 u) (.of u) (.tup (N.fresh (PySem.W.tb_ltOf l)) (.head _) (.cons (r0.up (.of u)) (.cons (r1.up (.of u)) .nil))) h
                · exact h.elim
              · exact h.elim
            · exact h.elim
          · exact h.elim
        · exact h.elim
      · exact h.elim
    · exact h.elim
  · exact h.elim
end
end

section
theorem starEach_cons {e : Expr} {es : List Expr} {env : Env} (h : starred e = false) : starEach (e :: es) env = (false, eval e env) :: starEach es env := by
  cases e <;> first | rfl | cases h
theorem plain_any {es : List Expr} {pos : Pos} {env : Env} (h : es.any starred = false) : (backTo pos (starEach es env)).any (·.1) = false := by
  induction es with
  | nil => rfl
  | cons e es ih =>
    have h' := Bool.or_eq_false_iff.mp (show (starred e || es.any starred) = false from h)
    rw [starEach_cons h'.1]
    show (false || (backTo pos (starEach es env)).any (·.1)) = false
    rw [ih h'.2]
    rfl
/-- a def of the text's, by its name -/
structure Fun (f : Str) (a : Addr) : Prop where
  at' : ∀ P, nsIn (Mine.hd.heap_1 P) mainGlobals f = some (some (.ref a))
  keep : ∀ P, keepIn (Mine.hd.heap_1 P) (.ref a) = true
theorem free_int : ∀ P, nsIn (Mine.hd.heap_1 P) mainGlobals (Str.ofString "int") = some none := fun P => by k_is
theorem free_abs : ∀ P, nsIn (Mine.hd.heap_1 P) mainGlobals (Str.ofString "abs") = some none := fun P => by k_is
theorem free_len : ∀ P, nsIn (Mine.hd.heap_1 P) mainGlobals (Str.ofString "len") = some none := fun P => by k_is
theorem base_of {o : Expr} {a : Str} {env : Env} {t : Sem Value} (h : notCall o = true) : attributeBase o a env t = t := by
  cases o <;> first | rfl | cases h
section
variable {sc : Scope} {r : Nat} (c : Cx sc r)
noncomputable def SE (E : EF) : Prop := ∀ {e σ n K}, E e σ n K → EvW c e σ n K
noncomputable def ST (Tt : TF) : Prop := ∀ {e σ n K}, Tt e σ n K → TrW c e σ n K
noncomputable def SA (A : AF) : Prop := ∀ {pol e σ n K}, A pol e σ n K → TrW c e σ n fun b k => b = pol ∧ K k
noncomputable def TOk (T : List Ent) : Prop := ∀ e ∈ T, Fun e.name e.addr ∧ (e.room ≤ r → ∀ ps n K, e.spec ps n K → CallW c e.addr ps n K)
theorem Cx.units : c.A.units + 64 < cLine := by have := c.hu; show c.un + 64 < cLine; omega
end
section
variable {sc : Scope} {r : Nat} {c : Cx sc r} {E : EF} {Tt : TF} {A : AF} {Tb : List Ent} {ns : List Int} {σ : Sig} {n : Nat} {K : KV}
theorem argsW_ok (hE : SE c E) : ∀ {es : List Expr} {K : List PV → Nat → Prop} {n : Nat}, es.any starred = false → argsW E es σ n K → EvLW c es σ n K
  | [], K, n, _, h => fun pos s m a Q E' F N S k => args_nil (k _ _ _ a _ _ F N .refl .nil rfl h)
  | e :: es, K, n, hs, h => fun pos s m a Q E' F N S k => by
    have hs' := Bool.or_eq_false_iff.mp (show (starred e || es.any starred) = false from hs)
    exact args_cons (hE h s m a _ _ F N S fun v g tk b p n' F' N' u R h' => argsW_ok hE hs'.2 h' pos _ m b _ _ F' N' (S.up u) fun vs g' tk' b' ps n'' F'' N'' u' R' hl h'' => k _ _ _ b' _ _ F'' N'' (u.trans u') (.cons (R.up u') R') (congrArg Nat.succ hl) h'') (starEach_cons hs'.1)
theorem optW_ok (hE : SE c E) {e : Option Expr} {K : Option PV → Nat → Prop} (h : optW E e σ n K) {s : Shared} {m : Str → Option Value} {a : Led} {Q E' : Value → Shared → Prop} (F : c.F s.heap m) (N : c.N n s.heap a) (S : c.S m a σ)
    (k : ∀ v h' tk' b p k, c.F h' m → c.N k h' b → Up c.P a b → RepO c.P b v p → (p = none → e = none) → K p k → Q v { s with heap := h', toks := tk' }) : wpAny c.M c.A (evalPart e c.env) Q E' s := by
  cases e with
  | none => exact evalPart_none_step (k _ _ _ a none _ F N .refl rfl (fun _ => rfl) h)
  | some e => exact evalPart_some_step (hE h s m a _ _ F N S fun v g tk b p n' F' N' u R h' => k _ _ _ b (some p) _ F' N' u R (fun e => nomatch e) h')
theorem ev_bin (hE : SE c E) {a b : Expr} {op : Operator} {pos : Pos} (h : E a σ n fun p n => E b σ n fun q n => binW op p q fun z => K z n) : EvW c (.BinOp a op b pos) σ n K := fun s m led Q E' F N S k =>
  wpAny_BinOp (hE h s m led _ _ F N S fun v g tk l1 p n1 F1 N1 u1 R1 h1 => hE h1 _ m l1 _ _ F1 N1 (S.up u1) fun v' g' tk' l2 q n2 F2 N2 u2 R2 h2 => binW_ok h2 (R1.up u2) R2 fun z v'' tk'' R'' hz => k _ _ _ l2 z _ F2 N2 (u1.trans u2) R'' hz)
/-- two sides compared -/
theorem two_cmp (hE : SE c E) {a b : Expr} {op : CmpOp} {K : Bool → Nat → Prop} (h : E a σ n fun p n => E b σ n fun q n => cmpW op p q fun x => K x n) {s : Shared} {m : Str → Option Value} {led : Led} {Q E' : Value → Shared → Prop} (F : c.F s.heap m) (N : c.N n s.heap led) (S : c.S m led σ)
    (k : ∀ x h' tk' b k, c.F h' m → c.N k h' b → Up c.P led b → K x k → Q (.bool x) { s with heap := h', toks := tk' }) : wpAny c.M c.A (eval a c.env) (fun v s₁ => wpAny c.M c.A (eval b c.env) (fun u s₂ => wpAny c.M c.A (compareOp op v u) Q E' s₂) E' s₁) E' s :=
  hE h s m led _ _ F N S fun v g tk l1 p n1 F1 N1 u1 R1 h1 => hE h1 _ m l1 _ _ F1 N1 (S.up u1) fun v' g' tk' l2 q n2 F2 N2 u2 R2 h2 => cmpW_ok h2 N2.N c.units (R1.up u2) R2 fun x hx => k x _ _ l2 _ F2 N2 (u1.trans u2) hx
theorem cmp_two (hE : SE c E) {a b d : Expr} {op op' : CmpOp} {K : Bool → Nat → Prop} (h : E a σ n fun p n => E b σ n fun q n => cmpW op p q fun x => Br x (E d σ n fun z n => cmpW op' q z fun y => K y n) (K false n)) {s : Shared} {m : Str → Option Value} {led : Led} {E' : Value → Shared → Prop} (F : c.F s.heap m) (N : c.N n s.heap led) (S : c.S m led σ) {Z : Value → Value → Value → Bool → Shared → Prop}
    (k0 : ∀ v u h' tk' b k, c.F h' m → c.N k h' b → Up c.P led b → K false k → Z v u (.bool false) false { s with heap := h', toks := tk' }) (k1 : ∀ v u h' tk' b q k, c.F h' m → c.N k h' b → Up c.P led b → Rep c.P b u q → (E d σ k fun z n => cmpW op' q z fun y => K y n) → Z v u (.bool true) true { s with heap := h', toks := tk' }) :
    wpAny c.M c.A (eval a c.env) (fun v s₁ => wpAny c.M c.A (eval b c.env) (fun u s₂ => wpAny c.M c.A (compareOp op v u) (fun x s₃ => wpAny c.M c.A (truthy x) (Z v u x) E' s₃) E' s₂) E' s₁) E' s :=
  hE h s m led _ _ F N S fun v g tk l1 p n1 F1 N1 u1 R1 h1 => hE h1 _ m l1 _ _ F1 N1 (S.up u1) fun v' g' tk' l2 q n2 F2 N2 u2 R2 h2 => cmpW_ok h2 N2.N c.units (R1.up u2) R2 fun x hx => wpAny_truthy_bool (by
    cases x with
    | false => exact k0 _ _ _ _ l2 _ F2 N2 (u1.trans u2) hx
    | true => exact k1 _ _ _ _ l2 q _ F2 N2 (u1.trans u2) R2 hx)
theorem last_cmp (hE : SE c E) {d : Expr} {op' : CmpOp} {q : PV} {u : Value} {K : Bool → Nat → Prop} (h : E d σ n fun z n => cmpW op' q z fun y => K y n) {s : Shared} {m : Str → Option Value} {led : Led} {Q E' : Value → Shared → Prop} (F : c.F s.heap m) (N : c.N n s.heap led) (S : c.S m led σ) (R : Rep c.P led u q)
    (k : ∀ x h' tk' b k, c.F h' m → c.N k h' b → Up c.P led b → K x k → Q (.bool x) { s with heap := h', toks := tk' }) : wpAny c.M c.A (eval d c.env) (fun v s₂ => wpAny c.M c.A (compareOp op' u v) Q E' s₂) E' s :=
  hE h s m led _ _ F N S fun v g tk l1 p n1 F1 N1 u1 R1 h1 => cmpW_ok h1 N1.N c.units (R.up u1) R1 fun x hx => k x _ _ l1 _ F1 N1 u1 hx
theorem blt_ok {f : Str} {x : Blt} (h : bltOf f = some x) : ∃ f0, bootBuiltins f = some f0 ∧ f ≠ Str.ofString "__name__" ∧ (∀ P, nsIn (Mine.hd.heap_1 P) mainGlobals f = some none) ∧ (∀ {env : Env} {e : Expr} {es : List Expr} {pos : Pos} {Q E' : Value → Shared → Prop} {s : Shared}, wpAny c.M c.A (spliced (backTo pos (starEach (e :: es) env))) (fun vs s₁ => wpAny c.M c.A (call f0 vs) Q E' s₁) E' s → starred e = false → es.any starred = false → wpAny c.M c.A (callWith pos f0 [] (backTo pos (starEach (e :: es) env)) []) Q E' s) ∧
    ∀ {ps : List PV} {K : PV → Prop} {s : Shared} {a : Led} {vs : List Value} {Q E' : Value → Shared → Prop} {n : Nat}, bltW x ps K → c.N n s.heap a → Reps c.P a vs ps → (∀ v tk z, Rep c.P a v z → K z → Q v { s with toks := tk }) → wpAny c.M c.A (call f0 vs) Q E' s := by
  unfold bltOf at h
  split at h
  · rename_i e
    obtain rfl := eq_of_beq e
    cases h
    refine ⟨_, boot_int, by decide, free_int, fun h h1 h2 => PySem.Pv.callWith_type1 h (starEach_cons h1) (plain_any h2), fun h N R k => ?_⟩
    unfold bltW at h
    split at h
    · obtain _ | ⟨R1, _ | _⟩ := R
      dsimp only at h
      split at h
      · obtain ⟨t, rfl⟩ := R1.s rfl
        split at h
        · exact r_int_T (k _ _ _ (.int rfl) h)
        · exact h.elim
      · rw [R1.b]
        exact r_int_bool (k _ _ _ (.int rfl) h)
      · exact h.elim
    · exact h.elim
  · split at h
    · rename_i e
      obtain rfl := eq_of_beq e
      cases h
      refine ⟨_, boot_abs, by decide, free_abs, fun h h1 h2 => callWith_method1 h (starEach_cons h1) (plain_any h2), fun h N R k => ?_⟩
      unfold bltW at h
      split at h
      · obtain _ | ⟨R1, _ | _⟩ := R
        dsimp only at h
        split at h
        · rename_i e
          obtain ⟨t, rfl⟩ := R1.i e
          exact call_abs_int fun u tk => k _ _ _ (.int rfl) h
        · exact h.elim
      · exact h.elim
    · split at h
      · rename_i e
        obtain rfl := eq_of_beq e
        cases h
        refine ⟨_, boot_len, by decide, free_len, fun h h1 h2 => callWith_method1 h (starEach_cons h1) (plain_any h2), fun h N R k => ?_⟩
        unfold bltW at h
        split at h
        · obtain _ | ⟨R1, _ | _⟩ := R
          dsimp only at h
          split at h
          · obtain ⟨D, vs, i, rfl, _, hm, rs⟩ := R1.is
            have hl := rs.length
            refine len_list (items := vs.toArray) ⟨_, (N.N _ hm).1, rfl, _, rfl⟩ (by simp; omega) ?_
            exact k _ _ _ (.int (by simp [PV.toI, hl])) h.2
          · exact h.elim
        · exact h.elim
      · exact nomatch h
theorem callN_ok (hE : SE c E) (hT : TOk c Tb) {f : Str} {pf pos : Pos} {e : Expr} {es : List Expr} (h : callN Tb sc r E f (e :: es) σ n K) : EvW c (.Call (.Name f pf) (e :: es) [] pos) σ n K := fun s m led Q E' F N S k => by
  unfold callN at h
  split at h
  · rename_i hK
    split at h
    · exact h.elim
    · rename_i hs
      have hs1 := Bool.or_eq_false_iff.mp hs
      have hs' := Bool.or_eq_false_iff.mp (show (starred e || es.any starred) = false from hs1.2)
      split at h
      · rename_i en hf
        split at h
        · rename_i hr
          have hen := hT en (List.mem_of_find?_eq_some hf)
          have hnm : en.name = f := eq_of_beq (List.find?_some (p := fun e : Ent => e.name == f) hf)
          subst hnm
          refine Call_ (nameX_K F c.X (topRead_of c.TP) (hen.1.at' _) ?_ c.hk hK hs1.1)
          refine callWith_K (c.X) (hen.1.keep _) (argsW_ok hE hs1.2 h _ s m led _ _ F N S fun vs g tk b ps n1 F1 N1 u R hl h1 => ⟨c.X.keeps F1.keep, ?_⟩) (starEach_cons hs'.1) (plain_any hs'.2)
          exact hen.2 (Nat.le_of_ble_eq_true hr) ps n1 K h1 _ m b vs _ _ F1 N1 R fun v h' tk' b' p k' F2 N2 u' R' hk => k v h' tk' b' p k' F2 N2 (u.trans u') R' hk
        · exact h.elim
      · split at h
        · rename_i hb
          obtain ⟨f0, b1, b2, b3, b4, b5⟩ := blt_ok (c := c) hb
          refine Call_ (nameX_B F c.X (topRead_of c.TP) (b3 _) b1 b2 ?_ c.hk hK hs1.1)
          refine b4 (argsW_ok hE hs1.2 h _ s m led _ _ F N S fun vs g tk b ps n1 F1 N1 u R hl h1 => ?_) hs'.1 hs'.2
          exact b5 h1 N1 R fun v tk z R' hk => k v _ _ b z _ F1 N1 u R' hk
        · exact h.elim
  · exact h.elim
theorem methOk {env : Env} {o e : Expr} {name : Str} {pa pc : Pos} (ho : notCall o = true) (hs : starred e = false) (hl : (pa.endLine == pc.line) = true) : eval (.Call (.Attribute o name pa) [e] [] pc) env = (do
      let ov ← eval o env
      standAt pa.atName
      let (f, first) ← holding [ov] (getMethod ov name (do return (← importBound o env).getD true))
      callWith pc f first (backTo pc (starEach [e] env)) []) := by
  have h1 : starEach [e] env = [(false, eval e env)] := starEach_cons hs
  rw [show eval (.Call (.Attribute o name pa) [e] [] pc) env = (do let ov ← attributeBase o name env (eval o env); standAt pa.atName; methodCall o name pa pc env ov 1 (backTo pc (starEach [e] env)) (backToKw pc (keywordEach [] env))) from rfl, base_of ho, h1]
  congr 1
  funext ov
  congr 1
  funext _
  unfold methodCall calleeOf methodCallPos
  have hf : methodCallForm 1 (backTo pc [(false, eval e env)]) (backToKw pc (keywordEach [] env)) = true := rfl
  rw [hf]
  simp only [if_true, hl, Bool.not_true, Bool.false_or]
  rfl
theorem findW_ok {prog : Program} {w : World} {A : Around} {s : Shared} {Q E' : Value → Shared → Prop} {P : Option Addr} {a : Led} {o : Expr} {l : List Bool} {t : Tok} {q : PV} {v : Value} {K : PV → Prop} (h : findW o l q K) (R : Rep P a v q) (k : ∀ z v tk, Rep P a v z → K z → Q v { s with toks := tk }) : wpAny (model prog w) A (call (.builtin "str.find") [.str (T l) t, v]) Q E' s := by
  unfold findW at h
  split at h
  · obtain ⟨t', rfl⟩ := R.s rfl
    split at h
    · split at h
      · split at h
        · exact r_find01 rfl (k _ _ _ (.int rfl) h)
        · exact h.elim
      · exact h.elim
    · split at h
      · exact r_find rfl rfl (k _ _ _ (.int rfl) h)
      · exact h.elim
  · exact h.elim
theorem methW_ok (hE : SE c E) {o : Expr} {nm : Str} {pa pos : Pos} {args : List Expr} (h : methW E o nm pa args pos σ n K) : EvW c (.Call (.Attribute o nm pa) args [] pos) σ n K := fun s m led Q E' F N S k => by
  unfold methW at h
  split at h
  · split at h
    · rename_i hc
      simp only [Bool.and_eq_true, Bool.not_eq_true'] at hc
      obtain ⟨⟨⟨h1, h2⟩, h3⟩, h4⟩ := hc
      obtain rfl := eq_of_beq h1
      refine MethodCall_ (hE h s m led _ _ F N S fun v g tk l1 p n1 F1 N1 u1 R1 h => ?_) (methOk h2 h3 h4)
      split at h
      · obtain ⟨t, rfl⟩ := R1.s rfl
        refine PySem.GM.find (callWith_method1 (args_cons (hE h _ m l1 _ _ F1 N1 (S.up u1) fun v' g' tk' l2 q n2 F2 N2 u2 R2 h => args_nil ?_) (starEach_cons h3)) (starEach_cons h3))
        exact findW_ok h R2 fun z v tk R hz => k v g' tk l2 z _ F2 N2 (u1.trans u2) R hz
      · exact h.elim
    · exact h.elim
  · exact h.elim
theorem Br.true_ {b : Bool} {X Y : Prop} (h : Br b X Y) (e : b = true) : X := by subst e; exact h
theorem Br.false_ {b : Bool} {X Y : Prop} (h : Br b X Y) (e : b = false) : Y := by subst e; exact h
theorem to1_rep {P : Option Addr} {a : Led} {v : Value} {p q : PV} (h : p.to1 q) (R : Rep P a v p) : Rep P a v q := by
  unfold PV.to1 at h
  split at h
  · split at h
    · rename_i e _ _ e'
      subst h
      obtain ⟨t, rfl⟩ := R.i e
      exact .int e'
    · exact h.elim
  · exact h ▸ R
theorem tos_rep {P : Option Addr} {a : Led} : ∀ {ps qs : List PV} {vs : List Value}, tos ps qs → Reps P a vs ps → Reps P a vs qs
  | [], [], _, _, .nil => .nil
  | _ :: _, _ :: _, _, h, .cons r rs => .cons (to1_rep h.1 r) (tos_rep h.2 rs)
theorem to_rep {P : Option Addr} {a : Led} {v : Value} {p q : PV} (h : p.to q) (R : Rep P a v p) : Rep P a v q := by
  unfold PV.to at h
  split at h
  · obtain ⟨D, vs, i, rfl, hp, hm, rs⟩ := R.t
    split at h
    · exact .tup hp hm (tos_rep h rs)
    · exact h.elim
  · exact to1_rep h R
theorem ev_sub (hE : SE c E) (hN : NsOk c ns) {e i : Expr} {pos : Pos} (hn : notSlice i = true) (h : E e σ n fun p n => E i σ n fun q n => idxW ns (ixOf i) p q n fun z => K z n) : EvW c (.Subscript e i pos) σ n K := fun s m led Q E' F N S k =>
  Subscript_ (hE h s m led _ _ F N S fun v g tk l1 p n1 F1 N1 u1 R1 h1 => hE h1 _ m l1 _ _ F1 N1 (S.up u1) fun v' g' tk' l2 q n2 F2 N2 u2 R2 h2 => idxW_ok h2 hN hn N2 (R1.up u2) R2 fun z v'' tk'' R'' hz => k _ _ _ l2 z _ F2 N2 (u1.trans u2) R'' hz)
theorem ev_slice (hE : SE c E) {e : Expr} {x y z : Option Expr} {p' pos : Pos} (h : E e σ n fun p n => optW E x σ n fun a n => optW E y σ n fun b n => optW E z σ n fun d n => sliceT e p a b d fun z => K z n) : EvW c (.Subscript e (.Slice x y z p') pos) σ n K := fun s m led Q E' F N S k =>
  Subscript_ (hE h s m led _ _ F N S fun v g tk l1 p n1 F1 N1 u1 R1 h1 => wpAny_Slice (optW_ok hE h1 F1 N1 (S.up u1) fun va g2 tk2 l2 pa n2 F2 N2 u2 R2 _ h2 => optW_ok hE h2 F2 N2 (S.up (u1.trans u2)) fun vb g3 tk3 l3 pb n3 F3 N3 u3 R3 _ h3 => optW_ok hE h3 F3 N3 (S.up ((u1.trans u2).trans u3)) fun vd g4 tk4 l4 pd n4 F4 N4 u4 R4 hz h4 =>
    sliceT_ok (s := { s with heap := g4, toks := tk4 }) h4 F4 N4 (R1.up ((u2.trans u3).trans u4)) (R2.up (u3.trans u4)) (R3.up u4) R4 hz fun z v h' tk b F5 N5 u5 R5 hz => k v _ _ b z _ F5 N5 ((((u1.trans u2).trans u3).trans u4).trans u5) R5 hz))
theorem ev_tup (hE : SE c E) {es : List Expr} {k' : Nat} {pos : Pos} (hz : Nat.ble es.length 1000 = true) (hs : es.any starred = false) (h : argsW E es σ n fun ps n => K (.tup ps) n) : EvW c (.Tuple es k' pos) σ n K := fun s m led Q E' F N S k =>
  Tuple_ (argsW_ok hE hs h _ s m led _ _ F N S fun vs g tk b ps n1 F1 N1 u R hl h1 => kup_newTuple F1 N1.N (fun D h' F2 N2 l => k _ _ _ _ (.tup ps) _ F2 (N1.sub _ N2 fun q hq => .tail _ hq) (u.trans (.of fun q hq => .tail _ hq)) (.tup (N1.fresh l) (.head _) (R.up (.of fun q hq => .tail _ hq))) h1) (by have := Nat.le_of_ble_eq_true hz; rw [R.len, hl, sizeLine_eq]; omega))
theorem ev_lst (hE : SE c E) {es : List Expr} {pos : Pos} (hz : Nat.ble es.length 1000 = true) (hs : es.any starred = false) (h : argsW E es σ n fun ps n => K (.lst ps) n) : EvW c (.List es pos) σ n K := fun s m led Q E' F N S k =>
  List_ (argsW_ok hE hs h _ s m led _ _ F N S fun vs g tk b ps n1 F1 N1 u R hl h1 => newList_K F1 N1.N (fun D h' F2 N2 l => k _ _ _ _ (.lst ps) _ F2 (N1.sub _ N2 fun q hq => .tail _ hq) (u.trans (.of fun q hq => .tail _ hq)) (.lst (N1.fresh l) (.head _) (R.up (.of fun q hq => .tail _ hq))) h1) (by have := Nat.le_of_ble_eq_true hz; rw [R.len, hl, sizeLine_eq]; omega))
end
end

section
theorem isTrue_of_plain {e : Expr} {env : Env} {whole : Sem Value} (h : plainTest e = true) : isTrue e env whole = (do let v ← whole; standAt e.pos; holding [v] (truthy v)) := by
  cases e with
  | UnaryOp op x p => cases op <;> first | rfl | cases h
  | _ => first | rfl | cases h
section
variable {sc : Scope} {r : Nat} {c : Cx sc r} {E : EF} {Tt : TF} {A : AF} {Tb : List Ent} {ns : List Int} {σ : Sig} {n : Nat}
theorem stepE_ok (hT : TOk c Tb) (hN : NsOk c ns) (hE : SE c E) (hTt : ST c Tt) : SE c (stepE Tb ns sc r E Tt) := fun {e σ n K} h => by
  cases e with
  | Name x pos =>
    intro s m led Q E' F N S k
    dsimp only [stepE] at h
    split at h
    · rename_i hx
      obtain ⟨hd, v, R, hs⟩ := S _ _ hx
      rcases hs with ⟨hl, hv⟩ | ⟨hl, ca, o, h1, _, h2, h3⟩
      · exact nameX_L F hv (k v s.heap s.toks led _ _ F N .refl R h) c.hk hl hd
      · exact nameX_C N.N h1 h2 h3 (k v s.heap s.toks led _ _ F N .refl R h) c.hk hl hd
    · exact h.elim
  | Constant x i pos =>
    intro s m led Q E' F N S k
    dsimp only [stepE] at h
    cases x with
    | int x => exact wpAny_Constant_int (k _ _ _ led _ _ F N .refl (.int rfl) h)
    | bool x => exact Constant_bool (k _ _ _ led _ _ F N .refl .bool h)
    | none => exact wpAny_Constant_none (k _ _ _ led _ _ F N .refl .none h)
    | str x =>
      have h : litW x fun p => K p n := h
      unfold litW at h
      refine Constant_str ?_
      have go : ∀ {p}, p.toS = some x → p.sm → K p n → Q (.str x s.toks) { s with toks := s.toks + 1 } := fun {p} e b h => k _ _ _ led p _ F N .refl (.str e b) h
      split at h
      · rename_i e; obtain rfl := eq_of_beq e; exact go rfl (Nat.le_of_ble_eq_true rfl) h
      · split at h
        · rename_i e; obtain rfl := eq_of_beq e; exact go rfl (Nat.le_of_ble_eq_true rfl) h
        · split at h
          · rename_i e; obtain rfl := eq_of_beq e; exact go rfl (Nat.le_of_ble_eq_true rfl) h
          · split at h
            · rename_i e; obtain rfl := eq_of_beq e; exact go rfl (Nat.le_of_ble_eq_true rfl) h
            · split at h
              · rename_i e; obtain rfl := eq_of_beq e; exact go rfl (Nat.le_of_ble_eq_true rfl) h
              · exact go (p := .str x) rfl trivial h
    | _ => exact h.elim
  | BinOp a op b pos => exact ev_bin hE h
  | UnaryOp op a pos =>
    cases op with
    | USub =>
      intro s m led Q E' F N S k
      refine UnaryOp_ (hE h s m led _ _ F N S fun v g tk b p n1 F1 N1 u R h => ?_)
      split at h
      · rename_i e
        obtain ⟨t, rfl⟩ := R.i e
        exact neg_int (k _ _ _ b _ _ F1 N1 u (.int rfl) h)
      · exact h.elim
    | _ => exact h.elim
  | Compare a ops bs pos =>
    intro s m led Q E' F N S k
    dsimp only [stepE] at h
    split at h
    · split at h
      · split at h
        · exact h.elim
        · rename_i hm
          exact wpAny_Compare1 (two_cmp (K := fun x n => K (.bool x) n) hE h F N S fun x h' tk b k' F1 N1 u hk => k _ _ _ b _ _ F1 N1 u .bool hk) hm
      · exact h.elim
    · split at h
      · split at h
        · exact h.elim
        · rename_i hm
          refine Compare_chain (wpAny_mono (cmp_two (K := fun x n => K (.bool x) n) (Z := fun v u x t s₃ => if t then wpAny c.M c.A (compareChain pos u [_] [eval _ c.env]) Q E' s₃ else Q x s₃) hE h F N S (fun v u h' tk' b k' F1 N1 u1 h1 => k _ _ _ b _ _ F1 N1 u1 .bool h1) (fun v u h' tk' b q k' F1 N1 u1 R1 h1 => ?_)) (fun _ _ x => chain_link x) fun _ _ x => x) hm
          exact chain_last (last_cmp (K := fun x n => K (.bool x) n) hE h1 F1 N1 (S.up u1) R1 fun x h'' tk'' b' k'' F2 N2 u2 h2 => k _ _ _ b' _ _ F2 N2 (u1.trans u2) .bool h2)
      · exact h.elim
    · exact h.elim
  | BoolOp op es pos =>
    intro s m led Q E' F N S k
    dsimp only [stepE] at h
    split at h
    · exact h.elim
    · exact BoolOp_one (hE h s m led _ _ F N S k)
    · cases op with
      | And =>
        refine BoolOp_and (hE h s m led _ _ F N S fun v g tk b p n1 F1 N1 u R h => ?_)
        split at h
        · rw [R.b]
          refine wpAny_truthy_bool ?_
          rename_i x
          cases x with
          | false => exact k _ _ _ b _ _ F1 N1 u .bool h
          | true => exact hE h _ m b _ _ F1 N1 (S.up u) fun v' g' tk' b' p' n2 F2 N2 u2 R2 h2 => k _ _ _ b' _ _ F2 N2 (u.trans u2) R2 h2
        · exact h.elim
      | Or =>
        refine BoolOp_or (hE h s m led _ _ F N S fun v g tk b p n1 F1 N1 u R h => ?_)
        split at h
        · rw [R.b]
          refine wpAny_truthy_bool ?_
          rename_i x
          cases x with
          | true => exact k _ _ _ b _ _ F1 N1 u .bool h
          | false => exact hE h _ m b _ _ F1 N1 (S.up u) fun v' g' tk' b' p' n2 F2 N2 u2 R2 h2 => k _ _ _ b' _ _ F2 N2 (u.trans u2) R2 h2
        · exact h.elim
  | IfExp t a b pos =>
    intro s m led Q E' F N S k
    dsimp only [stepE] at h
    split at h
    · refine IfExp_ (hTt h s m led _ _ F N S fun x g tk l1 n1 F1 N1 u h => ?_)
      cases x with
      | true => exact hE h _ m l1 _ _ F1 N1 (S.up u) fun v' g' tk' b' p' n2 F2 N2 u2 R2 h2 => k _ _ _ b' _ _ F2 N2 (u.trans u2) R2 h2
      | false => exact hE h _ m l1 _ _ F1 N1 (S.up u) fun v' g' tk' b' p' n2 F2 N2 u2 R2 h2 => k _ _ _ b' _ _ F2 N2 (u.trans u2) R2 h2
    · have go : ∀ {I : PV → Prop} {x : Bool} {l1 n1 g tk p}, (∀ {q v b}, I q → Rep c.P b v q → Rep c.P b v p) → c.F g m → c.N n1 g l1 → Up c.P led l1 → (x = true → E a σ n1 fun q k => I q ∧ k = n1) → (x = false → E b σ n1 fun q k => I q ∧ k = n1) → K p n1 → if x = true then wpAny c.M c.A (eval a c.env) Q E' { s with heap := g, toks := tk } else wpAny c.M c.A (eval b c.env) Q E' { s with heap := g, toks := tk } := fun {I x l1 n1 g tk p} hr F1 N1 u h1 h2 h3 => by
        have fin : ∀ {e : Expr}, (E e σ n1 fun q k => I q ∧ k = n1) → wpAny c.M c.A (eval e c.env) Q E' { s with heap := g, toks := tk } := fun {e} h => hE h _ m l1 _ _ F1 N1 (S.up u) fun v' g' tk' b' p' n2 F2 N2 u2 R2 h5 => by
          obtain ⟨h5, rfl⟩ := h5
          exact k _ _ _ b' _ _ F2 N2 (u.trans u2) (hr h5 R2) h3
        cases x with
        | true => exact fin (h1 rfl)
        | false => exact fin (h2 rfl)
      split at h
      · refine IfExp_ (hTt h s m led _ _ F N S fun x g tk l1 n1 F1 N1 u h => ?_)
        obtain ⟨z, ⟨h1, h2⟩, h3⟩ := h
        exact go (fun h R => to_rep h R) F1 N1 u h1 h2 h3
      · refine IfExp_ (hTt h s m led _ _ F N S fun x g tk l1 n1 F1 N1 u h => ?_)
        obtain ⟨z, ⟨h1, h2⟩, h3⟩ := h
        exact go (fun h R => h ▸ R) F1 N1 u h1 h2 h3
  | Subscript e i pos =>
    cases i with
    | Slice x y z p' => exact ev_slice hE h
    | _ => exact ev_sub hE hN rfl h
  | Tuple es i pos =>
    dsimp only [stepE] at h
    split at h
    · rename_i e
      have e := Bool.and_eq_true_iff.mp e
      exact ev_tup hE e.1 (by simpa using e.2) h
    · exact h.elim
  | List es pos =>
    dsimp only [stepE] at h
    split at h
    · rename_i e
      have e := Bool.and_eq_true_iff.mp e
      exact ev_lst hE e.1 (by simpa using e.2) h
    · exact h.elim
  | Call f args kw pos =>
    dsimp only [stepE] at h
    split at h
    · split at h
      · split at h
        · exact h.elim
        · exact callN_ok hE hT h
      · exact methW_ok hE h
      · exact h.elim
    · exact h.elim
  | _ => exact h.elim
theorem bools_ok (hTt : ST c Tt) {op : BoolOp} : ∀ {es : List Expr} {K : Bool → Nat → Prop} {n : Nat}, boolsW Tt op es σ n K → TrBW c op es σ n K
  | [], K, n, h => fun pos wh s m led Q E' F N S k => by
    cases op with
    | And => exact isTrue_and_nil (k _ _ _ led _ F N .refl h)
    | Or => exact isTrue_or_nil (k _ _ _ led _ F N .refl h)
  | e :: es, K, n, h => fun pos wh s m led Q E' F N S k => by
    dsimp only [boolsW] at h
    cases op with
    | And =>
      refine isTrue_and (hTt h s m led _ _ F N S fun x g tk b n1 F1 N1 u h => ?_)
      cases x with
      | false => exact k _ _ _ b _ F1 N1 u h
      | true => exact bools_ok hTt h pos wh _ m b _ _ F1 N1 (S.up u) fun x g' tk' b' n2 F2 N2 u2 h2 => k _ _ _ b' _ F2 N2 (u.trans u2) h2
    | Or =>
      refine isTrue_or (hTt h s m led _ _ F N S fun x g tk b n1 F1 N1 u h => ?_)
      cases x with
      | true => exact k _ _ _ b _ F1 N1 u h
      | false => exact bools_ok hTt h pos wh _ m b _ _ F1 N1 (S.up u) fun x g' tk' b' n2 F2 N2 u2 h2 => k _ _ _ b' _ F2 N2 (u.trans u2) h2
theorem stepT_ok (hE : SE c E) (hTt : ST c Tt) : ST c (stepT E Tt) := fun {e σ n K} h => by
  intro s m led Q E' F N S k
  unfold stepT at h
  split at h
  · rename_i hp
    refine isTrue_plain (hE h s m led _ _ F N S fun v g tk b p n1 F1 N1 u R h => ?_) (isTrue_of_plain hp)
    split at h
    · rw [R.b]
      exact wpAny_truthy_bool (k _ _ _ b _ F1 N1 u h)
    · exact h.elim
  · split at h
    · split at h
      · exact isTrue_not (hTt h s m led _ _ F N S fun x g tk b n1 F1 N1 u h => k _ _ _ b _ F1 N1 u h)
      · exact h.elim
    · exact bools_ok hTt h _ _ s m led _ _ F N S k
    · split at h
      · split at h
        · split at h
          · exact h.elim
          · rename_i hm
            refine wpAny_isTrue_Compare1 (wpAny_mono (two_cmp hE h F N S (Q := fun v s₂ => wpAny c.M c.A (truthy v) Q E' s₂) fun x h' tk b k' F1 N1 u hk => wpAny_truthy_bool (k _ _ _ b _ F1 N1 u hk)) (fun _ _ x => x) fun _ _ x => x) hm
        · exact h.elim
      · split at h
        · split at h
          · exact h.elim
          · rename_i hm
            refine isTrue_chain (wpAny_mono (cmp_two (Z := fun v u x t s₃ => if t then wpAny c.M c.A (testChain _ u [_] [eval _ c.env]) Q E' s₃ else Q false s₃) hE h F N S (fun v u h' tk' b k' F1 N1 u1 h1 => k _ _ _ b _ F1 N1 u1 h1) (fun v u h' tk' b q k' F1 N1 u1 R1 h1 => ?_)) (fun _ _ x => test_link x) fun _ _ x => x) hm
            exact test_last (last_cmp (Q := fun v s₂ => wpAny c.M c.A (truthy v) Q E' s₂) hE h1 F1 N1 (S.up u1) R1 fun x h'' tk'' b' k'' F2 N2 u2 h2 => wpAny_truthy_bool (k _ _ _ b' _ F2 N2 (u1.trans u2) h2))
        · exact h.elim
      · exact h.elim
    · exact h.elim
theorem TrW.mono {e : Expr} {K K' : Bool → Nat → Prop} (h : TrW c e σ n K) (k : ∀ b n, K b n → K' b n) : TrW c e σ n K' := fun s m led Q E' F N S q => h s m led Q E' F N S fun x h' tk b n1 F1 N1 u h => q x h' tk b n1 F1 N1 u (k _ _ h)
theorem allA_or (hA : SA c A) : ∀ {es : List Expr} {K : Nat → Prop} {n : Nat}, allA (A false) es σ n K → TrBW c .Or es σ n fun b k => b = false ∧ K k
  | [], K, n, h => fun pos wh s m led Q E' F N S k => isTrue_or_nil (k _ _ _ led _ F N .refl ⟨rfl, h⟩)
  | e :: es, K, n, h => fun pos wh s m led Q E' F N S k => isTrue_or (hA h s m led _ _ F N S fun x g tk b n1 F1 N1 u h => by
      obtain ⟨rfl, h⟩ := h
      exact allA_or hA h pos wh _ m b _ _ F1 N1 (S.up u) fun x g' tk' b' n2 F2 N2 u2 h2 => k _ _ _ b' _ F2 N2 (u.trans u2) h2)
theorem allA_and (hA : SA c A) : ∀ {es : List Expr} {K : Nat → Prop} {n : Nat}, allA (A true) es σ n K → TrBW c .And es σ n fun b k => b = true ∧ K k
  | [], K, n, h => fun pos wh s m led Q E' F N S k => isTrue_and_nil (k _ _ _ led _ F N .refl ⟨rfl, h⟩)
  | e :: es, K, n, h => fun pos wh s m led Q E' F N S k => isTrue_and (hA h s m led _ _ F N S fun x g tk b n1 F1 N1 u h => by
      obtain ⟨rfl, h⟩ := h
      exact allA_and hA h pos wh _ m b _ _ F1 N1 (S.up u) fun x g' tk' b' n2 F2 N2 u2 h2 => k _ _ _ b' _ F2 N2 (u.trans u2) h2)
theorem asB_tr (hTt : ST c Tt) {e : Expr} {pol : Bool} {K : Nat → Prop} (h : Tt e σ n fun x n => asB x pol (K n)) : TrW c e σ n fun b k => b = pol ∧ K k := (hTt h).mono fun _ _ h => asB_ok h
theorem stepA_ok (hE : SE c E) (hTt : ST c Tt) (hA : SA c A) : SA c (stepA E Tt A) := fun {pol e σ n K} h => by
  unfold stepA at h
  split at h
  · intro s m led Q E' F N S k
    exact isTrue_not (hA h s m led _ _ F N S fun x g tk b n1 F1 N1 u h => k _ _ _ b _ F1 N1 u ⟨by rw [h.1]; simp, h.2⟩)
  · split at h
    · split at h
      · exact fun s m led Q E' F N S k => allA_or hA h _ _ s m led _ _ F N S k
      · exact asB_tr hTt h
    · split at h
      · exact fun s m led Q E' F N S k => allA_and hA h _ _ s m led _ _ F N S k
      · split at h
        · intro s m led Q E' F N S k
          refine isTrue_and (hTt h s m led _ _ F N S fun x g tk b n1 F1 N1 u h => ?_)
          cases x with
          | false => exact k _ _ _ b _ F1 N1 u ⟨rfl, h.2⟩
          | true =>
            refine isTrue_and (hA (h.1 rfl) _ m b _ _ F1 N1 (S.up u) fun x g tk b' n2 F2 N2 u2 h2 => ?_)
            obtain ⟨rfl, rfl⟩ := h2
            exact k _ _ _ b' _ F2 N2 (u.trans u2) ⟨rfl, h.2⟩
        · exact h.elim
  · split at h
    · split at h
      · split at h
        · exact h.elim
        · rename_i hm
          intro s m led Q E' F N S k
          refine wpAny_isTrue_Compare1 (hE h s m led _ _ F N S fun v g tk l1 p n1 F1 N1 u1 R1 h1 => hE h1 _ m l1 _ _ F1 N1 (S.up u1) fun v' g' tk' l2 q n2 F2 N2 u2 R2 h2 => cmpA_ok h2 N2.N c.units (R1.up u2) R2 fun x hx => wpAny_truthy_bool (k x _ _ l2 _ F2 N2 (u1.trans u2) hx)) hm
      · exact h.elim
    · exact asB_tr hTt h
  · exact asB_tr hTt h
theorem W_ok (hT : TOk c Tb) (hN : NsOk c ns) : ∀ k, SE c (W Tb ns sc r k).1 ∧ ST c (W Tb ns sc r k).2.1 ∧ SA c (W Tb ns sc r k).2.2
  | 0 => ⟨fun h => False.elim h, fun h => False.elim h, fun h => False.elim h⟩
  | k + 1 =>
    let ⟨h1, h2, h3⟩ := W_ok hT hN k
    ⟨stepE_ok hT hN h1 h2, stepT_ok h1 h2, stepA_ok h1 h2 h3⟩
end
end

section
set_option genSizeOf false
set_option genInjectivity false
/-! statements -/
noncomputable def NoE : Value → Shared → Prop := fun _ _ => False
section
variable {sc : Scope} {r : Nat} (c : Cx sc r)
/-- the exception that leaves -/
noncomputable def Raised (a : Led) (k : Nat) (s : Shared) (E : Value → Shared → Prop) : Prop :=
  ∀ e t D hs1 u1 hs2 u2 tt h' tk' m' b, c.F h' m' → News c.h₀ c.L h' ((e, excObj t (some D)) :: (D, dictOf [⟨hs1, .str (Str.ofString "what") u1, .str (Str.ofString "divide") tt⟩, ⟨hs2, .str (Str.ofString "at") u2, .none⟩] 2) :: (t, { cls := .type "tuple", data := .seq #[.str (Str.ofString "divide") tt] }) :: b) →
    PenOk c.pen k b → Up c.P a b → (∀ p ∈ b, p.1 ≠ e) → e ≠ D → e ≠ t → E (.ref e) { s with heap := h', toks := tk' }
structure EndsW (a : Led) (s : Shared) (Q : Flow → Shared → Prop) (E : Value → Shared → Prop) (R : KV) (X : Nat → Prop) (C K : Sig → Nat → Prop) : Prop where
  ret : ∀ v h' tk' m' b p k, c.F h' m' → c.N k h' b → Up c.P a b → Rep c.P b v p → R p k → Q (.ret v) { s with heap := h', toks := tk' }
  next : ∀ h' tk' m' b σ k, c.F h' m' → c.N k h' b → Up c.P a b → c.S m' b σ → K σ k → Q .next { s with heap := h', toks := tk' }
  cont : ∀ h' tk' m' b σ k, c.F h' m' → c.N k h' b → Up c.P a b → c.S m' b σ → C σ k → Q .cont { s with heap := h', toks := tk' }
  exc : ∀ k, X k → Raised c a k s E
noncomputable def ExW (b : List Stmt) (σ : Sig) (n : Nat) (R : KV) (X : Nat → Prop) (C K : Sig → Nat → Prop) : Prop :=
  ∀ (s : Shared) (m : Str → Option Value) (a : Led) (Q : Flow → Shared → Prop) (E : Value → Shared → Prop), c.F s.heap m → c.N n s.heap a → c.S m a σ → EndsW c a s Q E R X C K → wpAny c.M c.A (execs b c.env) Q E s
noncomputable def ExW1 (b : Stmt) (σ : Sig) (n : Nat) (R : KV) (X : Nat → Prop) (C K : Sig → Nat → Prop) : Prop :=
  ∀ (s : Shared) (m : Str → Option Value) (a : Led) (Q : Flow → Shared → Prop) (E : Value → Shared → Prop), c.F s.heap m → c.N n s.heap a → c.S m a σ → EndsW c a s Q E R X C K → wpAny c.M c.A (exec b c.env) Q E s
/-- a target takes a value -/
noncomputable def AsW (t : Expr) (p : PV) (σ : Sig) (K : Sig → Prop) : Prop :=
  ∀ (s : Shared) (m : Str → Option Value) (a : Led) (v : Value) (n : Nat) (Q : Unit → Shared → Prop) (E : Value → Shared → Prop), c.F s.heap m → c.N n s.heap a → c.S m a σ → Rep c.P a v p →
    (∀ h' tk' m' σ', c.F h' m' → c.N n h' a → c.S m' a σ' → K σ' → Q () { s with heap := h', toks := tk' }) → wpAny c.M c.A (assign t c.env v) Q E s
end
section
variable {sc : Scope} {r : Nat} {c : Cx sc r} {σ : Sig} {n : Nat} {R : KV} {X : Nat → Prop} {C K : Sig → Nat → Prop}
theorem EndsW.up {a b : Led} {s : Shared} {Q : Flow → Shared → Prop} {E : Value → Shared → Prop} {h : Heap} {tk : Nat} (k : EndsW c a s Q E R X C K) (u : Up c.P a b) : EndsW c b { s with heap := h, toks := tk } Q E R X C K where
  ret := fun v h' tk' m' b p k' F N u' R h => k.ret v h' tk' m' b p k' F N (u.trans u') R h
  next := fun h' tk' m' b σ k' F N u' S h => k.next h' tk' m' b σ k' F N (u.trans u') S h
  cont := fun h' tk' m' b σ k' F N u' S h => k.cont h' tk' m' b σ k' F N (u.trans u') S h
  exc := fun k' x e t D hs1 u1 hs2 u2 tt h' tk' m' b F N pk u' => k.exc k' x e t D hs1 u1 hs2 u2 tt h' tk' m' b F N pk (u.trans u')
theorem EndsW.mono {a : Led} {s : Shared} {Q : Flow → Shared → Prop} {E : Value → Shared → Prop} {R' : KV} {X' : Nat → Prop} {C' K' : Sig → Nat → Prop} (k : EndsW c a s Q E R X C K) (h1 : ∀ p k, R' p k → R p k) (h2 : ∀ k, X' k → X k) (h3 : ∀ σ k, C' σ k → C σ k)
    (h4 : ∀ h' tk' m' b σ k, c.F h' m' → c.N k h' b → Up c.P a b → c.S m' b σ → K' σ k → Q .next { s with heap := h', toks := tk' }) : EndsW c a s Q E R' X' C' K' where
  ret := fun v h' tk' m' b p k' F N u' R h => k.ret v h' tk' m' b p k' F N u' R (h1 _ _ h)
  next := h4
  cont := fun h' tk' m' b σ k' F N u' S h => k.cont h' tk' m' b σ k' F N u' S (h3 _ _ h)
  exc := fun i x => k.exc i (h2 i x)
theorem EndsW.toCons {a : Led} {s : Shared} {Q : Flow → Shared → Prop} {E : Value → Shared → Prop} {rest : List Stmt} (k : EndsW c a s Q E R X C K) : EndsW c a s (fun f s₁ => match f with
    | .next => wpAny c.M c.A (execs rest c.env) Q E s₁
    | f => Q f s₁) E R X C (fun σ n => ExW c rest σ n R X C K) where
  ret := k.ret
  next := fun h' tk' m' b σ k' F N u S h => h _ m' b Q E F N S (k.up u)
  cont := k.cont
  exc := k.exc
theorem ExW.nil (h : K σ n) : ExW c [] σ n R X C K := fun s m a Q E F N S k => wpAny_execs_nil (k.next _ _ m a σ n F N .refl S h)
theorem ExW.cons {st : Stmt} {rest : List Stmt} (h : ExW1 c st σ n R X C fun σ n => ExW c rest σ n R X C K) : ExW c (st :: rest) σ n R X C K := fun s m a Q E F N S k => by
  refine wpAny_execs_cons (wpAny_mono (h s m a _ E F N S k.toCons) (fun f s₁ h => ?_) fun _ _ x => x)
  cases f <;> exact h
/-! targets -/
theorem okN_l {x : Str} (h : okN sc x = true) : sc.names.lookup x = some .local ∧ (x == ("__debug__" : Str)) = false := by
  unfold okN at h
  split at h
  · rename_i e
    exact ⟨e, by simpa using h⟩
  · cases h
theorem set_one {x : Str} {p : PV} {v : Value} {s : Shared} {m : Str → Option Value} {a : Led} {Q : Unit → Shared → Prop} {E : Value → Shared → Prop} (hx : okN sc x = true) (F : c.F s.heap m) (N : c.N n s.heap a) (S : c.S m a σ) (R : Rep c.P a v p)
    (k : ∀ h' tk m', c.F h' m' → c.N n h' a → c.S m' a ((x, p) :: σ) → Q () { s with heap := h', toks := tk }) : wpAny c.M c.A (storeName c.env x v) Q E s :=
  storeX_L F N.N (fun h' F' N' => k h' _ _ F' ⟨N', N.pok⟩ (S.set (okN_l hx).2 (okN_l hx).1 R (if_pos rfl) fun y hy => if_neg fun e => by subst e; simp at hy)) c.hk (okN_l hx).1
/-- a store behind a sight -/
noncomputable def Sets (t : Value → Sem Unit) (env : Env) (x : Str) : Prop := ∀ {M : Model} {A : Around} {E : Value → Shared → Prop} {s : Shared} {v : Value} {Q : Unit → Shared → Prop}, wpAny M A (storeName env x v) Q E s → wpAny M A (t v) Q E s
theorem sets_bind {env : Env} {x : Str} : Sets (fun v => bindName env x v) env x := fun h => bindName_ h
theorem sets_name {env : Env} {x : Str} {pos : Pos} : Sets (fun v => assign (.Name x pos) env v) env x := fun h => assign_Name h
inductive SetsAll (env : Env) : List (Value → Sem Unit) → List Str → Prop
  | nil : SetsAll env [] []
  | cons {t ts x xs} : Sets t env x → SetsAll env ts xs → SetsAll env (t :: ts) (x :: xs)
theorem sets_all {xs : List Str} {ts : List (Value → Sem Unit)} (ht : SetsAll c.env ts xs) {K : Sig → Prop} {a : Led} {Q : Unit → Shared → Prop} {E : Value → Shared → Prop} : ∀ {ps : List PV} {vs : List Value} {σ : Sig} {s : Shared} {m : Str → Option Value}, bindL sc xs ps σ K → c.F s.heap m → c.N n s.heap a → c.S m a σ → Reps c.P a vs ps →
    (∀ h' tk m' σ', c.F h' m' → c.N n h' a → c.S m' a σ' → K σ' → Q () { s with heap := h', toks := tk }) → wpAny c.M c.A (assignInOrder ts vs) Q E s := by
  induction ht with
  | nil =>
    intro ps vs σ s m h F N S R k
    cases R with
    | nil => exact assignInOrder_nil (k s.heap s.toks m _ F N S h)
    | cons _ _ => exact False.elim h
  | cons ht _ ih =>
    intro ps vs σ s m h F N S R k
    cases R with
    | nil => exact False.elim h
    | cons r rs =>
      dsimp only [bindL] at h
      split at h
      · rename_i hx
        exact assignInOrder_cons (ht (set_one hx F N S r fun h' tk m' F' N' S' => ih h F' N' S' rs k))
      · exact h.elim
theorem bindL_len : ∀ {xs : List Str} {ps : List PV} {σ : Sig} {K : Sig → Prop}, bindL sc xs ps σ K → xs.length = ps.length
  | [], [], _, _, _ => rfl
  | x :: xs, p :: ps, _, _, h => by
    unfold bindL at h
    dsimp only at h
    split at h
    · exact congrArg Nat.succ (bindL_len h)
    · exact h.elim
theorem setsAll_bind : ∀ {xs : List Str}, SetsAll c.env (xs.map fun x => fun v => bindName c.env x v) xs
  | [] => .nil
  | _ :: _ => .cons sets_bind setsAll_bind
theorem nmsOf_sets : ∀ {ts : List Expr} {xs : List Str}, nmsOf ts = some xs → SetsAll c.env ((assignEach ts c.env).map (·.2)) xs ∧ (assignEach ts c.env).length = xs.length ∧ (assignEach ts c.env).findIdx? (·.1) = none
  | [], _, h => by cases h; exact ⟨.nil, rfl, rfl⟩
  | e :: ts, xs, h => by
    unfold nmsOf at h
    split at h
    · rename_i x hx
      split at h
      · rename_i l hl
        cases h
        cases e with
        | Name y pos =>
          cases hx
          have ih := nmsOf_sets hl
          refine ⟨.cons sets_name ih.1, congrArg Nat.succ ih.2.1, ?_⟩
          show List.findIdx? (·.1) ((false, _) :: assignEach ts c.env) = none
          rw [List.findIdx?_cons, ih.2.2]
          rfl
        | _ => cases hx
      · cases h
    · cases h
theorem bindT_ok {t : Expr} {p : PV} {K : Sig → Prop} (h : bindT sc t p σ K) : AsW c t p σ K := by
  intro s m a v n Q E F N S R k
  unfold bindT at h
  split at h
  · split at h
    · rename_i hx
      exact assign_Name (set_one hx F N S R fun h' tk m' F' N' S' => k h' tk m' _ F' N' S' h)
    · exact h.elim
  · split at h
    · rename_i hx
      split at h
      · obtain ⟨D, vs, i, rfl, _, hm, rs⟩ := R.t
        obtain ⟨z1, z2, z3⟩ := nmsOf_sets (c := c) hx
        refine unpackN_ F N.N ⟨_, (N.N _ hm).1, rfl, _, rfl⟩ rfl (by rw [z2, bindL_len h]; exact rs.len.symm) z3 fun h' F' N' => ?_
        exact sets_all z1 h F' ⟨N', N.pok⟩ S rs k
      · exact h.elim
    · exact h.elim
  · exact h.elim
theorem names_of {line : Nat} : ∀ {ts : List Expr} {xs : List Str}, nmsOf ts = some xs → (ts.all fun
      | .Name id pos => sc.names.lookup id == some .local && pos.line == line
      | _ => false) = true → (ts.filterMap fun
      | .Name id pos => if (c.env.kindOf id == some .local && pos.line == line) = true then some id else none
      | _ => none) = xs
  | [], _, h, _ => by cases h; rfl
  | e :: ts, xs, h, ha => by
    have ha := Bool.and_eq_true_iff.mp ha
    unfold nmsOf at h
    split at h
    · rename_i x hx
      split at h
      · rename_i l hl
        cases h
        cases e with
        | Name y pos =>
          obtain rfl := Option.some.inj hx
          have h1 : (c.env.kindOf y == some .local && pos.line == line) = true := ha.1
          rw [List.filterMap_cons]
          dsimp only
          rw [if_pos h1]
          exact congrArg (_ :: ·) (names_of hl ha.2)
        | _ => cases hx
      · cases h
    · cases h
theorem nmsOf_len : ∀ {ts : List Expr} {xs : List Str}, nmsOf ts = some xs → xs.length = ts.length
  | [], _, h => by cases h; rfl
  | e :: ts, xs, h => by
    unfold nmsOf at h
    split at h
    · split at h
      · rename_i hl
        cases h
        exact congrArg Nat.succ (nmsOf_len hl)
      · cases h
    · cases h
theorem swap_ok {ts vs : List Expr} {xs : List Str} {i j : Nat} {p q : Pos} (h : swNames sc ts vs = some xs) : swappedStores [.Tuple ts i p] (.Tuple vs j q) c.env = pure (some xs) := by
  have hb : c.env.blockKind = .function := by
    show (if sc.kind.isAnnotationScope then ScopeKind.function else sc.kind) = .function
    rw [c.hk]; rfl
  unfold swNames at h
  split at h
  · split at h
    · rename_i hx _ hc
      cases h
      simp only [Bool.and_eq_true, Bool.not_eq_true'] at hc
      obtain ⟨⟨⟨⟨⟨⟨c1, c2⟩, c3⟩, c4⟩, c5⟩, c6⟩, c7⟩ := hc
      have hn := names_of (c := c) hx c4
      have hlen := nmsOf_len hx
      have e1 : (!(ts.length == 2 || ts.length == 3) || vs.length != ts.length || c.env.blockKind != .function) = false := by rw [c1, hb, bne, c2]; rfl
      unfold swappedStores
      refine (if_neg (by rw [e1]; decide)).trans ((if_neg fun h => absurd (c3.symm.trans h) (by decide)).trans ((if_neg ?_).trans ((if_neg (by rw [c6]; decide)).trans ((if_neg (by rw [c7]; decide)).trans ?_))))
      · intro h
        have h2 : (xs.length != ts.length || xs.eraseDups.length != xs.length) = true := by
          rw [← hn]
          exact h
        rw [bne, bne, c5, hlen, beq_self_eq_true] at h2
        cases h2
      · exact congrArg (fun z => pure (some z)) hn
    · cases h
  · cases h
end
end

section
/-! what does not need an address -/
noncomputable def without (I : Addr) (a : Led) : Led := a.filter fun q => decide (q.1 ≠ I)
theorem without_mem {I : Addr} {a : Led} {q : Addr × Obj} (h : q ∈ a) (hn : q.1 ≠ I) : q ∈ without I a := List.mem_filter.mpr ⟨h, decide_eq_true hn⟩
theorem mem_without {I : Addr} {a : Led} {q : Addr × Obj} (h : q ∈ without I a) : q ∈ a ∧ q.1 ≠ I := ⟨(List.mem_filter.mp h).1, of_decide_eq_true (List.mem_filter.mp h).2⟩
theorem cls_ne {a b : String} (h : (a == b) = false) : Value.type a ≠ Value.type b := fun e => by cases e; simp at h
section
variable {h₀ h : Heap} {L I : Addr} {it : Obj} {a : Led} {P : Option Addr}
theorem apart_cls (N : News h₀ L h a) (hI : (I, it) ∈ a) {D : Addr} {o : Obj} (hm : (D, o) ∈ a) (ho : o.cls ≠ it.cls) : D ≠ I := fun e => ho (by
  have h1 := (N _ hm).1
  have h2 := (N _ hI).1
  rw [show D = I from e, h2] at h1
  cases h1
  rfl)
theorem apart_by (N : News h₀ L h a) (hI : (I, it) ∈ a) {D : Addr} {o : Obj} (hm : (D, o) ∈ a) (ho : o ≠ it) : D ≠ I := fun e => ho (by
  have h1 := (N _ hm).1
  have h2 := (N _ hI).1
  rw [show D = I from e, h2] at h1
  cases h1
  rfl)
mutual
theorem Rep.off (N : News h₀ L h a) (hI : (I, it) ∈ a) (h1 : ∀ vs k, ({ cls := .type "tuple", data := .seq vs k } : Obj) ≠ it) (h2 : ∀ vs k, ({ cls := .type "list", data := .seq vs k } : Obj) ≠ it) : ∀ {v p}, Rep P a v p → Rep P (without I a) v p
  | _, _, .int e => .int e
  | _, _, .str e b => .str e b
  | _, _, .bool => .bool
  | _, _, .none => .none
  | _, _, .pen e => .pen e
  | _, _, .tup hp m r => .tup hp (without_mem m (apart_by N hI m (h1 _ _))) (Reps.off N hI h1 h2 r)
  | _, _, .lst hp m r => .lst hp (without_mem m (apart_by N hI m (h2 _ _))) (Reps.off N hI h1 h2 r)
  | _, _, .ilst hp m r => .ilst hp (without_mem m (apart_by N hI m (h2 _ _))) r
theorem Reps.off (N : News h₀ L h a) (hI : (I, it) ∈ a) (h1 : ∀ vs k, ({ cls := .type "tuple", data := .seq vs k } : Obj) ≠ it) (h2 : ∀ vs k, ({ cls := .type "list", data := .seq vs k } : Obj) ≠ it) : ∀ {vs ps}, Reps P a vs ps → Reps P (without I a) vs ps
  | _, _, .nil => .nil
  | _, _, .cons x r => .cons (Rep.off N hI h1 h2 x) (Reps.off N hI h1 h2 r)
end
theorem Rep.flat {b : Led} {v : Value} {p : PV} (h : flatP p = true) (R : Rep P a v p) : Rep P b v p := by
  cases R with
  | int e => exact .int e
  | str e b => exact .str e b
  | bool => exact .bool
  | none => exact .none
  | _ => cases h
theorem Reps.flat {b : Led} : ∀ {vs : List Value} {ps : List PV}, ps.all flatP = true → Reps P a vs ps → Reps P b vs ps
  | _, _, _, .nil => .nil
  | _, _, h, .cons x r => .cons (x.flat (Bool.and_eq_true_iff.mp h).1) (Reps.flat (Bool.and_eq_true_iff.mp h).2 r)
theorem Rep.offP (N : News h₀ L h a) (hI : (I, it) ∈ a) (h1 : Value.type "tuple" ≠ it.cls) {v : Value} {p : PV} (hp : p.pure = true) (R : Rep P a v p) : Rep P (without I a) v p := by
  cases p with
  | tup ps =>
    obtain ⟨D, vs, i, rfl, hP, hm, rs⟩ := R.t
    exact .tup hP (without_mem hm (apart_cls N hI hm h1)) (rs.flat hp)
  | _ => cases hp
theorem PenOk.off {pen : Option PenS} {n : Nat} {b : Led} (h : ∀ p, pen = some p → p.D ≠ I ∧ p.C ≠ I) (k : PenOk pen n b) : PenOk pen n (without I b) := fun p e => by
  obtain ⟨⟨t, i, h1⟩, j, h2⟩ := k p e
  exact ⟨⟨t, i, without_mem h1 (h p e).1⟩, j, without_mem h2 (h p e).2⟩
theorem PenOk.apart {pen : Option PenS} {n : Nat} (k : PenOk pen n a) (l : ∀ q ∈ a, q.1 < I) : ∀ p, pen = some p → p.D ≠ I ∧ p.C ≠ I := fun p e => by
  obtain ⟨⟨t, i, h1⟩, j, h2⟩ := k p e
  exact ⟨Nat.ne_of_lt (l _ h1), Nat.ne_of_lt (l _ h2)⟩
end
section
variable {sc : Scope} {r : Nat} {c : Cx sc r} {σ : Sig} {n : Nat} {R : KV} {X : Nat → Prop} {C K : Sig → Nat → Prop} {I : Addr} {it : Obj} {a : Led}
theorem Cx.S.offG {h : Heap} {m : Str → Option Value} (N : News c.h₀ c.L h a) (hI : (I, it) ∈ a) (h1 : ∀ vs k, ({ cls := .type "tuple", data := .seq vs k } : Obj) ≠ it) (h2 : ∀ vs k, ({ cls := .type "list", data := .seq vs k } : Obj) ≠ it) (hd : ∀ v : Value, it.data ≠ .cell (some v)) (S : c.S m a σ) : c.S m (without I a) σ := fun x p e => by
  obtain ⟨d, v, R, s⟩ := S x p e
  refine ⟨d, v, R.off N hI h1 h2, s.imp id ?_⟩
  rintro ⟨k, ca, o, q1, q2, q3, q4⟩
  exact ⟨k, ca, o, q1, q2, without_mem q3 (apart_by N hI q3 fun e => hd _ (e ▸ q4)), q4⟩
theorem Cx.S.off {h : Heap} {m : Str → Option Value} (N : News c.h₀ c.L h a) (hI : (I, it) ∈ a) (h1 : Value.type "tuple" ≠ it.cls) (h2 : Value.type "list" ≠ it.cls) (hd : ∀ v, it.data ≠ .cell v) (S : c.S m a σ) : c.S m (without I a) σ :=
  S.offG N hI (fun _ _ e => h1 (congrArg Obj.cls e)) (fun _ _ e => h2 (congrArg Obj.cls e)) fun _ => hd _
/-- an empty cell is left out -/
theorem Cx.S.offC {h : Heap} {m : Str → Option Value} (N : News c.h₀ c.L h a) (hI : (I, it) ∈ a) (hd : it.data = .cell none) (S : c.S m a σ) : c.S m (without I a) σ :=
  S.offG N hI (fun _ _ e => Data.noConfusion ((congrArg Obj.data e).trans hd)) (fun _ _ e => Data.noConfusion ((congrArg Obj.data e).trans hd)) fun v e => by rw [hd] at e; cases e
/-- a loop's turn -/
noncomputable def TurnW (c : Cx sc r) (t : Expr) (body : List Stmt) (p : PV) (σ : Sig) (n : Nat) (K : Sig → Nat → Prop) : Prop := AsW c t p σ fun σ' => ExW c body σ' n (fun _ _ => False) (fun _ => False) K K
theorem turns_gen {t : Expr} {body : List Stmt} {Q : Flow → Shared → Prop} {s : Shared} {h' : Heap} {tk : Nat} {m : Str → Option Value} {nw : Led} {o : Obj} {fp : List Addr} {M : Nat} {P : Nat → Value → Prop} {St : Nat → Heap → Prop} (g : Nat → PV) (J : Nat → Sig → Nat → Prop)
    (W : Walks PySem.Challenge.rw_pb0415_01.row.prog c.w c.A h'.objs.size fp [h'.objs.size] M P St)
    (hgo : ∀ i v (s : Shared) (Q : Unit → Shared → Prop) (E : Value → Shared → Prop), St i s.heap → Q () s → wpAny c.M c.A (letOwnedTupleGo t (.ref h'.objs.size) v) Q E s)
    (hfp : c.L ∉ fp) (hst : St 0 (h'.push o)) (hit : ∀ i h, St i h → ∃ it, h.get? h'.objs.size = some it ∧ Value.type "tuple" ≠ it.cls ∧ Value.type "list" ≠ it.cls ∧ ∀ v, it.data ≠ .cell v)
    (hI : h'.objs.size ∈ fp) (hfpP : ∀ b ∈ fp, c.P ≠ some b) (hP : ∀ i v b, i < M → P i v → Up c.P nw b → Rep c.P b v (g i)) (F : c.F h' m) (N : c.N n h' nw) (S : c.S m nw σ) (h0 : J 0 σ n)
    (turn : ∀ i σ k, i < M → J i σ k → ∃ σ₀, (∀ m a, c.S m a σ → c.S m a σ₀) ∧ TurnW c t body (g i) σ₀ k (J (i + 1)))
    (done : ∀ h tk m b σ k, c.F h m → c.N k h b → Up c.P nw b → c.S m b σ → J M σ k → Q .next { s with heap := h, toks := tk }) :
    TurnsAt PySem.Challenge.rw_pb0415_01.row.prog c.w c.A c.h₀ c.env t body Q NoE (.ref h'.objs.size) { s with heap := h'.push o, toks := tk } := by
  have hlt : ∀ q ∈ nw, q.1 < h'.objs.size := fun q hq => Heap.lt_size (N.N q hq).1
  let J' : Nat → (Str → Option Value) → Led → Prop := fun i m₁ led => ∃ σ' k, c.S m₁ led σ' ∧ PenOk c.pen k led ∧ J i σ' k ∧ Up c.P nw led
  refine ⟨_, _, _, M, _, _, _, m, nw, J', rfl, KTurns.ofWalks W hgo, hfp, ?_, ?_, hst, F.push _, (fun p hp => ⟨Heap.get?_push_of_some _ (N.N p hp).1, (N.N p hp).2⟩), ⟨σ, n, S, N.pok, h0, .refl⟩, ?_, ?_⟩
  · intro b hb
    rw [List.mem_singleton.mp hb]
    exact next_is_new F
  · intro p hp hI
    exact absurd (hlt p hp) ((List.mem_singleton.mp hI) ▸ Nat.lt_irrefl _)
  · rintro i v m₁ led h₁ tk₁ own hin hPi ⟨σ', k, hS, hpen, hJ, hup⟩ hoff hown hget hall hst₁ F₁ N₁
    obtain ⟨it, hit', i1, i2, i3⟩ := hit _ _ hst₁
    have hIo : (h'.objs.size, it) ∈ own := hall h'.objs.size hI (next_is_new F) _ hit'
    have up1 : ∀ q ∈ led, q ∈ own ++ led := fun q hq => List.mem_append_right _ hq
    obtain ⟨σ₀, hσ, ht⟩ := turn i σ' k hin hJ
    have fin : ∀ h4 tk4 m4 n4 σ4 k4, c.F h4 m4 → c.N k4 h4 n4 → Up c.P (own ++ led) n4 → c.S m4 n4 σ4 → J (i + 1) σ4 k4 → LoopStepU c.h₀ c.env.locals [h'.objs.size] own (J' (i + 1)) { s with heap := h₁, toks := tk₁ } .next { s with heap := h4, toks := tk4 } := by
      intro h4 tk4 m4 n4 σ4 k4 F4 N4 u4 S5 J5
      have hPI : c.P ≠ some h'.objs.size := N.fresh hlt
      have hI4 := u4 _ (List.mem_append_left _ hIo) hPI
      refine ⟨rfl, h4, tk4, m4, without h'.objs.size n4, rfl, F4, fun q hq => ?_, fun q hq hq' => ?_, σ4, k4, S5.off N4.N hI4 i1 i2 i3, N4.pok.off (N.pok.apart hlt), J5, fun q hq hp => ?_⟩
      · rcases List.mem_append.mp hq with hq | hq
        · exact N4.N q (u4 q (List.mem_append_left _ hq) (hfpP _ (hown q hq)))
        · exact N4.N q (mem_without hq).1
      · exact (mem_without hq).2 (List.mem_singleton.mp hq')
      · exact without_mem (u4 q (List.mem_append_right _ (hup q hq hp)) hp) (Nat.ne_of_lt (hlt q hq))
    refine ht _ m₁ (own ++ led) v k _ _ F₁ ⟨N₁, hpen.sub up1⟩ (hσ _ _ (hS.up (.of up1))) (hP i v _ hin hPi (hup.trans (.of up1))) fun h3 tk3 m3 σ3 F3 N3 S3 hb => ?_
    refine hb _ m3 (own ++ led) _ _ F3 N3 S3 ⟨fun _ _ _ _ _ _ _ _ _ _ _ h => h.elim, fun h4 tk4 m4 n4 σ4 k4 F4 N4 u4 S4 J4 => .next (fin h4 tk4 m4 n4 σ4 k4 F4 N4 u4 S4 J4), fun h4 tk4 m4 n4 σ4 k4 F4 N4 u4 S4 J4 => .cont (fin h4 tk4 m4 n4 σ4 k4 F4 N4 u4 S4 J4), fun _ h => h.elim⟩
  · rintro h4 tk4 m4 n4 F4 N4 _ ⟨σ4, k4, hS, hpen, hJ, hup⟩
    exact done _ _ m4 n4 σ4 k4 F4 ⟨N4, hpen⟩ hup hS hJ
/-- over a list of the ledger's -/
theorem turns_list {t : Expr} {body : List Stmt} {Q : Flow → Shared → Prop} {s : Shared} {m : Str → Option Value} {nw : Led} {v : Value} {ps : List PV} (J : Nat → Sig → Nat → Prop) (R : Rep c.P nw v (.lst ps)) (F : c.F s.heap m) (N : c.N n s.heap nw) (S : c.S m nw σ) (h0 : J 0 σ n)
    (turn : ∀ i p σ k, ps[i]? = some p → J i σ k → ∃ σ₀, (∀ m a, c.S m a σ → c.S m a σ₀) ∧ TurnW c t body p σ₀ k (J (i + 1)))
    (done : ∀ h tk m b σ k, c.F h m → c.N k h b → Up c.P nw b → c.S m b σ → J ps.length σ k → Q .next { s with heap := h, toks := tk }) :
    wpAny c.M c.A (pyIter v) (fun it s₂ => TurnsAt PySem.Challenge.rw_pb0415_01.row.prog c.w c.A c.h₀ c.env t body Q NoE it s₂) NoE s := by
  obtain ⟨D, vs, i, rfl, hPD, hm, rs⟩ := R.l
  have hls : s.heap.IsList D vs.toArray := ⟨_, (N.N _ hm).1, rfl, _, rfl⟩
  have hne : D ≠ s.heap.objs.size := Nat.ne_of_lt (Heap.lt_size (N.N _ hm).1)
  refine wpAny_pyIter_list hls ?_
  have W := Walks.list (prog := PySem.Challenge.rw_pb0415_01.row.prog) (w := c.w) (A := c.A) rfl s.heap.objs.size D hne vs.toArray
  have hlen : vs.toArray.size = ps.length := by rw [← rs.len]; simp
  rw [hlen] at W
  refine turns_gen (tk := s.toks) (fun i => ps.getD i .none) J W (fun i v s Q E st q => letGo_listiter st.1 q) ?_ ⟨⟨_, Heap.get?_push_size _ rfl, rfl, rfl⟩, hls.at fun o e => Heap.get?_push_of_some _ e⟩ (fun i h st => ?_) (List.mem_cons_self ..) ?_ (fun i v b hi hv u => ?_) F N S h0 (fun i σ k hi hJ => turn i _ σ k (by simp [List.getD, List.getElem?_eq_getElem hi]) hJ) done
  · intro hmm
    rcases List.mem_cons.mp hmm with e | hmm
    · exact absurd F.ns.lt (e ▸ Nat.lt_irrefl _)
    · exact (N.N _ hm).2.1 (List.mem_singleton.mp hmm).symm
  · obtain ⟨it, hit, hic, hid⟩ := st.1
    exact ⟨it, hit, by rw [hic]; exact cls_ne (by decide), by rw [hic]; exact cls_ne (by decide), fun v => by rw [hid]; exact Data.noConfusion⟩
  · intro b hb
    rcases List.mem_cons.mp hb with rfl | hb
    · exact N.fresh fun q hq => Heap.lt_size (N.N q hq).1
    · rw [List.mem_singleton.mp hb]; exact hPD
  · have hv : vs[i]? = some v := by simpa using hv
    obtain ⟨v', ev, rv⟩ := rs.at (List.getElem?_eq_getElem hi)
    rw [hv] at ev
    cases ev
    rw [show ps.getD i .none = ps[i] by simp [List.getD, List.getElem?_eq_getElem hi]]
    exact rv.up u
theorem turns_tup {t : Expr} {body : List Stmt} {Q : Flow → Shared → Prop} {s : Shared} {m : Str → Option Value} {nw : Led} {v : Value} {ps : List PV} (J : Nat → Sig → Nat → Prop) (R : Rep c.P nw v (.tup ps)) (F : c.F s.heap m) (N : c.N n s.heap nw) (S : c.S m nw σ) (h0 : J 0 σ n)
    (turn : ∀ i p σ k, ps[i]? = some p → J i σ k → ∃ σ₀, (∀ m a, c.S m a σ → c.S m a σ₀) ∧ TurnW c t body p σ₀ k (J (i + 1)))
    (done : ∀ h tk m b σ k, c.F h m → c.N k h b → Up c.P nw b → c.S m b σ → J ps.length σ k → Q .next { s with heap := h, toks := tk }) :
    wpAny c.M c.A (pyIter v) (fun it s₂ => TurnsAt PySem.Challenge.rw_pb0415_01.row.prog c.w c.A c.h₀ c.env t body Q NoE it s₂) NoE s := by
  obtain ⟨D, vs, i, rfl, hPD, hm, rs⟩ := R.t
  have hls : s.heap.IsTuple D vs.toArray := ⟨_, (N.N _ hm).1, rfl, _, rfl⟩
  have hne : D ≠ s.heap.objs.size := Nat.ne_of_lt (Heap.lt_size (N.N _ hm).1)
  refine wpAny_pyIter_tuple hls ?_
  have W := Walks.tuple (prog := PySem.Challenge.rw_pb0415_01.row.prog) (w := c.w) (A := c.A) rfl s.heap.objs.size D hne vs.toArray
  have hlen : vs.toArray.size = ps.length := by rw [← rs.len]; simp
  rw [hlen] at W
  refine turns_gen (tk := s.toks) (fun i => ps.getD i .none) J W (fun i v s Q E st q => letGo_tupleiter st.1 q) ?_ ⟨⟨_, Heap.get?_push_size _ rfl, rfl, rfl⟩, ⟨_, Heap.get?_push_of_some _ (N.N _ hm).1, rfl, _, rfl⟩⟩ (fun i h st => ?_) (List.mem_cons_self ..) ?_ (fun i v b hi hv u => ?_) F N S h0 (fun i σ k hi hJ => turn i _ σ k (by simp [List.getD, List.getElem?_eq_getElem hi]) hJ) done
  · intro hmm
    rcases List.mem_cons.mp hmm with e | hmm
    · exact absurd F.ns.lt (e ▸ Nat.lt_irrefl _)
    · exact (N.N _ hm).2.1 (List.mem_singleton.mp hmm).symm
  · obtain ⟨it, hit, hic, hid⟩ := st.1
    exact ⟨it, hit, by rw [hic]; exact cls_ne (by decide), by rw [hic]; exact cls_ne (by decide), fun v => by rw [hid]; exact Data.noConfusion⟩
  · intro b hb
    rcases List.mem_cons.mp hb with rfl | hb
    · exact N.fresh fun q hq => Heap.lt_size (N.N q hq).1
    · rw [List.mem_singleton.mp hb]; exact hPD
  · have hv : vs[i]? = some v := by simpa using hv
    obtain ⟨v', ev, rv⟩ := rs.at (List.getElem?_eq_getElem hi)
    rw [hv] at ev
    cases ev
    rw [show ps.getD i .none = ps[i] by simp [List.getD, List.getElem?_eq_getElem hi]]
    exact rv.up u
theorem to1_refl (p : PV) : p.to1 p := by
  unfold PV.to1
  split
  · rfl
  · rfl
theorem tos_refl : ∀ ps : List PV, tos ps ps
  | [] => trivial
  | p :: ps => ⟨to1_refl p, tos_refl ps⟩
theorem to_refl (p : PV) : p.to p := by
  cases p with
  | tup ps => exact tos_refl ps
  | _ => (unfold PV.to; exact to1_refl _)
theorem keepsA_at {σ₁ σ₀ : Sig} : ∀ {σ' : Sig} {x : Str} {p : PV}, keepsA σ₁ σ₀ σ' → σ'.lookup x = some p → ∃ q z, σ₁.lookup x = some q ∧ σ₀.lookup x = some z ∧ q.to z
  | [], _, _, _, e => nomatch e
  | (x, _) :: σ', y, p, h, e => by
    unfold keepsA at h
    split at h
    · rename_i q hq
      split at h
      · rename_i p' hp
        cases hy : y == x with
        | true =>
          obtain rfl := eq_of_beq hy
          exact ⟨q, p', hq, hp, h.1⟩
        | false =>
          rw [List.lookup_cons, hy] at e
          exact keepsA_at h.2 e
      · exact h.elim
    · exact h.elim
theorem keeps_S {σ' σ₁ : Sig} (h : keeps σ₁ σ') (m : Str → Option Value) (a : Led) (S : c.S m a σ₁) : c.S m a σ' := fun x p e => by
  obtain ⟨q, z, h1, h2, h3⟩ := keepsA_at h e
  rw [e] at h2
  cases h2
  obtain ⟨d, v, R, s⟩ := S x q h1
  exact ⟨d, v, to_rep h3 R, s⟩
theorem keepsA_self {σ₀ : Sig} : ∀ {σ' : Sig}, (∀ q ∈ σ', ∃ p, σ₀.lookup q.1 = some p) → keepsA σ₀ σ₀ σ'
  | [], _ => trivial
  | (x, p) :: σ', h => by
    obtain ⟨p, hp⟩ := h _ (.head _)
    unfold keepsA
    rw [hp]
    exact ⟨to_refl _, keepsA_self fun q hq => h q (.tail _ hq)⟩
theorem lookup_mem : ∀ {σ : Sig} {q : Str × PV}, q ∈ σ → ∃ p, σ.lookup q.1 = some p
  | (x, p) :: σ, q, h => by
    cases hy : q.1 == x with
    | true => exact ⟨p, by rw [List.lookup_cons, hy]⟩
    | false =>
      rw [List.lookup_cons, hy]
      rcases List.mem_cons.mp h with rfl | h
      · simp at hy
      · exact lookup_mem h
theorem allp_mem {f : PV → Prop} : ∀ {ps : List PV} {i : Nat} {p : PV}, allp f ps → ps[i]? = some p → f p
  | _ :: _, 0, _, h, e => by cases e; exact h.1
  | _ :: _, i + 1, _, h, e => allp_mem (i := i) h.2 e
noncomputable def SB (c : Cx sc r) (B : BF) : Prop := ∀ {b σ n R X C K}, B b σ n R X C K → ExW c b σ n R X C K
theorem bindT_ok' {t : Expr} {p : PV} {K K' : Sig → Prop} (h : bindT sc t p σ K) (k : ∀ σ, K σ → K' σ) : AsW c t p σ K' := fun s m a v n Q E F N S R q => bindT_ok h s m a v n Q E F N S R fun h' tk' m' σ' F' N' S' h => q h' tk' m' σ' F' N' S' (k _ h)
theorem for_set {it : Expr} {env : Env} (h : ∀ es k p, it ≠ .Set es k p) : ∀ x, foldedSetIterable it env x = pure x := fun x => by
  cases it with
  | Set es k p => exact absurd rfl (h es k p)
  | _ => rfl
theorem Rep.ofi {P : Option Addr} {a : Led} {v : Value} {l : List Int} (R : Rep P a v (.ilst l)) : Rep P a v (.lst (l.map .int)) := by
  obtain ⟨D, vs, k, rfl, hp, hm, rs⟩ := R.is
  refine .lst hp hm ?_
  clear hm R
  induction rs with
  | nil => exact .nil
  | cons _ _ _ ih => exact .cons (.int rfl) ih
theorem for_list {E : EF} {B : BF} (hE : SE c E) (hB : SB c B) {t it : Expr} {body : List Stmt} {pos : Pos} (hs : ∀ x, foldedSetIterable it c.env x = pure x)
    (h : E it σ n fun p n => match p with
    | .lst ps => allp (fun p => bindT sc t p σ fun σ' => B body σ' n (fun _ _ => False) (fun _ => False) (fun σ₁ k => keeps σ₁ σ ∧ k = n) fun σ₁ k => keeps σ₁ σ ∧ k = n) ps ∧ K σ n
    | .ilst l => (∀ x ∈ l, bindT sc t (.int x) σ fun σ' => B body σ' n (fun _ _ => False) (fun _ => False) (fun σ₁ k => keeps σ₁ σ ∧ k = n) fun σ₁ k => keeps σ₁ σ ∧ k = n) ∧ K σ n
    | _ => False) : ExW1 c (.For t it body [] pos) σ n R X C K := fun s m a Q E' F N S k => by
  refine wpAny_mono (For_turns (E := NoE) F (hE h s m a _ _ F N S fun v h' tk b p k' F' N' u R h => ?_) hs PassesOwn.never) (fun _ _ x => x) fun _ _ x => x.elim
  have go : ∀ {ps}, Rep c.P b v (.lst ps) → (∀ p ∈ ps, bindT sc t p σ fun σ' => B body σ' k' (fun _ _ => False) (fun _ => False) (fun σ₁ k => keeps σ₁ σ ∧ k = k') fun σ₁ k => keeps σ₁ σ ∧ k = k') → K σ k' →
      wpAny c.M c.A (pyIter v) (fun it s₂ => TurnsAt PySem.Challenge.rw_pb0415_01.row.prog c.w c.A c.h₀ c.env t body Q NoE it s₂) NoE { s with heap := h', toks := tk } := fun {ps} R h1 h2 => by
    refine turns_list (s := { s with heap := h', toks := tk }) (fun _ σ₁ k => keeps σ₁ σ ∧ k = k') R F' N' (S.up u) ⟨?_, rfl⟩ (fun i p σ₁ k hp hJ => ?_) fun h2' tk2 m2 b2 σ2 k2 F2 N2 u2 S2 hJ => ?_
    · exact keepsA_self fun q hq => lookup_mem hq
    · obtain ⟨hJ, rfl⟩ := hJ
      exact ⟨σ, keeps_S hJ, bindT_ok' (h1 p (List.mem_of_getElem? hp)) fun _ => hB⟩
    · obtain ⟨hJ, rfl⟩ := hJ
      exact k.next _ _ m2 b2 σ _ F2 N2 (u.trans u2) (keeps_S hJ m2 b2 S2) h2
  split at h
  · exact go R (fun p hp => let ⟨i, hi⟩ := List.getElem?_of_mem hp; allp_mem h.1 hi) h.2
  · refine go R.ofi (fun p hp => ?_) h.2
    obtain ⟨x, hx, rfl⟩ := List.mem_map.mp hp
    exact h.1 x hx
  · exact h.elim
theorem forU_ok {B : BF} (hB : SB c B) {t : Expr} {body : List Stmt} {ps : List PV} : ∀ {i : Nat} {p : PV} {σ : Sig} {n : Nat}, ps[i]? = some p → forU sc B t body K (ps.drop i) σ n → TurnW c t body p σ n (forU sc B t body K (ps.drop (i + 1))) := fun {i p σ n} hp h => by
  have hlt := (List.getElem?_eq_some_iff.mp hp).1
  rw [List.drop_eq_getElem_cons hlt, show ps[i] = p from (List.getElem?_eq_some_iff.mp hp).2] at h
  exact bindT_ok' h fun _ => hB
theorem for_tup {E : EF} {B : BF} (hE : SE c E) (hB : SB c B) {t it : Expr} {body : List Stmt} {pos : Pos} (hs : ∀ x, foldedSetIterable it c.env x = pure x)
    (h : E it σ n fun p n => match p with
    | .tup ps => forU sc B t body K ps σ n
    | _ => False) : ExW1 c (.For t it body [] pos) σ n R X C K := fun s m a Q E' F N S k => by
  refine wpAny_mono (For_turns (E := NoE) F (hE h s m a _ _ F N S fun v h' tk b p k' F' N' u R h => ?_) hs PassesOwn.never) (fun _ _ x => x) fun _ _ x => x.elim
  split at h
  · rename_i ps
    refine turns_tup (s := { s with heap := h', toks := tk }) (fun i σ k => forU sc B t body K (ps.drop i) σ k) R F' N' (S.up u) h (fun i p σ₁ k hp hJ => ⟨σ₁, fun _ _ x => x, forU_ok hB hp hJ⟩) fun h2 tk2 m2 b2 σ2 k2 F2 N2 u2 S2 hJ => ?_
    rw [List.drop_length] at hJ
    exact k.next _ _ m2 b2 σ2 _ F2 N2 (u.trans u2) S2 hJ
  · exact h.elim
end
end

section
theorem nmOf_shape {e : Expr} {x : Str} (h : nmOf e = some x) : ∃ p, e = .Name x p := by
  unfold nmOf at h
  split at h
  · cases h; exact ⟨_, rfl⟩
  · cases h
theorem swaps_of {value : Expr} {t : Option Expr} {n : Nat} {env : Env} (h : notComp value = true) : swapsWith value t n env = pure false := by
  cases value <;> first | rfl | cases h
theorem sole_of {value t : Expr} {n : Nat} {env : Env} (h : notComp value = true) : swapsWithSole [t] value n env = pure false := swaps_of (t := some t) h
theorem Reps.snoc {P : Option Addr} {a : Led} {v : Value} {p : PV} (h : Rep P a v p) : ∀ {vs ps}, Reps P a vs ps → Reps P a (vs ++ [v]) (ps ++ [p])
  | _, _, .nil => .cons h .nil
  | _, _, .cons x r => .cons x (Reps.snoc h r)
theorem Reps.rev {P : Option Addr} {a : Led} : ∀ {vs ps}, Reps P a vs ps → Reps P a vs.reverse ps.reverse
  | _, _, .nil => .nil
  | _, _, .cons x r => by
    rw [List.reverse_cons, List.reverse_cons]
    exact (Reps.rev r).snoc x
section
variable {sc : Scope} {r : Nat} {c : Cx sc r} {σ : Sig} {n : Nat} {R : KV} {X : Nat → Prop} {C K : Sig → Nat → Prop} {E : EF} {Tt : TF} {A : AF} {B : BF}
theorem st_swap {e : Expr} {ts : List Expr} {i : Nat} {pt pos : Pos} {xs : List Str} (hE : SE c E) (hc : notComp e = true) (hw : swappedStores [.Tuple ts i pt] e c.env = pure (some xs)) (h : E e σ n fun p n => match p with
      | .tup ps => bindL sc xs.reverse ps.reverse σ fun σ => K σ n
      | _ => False) : ExW1 c (.Assign [.Tuple ts i pt] e pos) σ n R X C K := fun s m a Q E' F N S k => by
  refine Assign_Tuple_swapped (hE h s m a _ _ F N S fun v h' tk b p k' F' N' u R h => ?_) (sole_of hc) hw
  split at h
  · obtain ⟨D, vs, i, rfl, _, hm, rs⟩ := R.t
    have hl := bindL_len h
    rw [List.length_reverse, List.length_reverse] at hl
    refine unpackItemsN_ F' N'.N ⟨_, (N'.N _ hm).1, rfl, _, rfl⟩ rfl (by rw [hl]; exact rs.len.symm) fun h2 F2 N2 => ?_
    exact sets_all setsAll_bind h F2 ⟨N2, N'.pok⟩ (S.up u) rs.rev fun h3 tk3 m3 σ3 F3 N3 S3 hk => k.next _ _ m3 b σ3 _ F3 N3 u S3 hk
  · exact h.elim
theorem st_tup {e : Expr} {ts : List Expr} {i : Nat} {pt pos : Pos} (hE : SE c E) (hc : notComp e = true) (hw : swappedStores [.Tuple ts i pt] e c.env = pure none) (h : E e σ n fun p n => bindT sc (.Tuple ts i pt) p σ fun σ => K σ n) : ExW1 c (.Assign [.Tuple ts i pt] e pos) σ n R X C K := fun s m a Q E' F N S k =>
  Assign_Tuple (hE h s m a _ _ F N S fun v h' tk b p k' F' N' u R h => bindT_ok h _ m b v _ _ _ F' N' (S.up u) R fun h2 tk2 m2 σ2 F2 N2 S2 hk => k.next _ _ m2 b σ2 _ F2 N2 u S2 hk) (sole_of hc) hw
theorem noswap_ok {ts vs : List Expr} {i j : Nat} {p q : Pos} (h : (ts.length == 2 || ts.length == 3) = false) : swappedStores [.Tuple ts i p] (.Tuple vs j q) c.env = pure none := by
  unfold swappedStores
  dsimp only
  rw [h]
  rfl
theorem asg_ok (hE : SE c E) {t e : Expr} {pos : Pos} (h : asgW sc E t e σ n K) : ExW1 c (.Assign [t] e pos) σ n R X C K := by
  unfold asgW at h
  split at h
  · split at h
    · rename_i hx
      have hx := Bool.and_eq_true_iff.mp hx
      exact fun s m a Q E' F N S k => wpAny_Assign_Name (hE h s m a _ _ F N S fun v h' tk b p k' F' N' u R h => set_one hx.1 F' N' (S.up u) R fun h2 tk2 m2 F2 N2 S2 => k.next _ _ m2 b _ _ F2 N2 u S2 h) (swaps_of hx.2)
    · exact h.elim
  · unfold asgT at h
    split at h
    · split at h
      · rename_i hw
        exact st_swap hE rfl (swap_ok hw) h
      · split at h
        · exact h.elim
        · rename_i hl
          exact st_tup hE rfl (noswap_ok hl) h
    · exact h.elim
    · split at h
      · rename_i h1 h2 _ hc
        refine st_tup hE hc ?_ h
        cases e <;> first | rfl | exact absurd rfl (h1 _ _ _) | exact absurd rfl (h2 _ _)
      · exact h.elim
  · split at h
    · split at h
      · split at h
        · rename_i hx
          have hx := Bool.and_eq_true_iff.mp hx
          obtain rfl := of_decide_eq_true hx.1
          split at h
          · rename_i hp
            refine fun s m a Q E' F N S k => wpAny_Assign_Subscript (hE h s m a _ _ F N S fun v h' tk b p k' F' N' u R h => ?_) (swaps_of hx.2)
            split at h
            · rename_i z hz
              obtain ⟨t, rfl⟩ := R.i hz
              obtain ⟨hd, v, Rp, hs⟩ := S.up u _ _ hp
              obtain ⟨D, rfl, eD⟩ := Rp.pn
              obtain ⟨pn, e1, rfl, ⟨t', i, hm⟩, j, hm'⟩ := N'.pn eD
              obtain ⟨rfl, h⟩ := h
              have hne : ∀ q ∈ without pn.D b, q.1 ≠ pn.D := fun q hq => (mem_without hq).2
              have cont : ∀ kk pp, wpAny c.M c.A (eval (.Constant (.int 1) kk pp) c.env) (fun iv s₃ => wpAny c.M c.A (setItem (.ref pn.D) iv (.int (k' + 1 : Nat) t)) (fun _ => Q .next) E' s₃) E' { s with heap := h', toks := tk } := fun _ _ => wpAny_Constant_int (by
                have z := N'.N _ hm
                refine ki_setAt z.1 (by decide) (by decide) (by show (1 : Int) < 2; decide) ?_
                have N2 : News c.h₀ c.L h' ([] ++ (pn.D, listOf #[.ref pn.C, .int k' t'] i) :: without pn.D b) := fun q hq => by
                  rcases List.mem_cons.mp hq with rfl | hq
                  · exact z
                  · exact N'.N _ (mem_without hq).1
                have N3 := ki_turn (fun its => its.setIfInBounds (1 : Int).toNat (.int (k' + 1 : Nat) t)) N2 (fun _ h => nomatch h) hne rfl rfl
                have u2 : Up c.P b ((pn.D, listOf #[.ref pn.C, .int (k' + 1 : Nat) t] i) :: without pn.D b) := fun q hq hP => .tail _ (without_mem hq fun e => hP (by rw [eD, e]))
                refine k.next _ _ m _ σ _ (F'.change (Heap.SameBut.update ..) z.2.1 z.2.2) ⟨N3, fun p e => ?_⟩ (u.trans u2) (S.up (u.trans u2)) h
                rw [e1] at e
                cases e
                exact ⟨⟨t, i, .head _⟩, j, .tail _ (without_mem hm' fun e => pn.hne (congrArg some e.symm))⟩)
              rcases hs with ⟨hl, hv⟩ | ⟨hl, ca, o, h1, _, h2, h3⟩
              · exact nameX_L F' hv (cont _ _) c.hk hl hd
              · exact nameX_C N'.N h1 h2 h3 (cont _ _) c.hk hl hd
            · exact h.elim
          · exact h.elim
        · exact h.elim
      · exact h.elim
    · exact h.elim
  · exact h.elim
theorem raise_ok {e d : Option Expr} {pos : Pos} (h : raiseOk sc e d = true) (x : X n) (hr : 6 ≤ r) : ExW1 c (.Raise e d pos) σ n R X C K := fun s m a Q E' F N S k => by
  unfold raiseOk at h
  repeat' split at h
  all_goals first | (cases h; done) | skip
  rename nmOf _ = _ => hnm
  obtain ⟨_, rfl⟩ := nmOf_shape hnm
  simp only [Bool.and_eq_true] at h
  obtain ⟨⟨h1, h2⟩, h3⟩ := h
  obtain rfl := eq_of_beq h1
  obtain rfl := eq_of_beq h2
  have h3' : sc.names.lookup (Str.ofString "MachineError") = some .globalImplicit := by simpa using h3
  have hd := c.hd
  have hu := c.hu
  refine exc_raise rfl (Call_ (nameX_K (v := .ref 52) F c.X (topRead_of c.TP) (by k_is) ?_ c.hk h3' (by decide)))
  refine callWith_K c.X (by k_is) (args_cons (Constant_str (args_nil ⟨c.X.keeps F.keep, ?_⟩)) rfl) rfl rfl
  refine c_mach c.BL F c.X N.N c.TP c.hk (by omega) (by omega) fun x0 t D hs1 u1 hs2 u2 h' tk' F' N' n1 n2 n3 => ?_
  refine ⟨_, _, _, rfl, c.X.keeps F'.keep, (N' _ (.head _)).1, ?_⟩
  exact k.exc n x _ _ _ _ _ _ _ _ _ _ _ a F' N' N.pok .refl n1 n2 n3
theorem stmt_ok (hr : 6 ≤ r) (hE : SE c E) (hT : ST c Tt) (hA : SA c A) (hB : SB c B) {st : Stmt} (h : stmtW sc E Tt A B st σ n R X C K) : ExW1 c st σ n R X C K := by
  unfold stmtW at h
  split at h
  · split at h
    · exact fun s m a Q E' F N S k => wpAny_Return_some (hE h s m a _ _ F N S fun v h' tk b p k' F' N' u R h => k.ret v h' tk m b p k' F' N' u R h)
    · exact h.elim
  · split at h
    · exact asg_ok hE h
    · exact h.elim
  · split at h
    · split at h
      · refine fun s m a Q E' F N S k => wpAny_If (hA h s m a _ _ F N S fun x h' tk b k' F' N' u h => ?_)
        obtain ⟨rfl, h⟩ := h
        exact wpAny_execs_nil (k.next _ _ m b σ _ F' N' u (S.up u) h)
      · exact h.elim
    · refine fun s m a Q E' F N S k => wpAny_If (hT h s m a _ _ F N S fun x h' tk b k' F' N' u h => ?_)
      cases x with
      | true => exact hB h _ m b Q E' F' N' (S.up u) (k.up u)
      | false => exact hB h _ m b Q E' F' N' (S.up u) (k.up u)
  · split at h
    · unfold forW at h
      split at h
      · exact for_tup hE hB (fun _ => rfl) h
      · exact h.elim
      · rename_i h1 h2
        exact for_list hE hB (for_set h2) h
    · exact h.elim
  · exact fun s m a Q E' F N S k => wpAny_Continue (k.cont _ _ m a σ n F N .refl S h)
  · split at h
    · rename_i hx
      exact raise_ok hx h hr
    · exact h.elim
  · exact h.elim
theorem app_ok {x : Str} {px pa pc pos : Pos} {e : Expr} {D : Addr} {its : List Value} {i : Nat} {ps : List PV} {s : Shared} {m : Str → Option Value} {a : Led} {Q : Flow → Shared → Prop} {E' : Value → Shared → Prop} (hE : SE c E) (hx : okN sc x = true) (hs : starred e = false) (hl : (pa.endLine == pc.line) = true) (hz : its.length ≤ 100) {K' : KV} (h : E e σ n K') (hm : m x = some (.ref D)) (ha : ∀ q ∈ a, q.1 ≠ D)
    (F : c.F s.heap m) (N : c.N n s.heap ((D, listOf its.toArray i) :: a)) (S : c.S m a σ) (Rs : Reps c.P a its ps) (hP : c.P ≠ some D) (hpn : ∀ p, c.pen = some p → p.D ≠ D ∧ p.C ≠ D)
    (k : ∀ h' tk p v b k', c.F h' m → c.N k' h' ((D, listOf (its ++ [v]).toArray (i + 1)) :: b) → Up c.P a b → (∀ q ∈ b, q.1 ≠ D) → (p.pure = true → Reps c.P b (its ++ [v]) (ps ++ [p])) → K' p k' → Q .next { s with heap := h', toks := tk }) :
    wpAny c.M c.A (exec (.Expr (.Call (.Attribute (.Name x px) (Str.ofString "append") pa) [e] [] pc) pos) c.env) Q E' s := by
  refine wpAny_Expr_any (MethodCall_ (nameX_L F hm ?_ c.hk (okN_l hx).1 (okN_l hx).2) (methOk rfl hs hl)) (by show (sc.kind == .module && _) = false; rw [c.hk]; rfl) (swaps_of rfl)
  refine listMethod_K N.N (.head _) PySem.F.slot_list_append PySem.F.type_list_append ?_
  refine callWith_method1 (args_cons (hE h s m _ _ _ F N (S.up (.of fun q hq => .tail _ hq)) fun v h' tk b p k' F' N' u Rv hk => args_nil ?_) (starEach_cons hs)) (starEach_cons hs)
  have hI := u _ (.head _) hP
  have ne' : ∀ q ∈ without D b, q.1 ≠ D := fun q hq => (mem_without hq).2
  have u' : Up c.P a (without D b) := fun q hq hp => without_mem (u q (.tail _ hq) hp) (ha q hq)
  have N2 : News c.h₀ c.L h' ((D, listOf its.toArray i) :: without D b) := fun q hq => by
    rcases List.mem_cons.mp hq with rfl | hq
    · exact N'.N _ hI
    · exact N'.N _ (mem_without hq).1
  refine append_K F' N2 (.head ne') (fun h2 F3 N3 => ?_) (by rw [List.size_toArray, sizeLine_eq]; omega)
  exact k h2 tk p v (without D b) k' F3 ⟨by simpa using N3, (N'.pok.off hpn).sub fun q hq => .tail _ hq⟩ u' ne' (fun hp => (Rs.up u').snoc (Rv.offP N'.N hI (cls_ne (by decide)) hp)) hk
theorem appOf_shape {x : Str} {st : Stmt} {e : Expr} (h : appOf x st = some e) : ∃ px pa pc pos, st = .Expr (.Call (.Attribute (.Name x px) (Str.ofString "append") pa) [e] [] pc) pos ∧ (pa.endLine == pc.line) = true ∧ starred e = false := by
  unfold appOf at h
  repeat' split at h
  all_goals first | (cases h; done) | skip
  rename nmOf _ = _ => hnm
  rename_i h1
  obtain ⟨_, rfl⟩ := nmOf_shape hnm
  cases h
  simp only [Bool.and_eq_true, Bool.not_eq_true'] at h1
  obtain ⟨⟨⟨h2, h3⟩, h4⟩, h5⟩ := h1
  obtain rfl := eq_of_beq h2
  obtain rfl := eq_of_beq h3
  exact ⟨_, _, _, _, rfl, h4, h5⟩
theorem lstOf_shape {x : Str} {st : Stmt} {e : Expr} (h : lstOf x st = some e) : ∃ px pl pos, st = .Assign [.Name x px] (.List [e] pl) pos ∧ starred e = false := by
  unfold lstOf at h
  repeat' split at h
  all_goals first | (cases h; done) | skip
  rename nmOf _ = _ => hnm
  rename_i h1
  obtain ⟨_, rfl⟩ := nmOf_shape hnm
  cases h
  have h1 := Bool.and_eq_true_iff.mp h1
  obtain rfl := eq_of_beq h1.1
  exact ⟨_, _, _, rfl, by simpa using h1.2⟩
theorem app3_ok (hE : SE c E) (hB : SB c B) {x : Str} {st s1 s2 : Stmt} {rest : List Stmt} {e0 e1 e2 : Expr} (h0 : lstOf x st = some e0) (h1 : appOf x s1 = some e1) (h2 : appOf x s2 = some e2) (hx : okN sc x = true)
    (h : E e0 σ n fun p0 n => E e1 σ n fun p1 n => match p1.pure with
      | true => E e2 σ n fun p2 n => match p2.pure with
        | true => B rest ((x, .lst [p0, p1, p2]) :: σ) n R X C K
        | false => False
      | false => False) (hσ : σ.lookup x = none) : ExW c (st :: s1 :: s2 :: rest) σ n R X C K := fun s m a Q E' F N S k => by
  obtain ⟨px, pl, pos, rfl, hs0⟩ := lstOf_shape h0
  obtain ⟨p1, p2, p3, p4, rfl, hl1, hs1⟩ := appOf_shape h1
  obtain ⟨q1, q2, q3, q4, rfl, hl2, hs2⟩ := appOf_shape h2
  refine wpAny_execs_cons (wpAny_Assign_Name (List_ (args_cons (hE h s m a _ _ F N S fun v h' tk b p0 k' F' N' u R0 h => args_nil ?_) (starEach_cons hs0))) (swaps_of rfl))
  refine newList_K F' N'.N (fun D h2 F2 N2 l => ?_) (by show 1 ≤ sizeLine; rw [sizeLine_eq]; omega)
  refine storeX_L F2 N2 (fun h3 F3 N3 => ?_) c.hk (okN_l hx).1
  have hP : c.P ≠ some D := N'.fresh l
  have hpn := N'.pok.apart l
  have S3 : c.S (fun y => if y = x then some (.ref D) else m y) b σ := fun y q e => by
    obtain ⟨d, w, Rw, sw⟩ := S.up u y q e
    refine ⟨d, w, Rw, sw.imp (fun z => ⟨z.1, (if_neg fun e' => ?_).trans z.2⟩) id⟩
    rw [e', hσ] at e
    cases e
  refine wpAny_execs_cons (app_ok (its := [v]) (i := 0) (ps := [p0]) hE hx hs1 hl1 (Nat.le_of_ble_eq_true rfl) h (if_pos rfl) (fun q hq => Nat.ne_of_lt (l q hq)) F3 ⟨N3, N'.pok.sub fun q hq => .tail _ hq⟩ S3 (.cons R0 .nil) hP hpn fun h4 tk4 p1 v1 b1 k1 F4 N4 u1 n1 R1 h => ?_)
  split at h
  · rename_i hp1
    refine wpAny_execs_cons (app_ok (its := [v, v1]) (i := 1) (ps := [p0, p1]) hE hx hs2 hl2 (Nat.le_of_ble_eq_true rfl) h (if_pos rfl) n1 F4 N4 (S3.up u1) (R1 hp1) hP hpn fun h5 tk5 p2 v2 b2 k2 F5 N5 u2 n2 R2 h => ?_)
    split at h
    · rename_i hp2
      have u3 : Up c.P b2 ((D, listOf [v, v1, v2].toArray 2) :: b2) := .of fun q hq => .tail _ hq
      refine hB h _ _ _ Q E' F5 N5 (Cx.S.set ((S3.up (u1.trans u2)).up u3) (okN_l hx).2 (okN_l hx).1 (.lst hP (.head _) ((R2 hp2).up u3)) (if_pos rfl) fun y hy => rfl) (k.up (u.trans ((u1.trans u2).trans u3)))
    · exact h.elim
  · exact h.elim
noncomputable def LOk (c : Cx sc r) (Lp : LF) : Prop := ∀ {b rest : List Stmt} {σ : Sig} {n : Nat} {R : KV} {X : Nat → Prop} {C K Kb : Sig → Nat → Prop}, Lp.takes b = some rest → Lp.spec b σ n Kb → (∀ σ n, Kb σ n → ExW c rest σ n R X C K) → ExW c b σ n R X C K
theorem noL_ok : LOk c noL := fun h => nomatch h
theorem stepB_ok {Lp : LF} (hL : LOk c Lp) (hr : 6 ≤ r) (hE : SE c E) (hT : ST c Tt) (hA : SA c A) (hB : SB c B) {b : List Stmt} (h : stepB sc Lp E Tt A B b σ n R X C K) : ExW c b σ n R X C K := by
  have one : ∀ {st rest}, stmtW sc E Tt A B st σ n R X C (fun σ n => B rest σ n R X C K) → ExW c (st :: rest) σ n R X C K := fun {st rest} h => ExW.cons fun s m a Q E' F N S k => stmt_ok hr hE hT hA hB h s m a Q E' F N S (k.mono (fun _ _ x => x) (fun _ x => x) (fun _ _ x => x) fun h' tk' m' b σ k' F' N' u S' h => k.next h' tk' m' b σ k' F' N' u S' (hB h))
  unfold stepB at h
  split at h
  · exact ExW.nil h
  · split at h
    · rename_i ht
      exact hL ht h fun _ _ => hB
    · split at h
      · split at h
        · split at h
          · split at h
            · split at h
              · split at h
                · rename_i h1 _ _ h2 _ _ h3 _ h4
                  have h4 := Bool.and_eq_true_iff.mp h4
                  exact app3_ok hE hB h3 h1 h2 h4.1 h (by simpa using h4.2)
                · exact h.elim
              · exact h.elim
            · exact h.elim
          · exact one h
        · exact one h
      · exact one h
theorem WB_ok {Tb : List Ent} {ns : List Int} {Lp : LF} (hL : LOk c Lp) (hr : 6 ≤ r) (hT : TOk c Tb) (hN : NsOk c ns) (f : Nat) : ∀ k, SB c (WB Tb ns sc r Lp f k)
  | 0 => fun h => False.elim h
  | k + 1 =>
    let ⟨h1, h2, h3⟩ := W_ok hT hN f
    fun h => stepB_ok hL hr h1 h2 h3 (WB_ok hL hr hT hN f k) h
end
end

section
set_option genSizeOf false
set_option genInjectivity false
/-! the way into a def -/
noncomputable def fdAt (P : Params) (f : Addr) : Option FuncData := match (Mine.hd.heap_1 P).lookup f with
  | some o => match o.data with
    | .func fd => some fd
    | _ => none
  | none => none
noncomputable def fnAt (P : Params) (f : Addr) : FuncData := (fdAt P f).getD default
noncomputable def bodyAt (P : Params) (f : Addr) : List Stmt := match (fnAt P f).body with
  | .stmts b => b
  | _ => []
noncomputable abbrev scAt (P : Params) (f : Addr) : Scope := (fnAt P f).scope
noncomputable def defOk (P : Params) (f : Addr) (xs : List Str) : Bool := match (Mine.hd.heap_1 P).lookup f with
  | some o => match o.data with
    | .func fd => match fd.body with
      | .stmts _ => fd.closure.isEmpty && fd.globals == mainGlobals && fd.builtins == builtinsNs && codeIn (Mine.hd.heap_1 P) fd.code fd.qualname && xs.all (okN fd.scope) && !fd.scope.isCoroutine && !fd.scope.isGenerator && fd.scope.kind == .function && fd.scope.names.all fun x => x.2 != .cell
      | _ => false
    | _ => false
  | none => false
/-- a def with plain parameters stands at f -/
structure DefAt (P : Params) (f : Addr) (xs : List Str) : Prop where
  ok : defOk P f xs = true
  bind : ∀ vs, vs.length = xs.length → bindArgs (fnAt P f) ⟨vs, []⟩ = pure (xs.zip vs)
theorem DefAt.at' {P : Params} {f : Addr} {xs : List Str} (D : DefAt P f xs) : ((∃ oc od osl, (Mine.hd.heap_1 P).lookup f = some ⟨oc, od, .func (fnOf (fnAt P f).name (fnAt P f).qualname (fnAt P f).params (bodyAt P f) (scAt P f) (fnAt P f).defaults (fnAt P f).kwdefaults (fnAt P f).doc (fnAt P f).pyModule (fnAt P f).annotations (fnAt P f).code (fnAt P f).closureTuple), osl⟩) ∧ fnAt P f = fnOf (fnAt P f).name (fnAt P f).qualname (fnAt P f).params (bodyAt P f) (scAt P f) (fnAt P f).defaults (fnAt P f).kwdefaults (fnAt P f).doc (fnAt P f).pyModule (fnAt P f).annotations (fnAt P f).code (fnAt P f).closureTuple) ∧
    codeIn (Mine.hd.heap_1 P) (fnAt P f).code (fnAt P f).qualname = true ∧ xs.all (okN (scAt P f)) = true ∧ (scAt P f).isCoroutine = false ∧ (scAt P f).isGenerator = false ∧ (scAt P f).kind = .function ∧ ∀ x ∈ (scAt P f).names, x.2 ≠ .cell := by
  have h := D.ok
  unfold defOk at h
  unfold bodyAt scAt fnAt fdAt
  split at h
  · rename_i o ho
    rw [ho]
    obtain ⟨oc, od, dt, osl⟩ := o
    dsimp only at h ⊢
    split at h
    · rename_i fd
      dsimp only [Option.getD] at h ⊢
      split at h
      · rename_i b hb
        obtain ⟨nm, qn, ps, bd, scp, gl, cls, dV, kV, doc, pm, an, cd, ct, bt⟩ := fd
        dsimp only at h hb ⊢
        subst hb
        simp only [Bool.and_eq_true, List.isEmpty_iff, beq_iff_eq, Bool.not_eq_true', List.all_eq_true, bne_iff_ne] at h
        obtain ⟨⟨⟨⟨⟨⟨⟨⟨h1, h2⟩, h3⟩, h4⟩, h5⟩, h6⟩, h7⟩, h8⟩, h9⟩ := h
        subst h1; subst h2; subst h3
        exact ⟨⟨⟨_, _, _, rfl⟩, rfl⟩, h4, List.all_eq_true.mpr h5, h6, h7, h8, h9⟩
      · cases h
    · cases h
  · cases h
theorem DefAt.one {P : Params} {f : Addr} {x : Str} (ok : defOk P f [x] = true) (h : ∀ a, bindArgs (fnAt P f) ⟨[a], []⟩ = pure [(x, a)]) : DefAt P f [x] := ⟨ok, fun vs hl => by
  obtain _ | ⟨a, _ | ⟨b, vs⟩⟩ := vs
  · cases hl
  · exact h a
  · cases hl⟩
theorem DefAt.two {P : Params} {f : Addr} {x y : Str} (ok : defOk P f [x, y] = true) (h : ∀ a b, bindArgs (fnAt P f) ⟨[a, b], []⟩ = pure [(x, a), (y, b)]) : DefAt P f [x, y] := ⟨ok, fun vs hl => by
  obtain _ | ⟨a, _ | ⟨b, _ | ⟨c, vs⟩⟩⟩ := vs
  · cases hl
  · cases hl
  · exact h a b
  · cases hl⟩
theorem DefAt.three {P : Params} {f : Addr} {x y z : Str} (ok : defOk P f [x, y, z] = true) (h : ∀ a b c, bindArgs (fnAt P f) ⟨[a, b, c], []⟩ = pure [(x, a), (y, b), (z, c)]) : DefAt P f [x, y, z] := ⟨ok, fun vs hl => by
  obtain _ | ⟨a, _ | ⟨b, _ | ⟨c, _ | ⟨d, vs⟩⟩⟩⟩ := vs
  · cases hl
  · cases hl
  · cases hl
  · exact h a b c
  · cases hl⟩
theorem DefAt.four {P : Params} {f : Addr} {x y z u : Str} (ok : defOk P f [x, y, z, u] = true) (h : ∀ a b c d, bindArgs (fnAt P f) ⟨[a, b, c, d], []⟩ = pure [(x, a), (y, b), (z, c), (u, d)]) : DefAt P f [x, y, z, u] := ⟨ok, fun vs hl => by
  obtain _ | ⟨a, _ | ⟨b, _ | ⟨c, _ | ⟨d, _ | ⟨e, vs⟩⟩⟩⟩⟩ := vs
  · cases hl
  · cases hl
  · cases hl
  · cases hl
  · exact h a b c d
  · cases hl⟩
theorem DefAt.five {P : Params} {f : Addr} {x y z u v : Str} (ok : defOk P f [x, y, z, u, v] = true) (h : ∀ a b c d e, bindArgs (fnAt P f) ⟨[a, b, c, d, e], []⟩ = pure [(x, a), (y, b), (z, c), (u, d), (v, e)]) : DefAt P f [x, y, z, u, v] := ⟨ok, fun vs hl => by
  obtain _ | ⟨a, _ | ⟨b, _ | ⟨c, _ | ⟨d, _ | ⟨e, _ | ⟨f, vs⟩⟩⟩⟩⟩⟩ := vs
  · cases hl
  · cases hl
  · cases hl
  · cases hl
  · cases hl
  · exact h a b c d e
  · cases hl⟩
noncomputable def cellsOf : Option PenS → List Int
  | some p => p.ns
  | none => []
section
variable {sc : Scope} {r : Nat} {c : Cx sc r}
inductive Prs (P : Option Addr) (a : Led) : List (Str × Value) → Sig → Prop
  | nil : Prs P a [] []
  | cons {x v p l σ} (R : Rep P a v p) (h : Prs P a l σ) : Prs P a ((x, v) :: l) ((x, p) :: σ)
theorem Prs.snoc {P : Option Addr} {a : Led} {x : Str} {v : Value} {p : PV} (R : Rep P a v p) : ∀ {l σ}, Prs P a l σ → Prs P a (l ++ [(x, v)]) (σ ++ [(x, p)])
  | _, _, .nil => .cons R .nil
  | _, _, .cons R' h => .cons R' (h.snoc R)
theorem Prs.zip {P : Option Addr} {a : Led} : ∀ {xs : List Str} {vs ps}, Reps P a vs ps → Prs P a (xs.zip vs).reverse (xs.zip ps).reverse
  | [], _, _, _ => .nil
  | _ :: _, _, _, .nil => .nil
  | x :: xs, _, _, .cons R Rs => by
    rw [List.zip_cons_cons, List.zip_cons_cons, List.reverse_cons, List.reverse_cons]
    exact (Prs.zip Rs).snoc R
theorem Prs.look {P : Option Addr} {a : Led} : ∀ {l σ} {y : Str} {p : PV}, Prs P a l σ → σ.lookup y = some p → ∃ v, l.lookup y = some v ∧ Rep P a v p ∧ y ∈ σ.map (·.1)
  | _, _, _, _, .nil, e => nomatch e
  | _, _, y, _, .cons (x := x) R h, e => by
    cases hy : y == x with
    | true =>
      rw [List.lookup_cons, hy] at e ⊢
      cases e
      exact ⟨_, rfl, R, by rw [eq_of_beq hy]; exact .head _⟩
    | false =>
      rw [List.lookup_cons, hy] at e ⊢
      obtain ⟨v, h1, h2, h3⟩ := h.look e
      exact ⟨v, h1, h2, .tail _ h3⟩
theorem zip_names {xs : List Str} {ps : List PV} {y : Str} (h : y ∈ (xs.zip ps).reverse.map (·.1)) : y ∈ xs := by
  obtain ⟨q, hq, rfl⟩ := List.mem_map.mp h
  exact (List.of_mem_zip (List.mem_reverse.mp hq)).1
theorem call_of {f : Addr} {xs : List Str} {rr n : Nat} (D : DefAt c.w.params f xs) {Tb : List Ent} (hT : ∀ {c' : Cx (scAt c.w.params f) rr}, c'.w = c.w → c'.pen = c.pen → TOk c' Tb) {Lp : LF} (hL : ∀ {c' : Cx (scAt c.w.params f) rr}, c'.w = c.w → c'.pen = c.pen → LOk c' Lp) (hr : rr + 1 ≤ r) (h6 : 6 ≤ rr) {ps : List PV} {K : KV} {X : Nat → Prop} (hl : ps.length = xs.length)
    (hb : WB Tb (cellsOf c.pen) (scAt c.w.params f) rr Lp 40 60 (bodyAt c.w.params f) (xs.zip ps).reverse n K X (fun _ _ => False) (fun _ _ => False))
    {s : Shared} {m : Str → Option Value} {a : Led} {vs : List Value} {Q E : Value → Shared → Prop} (F : c.F s.heap m) (N : c.N n s.heap a) (R : Reps c.P a vs ps) (k : BackW c a s m K Q)
    (hE : ∀ k', X k' → ∀ e Dz tz G h' tk hs1 u1 hs2 u2 tt b, RaisedX c.base G (c.env :: c.outer) e Dz ((Dz, dictOf [⟨hs1, .str (Str.ofString "what") u1, .str (Str.ofString "divide") tt⟩, ⟨hs2, .str (Str.ofString "at") u2, .none⟩] 2) :: (tz, { cls := .type "tuple", data := .seq #[.str (Str.ofString "divide") tt] }) :: b) h' → PenOk c.pen k' b → Up c.P a b → Fr c.h₀ c.L G m → G.UpToSlots h' → E (.ref e) { s with heap := h', toks := tk }) :
    wpAny c.M c.A (call (.ref f) vs) Q E s := by
  obtain ⟨⟨⟨oc, od, osl, ho⟩, hfn⟩, hcd, hxs, f1, f2, f3, f4⟩ := D.at'
  have hbind : ∀ s vs, vs.length = xs.length → BindsTo s (fnAt c.w.params f) ⟨vs, []⟩ (xs.zip vs) := fun s vs hl => .of_eq (D.bind vs hl)
  rw [hfn] at hbind
  have hlv : vs.length = xs.length := by rw [R.len, hl]
  have hd := c.hd
  have hu := c.hu
  have hloc : ∀ y ∈ xs, okN (scAt c.w.params f) y = true := fun y hy => List.all_eq_true.mp hxs y hy
  refine wpAny_call (code_def (A₀ := c.A₀) c.BL F c.X N.N c.TP rfl rfl c.hk ho hcd (by show c.dp < _; omega) (hbind s vs hlv) (fun y hy => (okN_l (hloc _ (List.of_mem_zip (a := y.1) (b := y.2) hy).1)).1) ?_ f1 f2 f3 f4)
  intro g L' h₁ FG F' N' B' X' T'
  let c' : Cx (scAt c.w.params f) rr := ⟨c.w, c.mean, c.mg, c.mb, c.dp + 1, c.un + 3, c.gd, (fnAt c.w.params f).qualname, f, (fnAt c.w.params f).code, [], c.env :: c.outer, c.A, c.base, g, L', c.pen, B', X', T', f3, (by show c.dp + 1 + rr < _; omega), (by omega)⟩
  have hbk := WB_ok (c := c') (hL (c' := c') rfl rfl) h6 (hT (c' := c') rfl rfl) (ns := cellsOf c.pen) (fun p e => by rw [show c.pen = some p from e]; rfl) 40 60 hb
  have S' : c'.S (fun y => (xs.zip vs).reverse.lookup y) a (xs.zip ps).reverse := fun y p e => by
    obtain ⟨v, h1, h2, h3⟩ := (Prs.zip R).look e
    have h4 := okN_l (hloc _ (zip_names h3))
    exact ⟨h4.2, v, h2, .inl ⟨h4.1, h1⟩⟩
  refine hbk { s with heap := h₁, toks := s.toks + (xs.zip vs).length } _ a _ _ F' ⟨N', N.pok⟩ S' ⟨?_, fun _ _ _ _ _ _ _ _ _ _ h => h.elim, fun _ _ _ _ _ _ _ _ _ _ h => h.elim, ?_⟩
  · intro v h2 tk2 m2 b p k2 F2 N2 u2 R2 hk
    exact leaveK_ F2 N2.N fun F3 N3 => k v h2 tk2 b p k2 F3 ⟨N3, N2.pok⟩ u2 R2 hk
  · intro k2 hX e t D hs1 u1 hs2 u2 tt h2 tk2 m2 b F2 N2 pk u' n1 n2 n3
    refine exc_leaves B' F2 N2 ?_ ?_ f3
    · intro p hp
      rcases List.mem_cons.mp hp with rfl | hp
      · exact Ne.symm n2
      · rcases List.mem_cons.mp hp with rfl | hp
        · exact Ne.symm n3
        · exact n1 p hp
    · intro h3 hR hs
      exact hE k2 hX e D t g h3 _ hs1 u1 hs2 u2 tt b hR pk u' FG hs
end
/-! contracts -/
noncomputable abbrev Spec := List PV → Nat → KV → Prop
structure EntOk (e : Ent) : Prop where
  f : Fun e.name e.addr
  ok : ∀ {sc r} (c : Cx sc r), e.room ≤ r → ∀ ps n K, e.spec ps n K → CallW c e.addr ps n K
inductive AllOk : List Ent → Prop
  | nil : AllOk []
  | cons {e T} : EntOk e → AllOk T → AllOk (e :: T)
theorem AllOk.tok {T : List Ent} (h : AllOk T) {sc : Scope} {r : Nat} {c : Cx sc r} : TOk c T := by
  induction h with
  | nil => exact fun _ h => nomatch h
  | cons h _ ih =>
    intro e he
    rcases List.mem_cons.mp he with rfl | he
    · exact ⟨h.f, fun hr => h.ok c hr⟩
    · exact ih e he
theorem EntOk.of {name : Str} {f : Addr} {D : Nat} {S : Spec} (h : Fun name f) (k : ∀ {sc r} (c : Cx sc r), D ≤ r → ∀ ps n K, S ps n K → CallW c f ([] ++ ps) n K) : EntOk ⟨name, f, D, S⟩ := ⟨h, k⟩
/-- behind some arguments -/
noncomputable def Ok (f : Addr) (D : Nat) (pre : List PV) (S : Spec) : Prop := ∀ {sc r} (c : Cx sc r), D ≤ r → ∀ ps n K, S ps n K → CallW c f (pre ++ ps) n K
noncomputable def aI (g : Int → Spec) : Spec := fun ps n K => match ps with
  | p :: ps => match p.toI with
    | some x => g x ps n K
    | none => False
  | [] => False
noncomputable def aB (g : List Bool → Spec) : Spec := fun ps n K => match ps with
  | .bits l :: ps => g l ps n K
  | _ => False
noncomputable def aG (g : Bool → Spec) : Spec := fun ps n K => match ps with
  | .sgn l :: ps => g l ps n K
  | _ => False
noncomputable def aT (g : List Bool → Spec) : Spec := fun ps n K => match ps with
  | .txt l :: ps => g l ps n K
  | _ => False
noncomputable def aS (g : Str → Spec) : Spec := fun ps n K => match ps with
  | .str l :: ps => g l ps n K
  | _ => False
noncomputable def aZ (g : Bool → Spec) : Spec := fun ps n K => match ps with
  | .bool l :: ps => g l ps n K
  | _ => False
noncomputable def toIs : List PV → Option (List Int)
  | [] => some []
  | p :: ps => match p.toI with
    | some x => match toIs ps with
      | some l => some (x :: l)
      | none => none
    | none => none
noncomputable def aN (g : List Int → Spec) : Spec := fun ps n K => match ps with
  | .ilst l :: ps => g l ps n K
  | .lst qs :: ps => match toIs qs with
    | some l => g l ps n K
    | none => False
  | _ => False
noncomputable def aE (pre : Prop) (res : PV) : Spec := fun ps n K => match ps with
  | [] => pre ∧ K res n
  | _ => False
noncomputable def sel (x : Str) (S₁ S₂ : Spec) (y : Str) : Spec := match y == x with
  | true => S₁
  | false => S₂
noncomputable def no : Spec := fun _ _ _ => False
noncomputable def br (b : Bool) (S₁ S₂ : Spec) : Spec := fun ps n K => Br b (S₁ ps n K) (S₂ ps n K)
/-- by a truth that is handed in -/
noncomputable def brz (b : Bool) (S₁ S₂ : Spec) : Spec := match b with
  | true => S₁
  | false => S₂
section
variable {f : Addr} {D : Nat} {pre : List PV}
theorem Ok.conv {q q' : PV} {S : Spec} (h : Ok f D (pre ++ [q']) S) (e : ∀ {P a v}, Rep P a v q → Rep P a v q') {sc : Scope} {r : Nat} (c : Cx sc r) (hr : D ≤ r) {ps : List PV} {n : Nat} {K : KV} (hS : S ps n K) : CallW c f (pre ++ q :: ps) n K := fun s m a vs Q E F N R b => by
  have h' := h c hr ps n K hS
  rw [List.append_assoc] at h'
  refine h' s m a vs Q E F N ?_ b
  clear h h' b
  show Reps c.P a vs (pre ++ q' :: ps)
  induction pre generalizing vs with
  | nil =>
    cases R with
    | cons R Rs => exact .cons (e R) Rs
  | cons q pre ih =>
    cases R with
    | cons R Rs => exact .cons R (ih _ Rs)
theorem Ok.aI {g : Int → Spec} (h : ∀ x, Ok f D (pre ++ [.int x]) (g x)) : Ok f D pre (aI g) := fun c hr ps n K hS => by
  unfold Mine.aI at hS
  split at hS
  · split at hS
    · rename_i e
      exact Ok.conv (h _) (fun R => let ⟨t, e'⟩ := R.i e; e' ▸ .int rfl) c hr hS
    · exact hS.elim
  · exact hS.elim
theorem toIs_ints {P : Option Addr} {a : Led} : ∀ {qs : List PV} {vs : List Value} {l : List Int}, toIs qs = some l → Reps P a vs qs → IntsAre vs l
  | [], _, _, e, .nil => by cases e; exact .nil
  | p :: ps, _, l, e, .cons R Rs => by
    unfold toIs at e
    split at e
    · rename_i x hx
      split at e
      · rename_i l' hl
        cases e
        obtain ⟨t, rfl⟩ := R.i hx
        exact .cons _ _ (toIs_ints hl Rs)
      · cases e
    · cases e
theorem Ok.aN {g : List Int → Spec} (h : ∀ l, Ok f D (pre ++ [.ilst l]) (g l)) : Ok f D pre (aN g) := fun c hr ps n K hS => by
  unfold Mine.aN at hS
  split at hS
  · exact Ok.conv (h _) (fun R => R) c hr hS
  · split at hS
    · rename_i e
      refine Ok.conv (h _) (fun R => ?_) c hr hS
      obtain ⟨D, vs, k, rfl, hp, hm, rs⟩ := R.l
      exact .ilst hp hm (toIs_ints e rs)
    · exact hS.elim
  · exact hS.elim
theorem Ok.to {R : Prop} {res : PV} (h : R → ∃ pre', tos pre pre' ∧ Ok f D pre' (aE True res)) : Ok f D pre (aE R res) := fun c hr ps n K hS => by
  unfold Mine.aE at hS
  split at hS
  · obtain ⟨pre', h1, h2⟩ := h hS.1
    intro s m a vs Q E F N Rs b
    rw [List.append_nil] at Rs
    exact h2 c hr [] n K ⟨trivial, hS.2⟩ s m a vs Q E F N (by rw [List.append_nil]; exact tos_rep h1 Rs) b
  · exact hS.elim
theorem Ok.aB {g : List Bool → Spec} (h : ∀ l, Ok f D (pre ++ [.bits l]) (g l)) : Ok f D pre (aB g) := fun c hr ps n K hS => by
  unfold Mine.aB at hS
  split at hS
  · have := h _ c hr _ n K hS
    rw [List.append_assoc] at this
    exact this
  · exact hS.elim
theorem Ok.aG {g : Bool → Spec} (h : ∀ l, Ok f D (pre ++ [.sgn l]) (g l)) : Ok f D pre (aG g) := fun c hr ps n K hS => by
  unfold Mine.aG at hS
  split at hS
  · have := h _ c hr _ n K hS
    rw [List.append_assoc] at this
    exact this
  · exact hS.elim
theorem Ok.aT {g : List Bool → Spec} (h : ∀ l, Ok f D (pre ++ [.txt l]) (g l)) : Ok f D pre (aT g) := fun c hr ps n K hS => by
  unfold Mine.aT at hS
  split at hS
  · have := h _ c hr _ n K hS
    rw [List.append_assoc] at this
    exact this
  · exact hS.elim
theorem Ok.aS {g : Str → Spec} (h : ∀ l, Ok f D (pre ++ [.str l]) (g l)) : Ok f D pre (aS g) := fun c hr ps n K hS => by
  unfold Mine.aS at hS
  split at hS
  · have := h _ c hr _ n K hS
    rw [List.append_assoc] at this
    exact this
  · exact hS.elim
theorem Ok.aZ {g : Bool → Spec} (h : ∀ l, Ok f D (pre ++ [.bool l]) (g l)) : Ok f D pre (aZ g) := fun c hr ps n K hS => by
  unfold Mine.aZ at hS
  split at hS
  · have := h _ c hr _ n K hS
    rw [List.append_assoc] at this
    exact this
  · exact hS.elim
theorem Ok.sel {x y : Str} {S₁ S₂ : Spec} (h : Ok f D (pre ++ [.str x]) S₁) (h2 : Ok f D (pre ++ [.str y]) S₂) : Ok f D (pre ++ [.str y]) (sel x S₁ S₂ y) := by
  unfold Mine.sel
  cases e : y == x with
  | true => rw [eq_of_beq e]; exact h
  | false => exact h2
theorem Ok.br {b : Bool} {S₁ S₂ : Spec} (h : b = true → Ok f D pre S₁) (h2 : b = false → Ok f D pre S₂) : Ok f D pre (br b S₁ S₂) := fun c hr ps n K hS => by
  cases b with
  | true => exact h rfl c hr ps n K (Br.true_ hS rfl)
  | false => exact h2 rfl c hr ps n K (Br.false_ hS rfl)
theorem Ok.brz {b : Bool} {S₁ S₂ : Spec} (h : Ok f D (pre ++ [.bool true]) S₁) (h2 : Ok f D (pre ++ [.bool false]) S₂) : Ok f D (pre ++ [.bool b]) (brz b S₁ S₂) := by
  cases b with
  | true => exact h
  | false => exact h2
theorem Ok.no : Ok f D pre no := fun _ _ _ _ _ h => h.elim
/-- the def's text runs to what is said -/
noncomputable def RunsL (L : Params → List Int → LF) (f : Addr) (xs : List Str) (T : List Ent) (D : Nat) (pre : List PV) (res : PV) : Prop :=
  ∀ P ns n, WB T ns (scAt P f) D (L P ns) 40 60 (bodyAt P f) (xs.zip pre).reverse n (fun p k => p.to res ∧ k = n) (fun _ => False) (fun _ _ => False) (fun _ _ => False)
noncomputable abbrev Runs := RunsL fun _ _ => noL
theorem Ok.aEL {L : Params → List Int → LF} {xs : List Str} (D' : ∀ P, DefAt P f xs) {T : List Ent} (hT : AllOk T) {rr : Nat} (h6 : Nat.ble 6 rr = true) (hl : pre.length = xs.length) {R : Prop} {res : PV} (hL : ∀ {P : Params} {ns : List Int} {c : Cx (scAt P f) rr}, c.w.params = P → NsOk c ns → LOk c (L P ns)) (h : R → RunsL L f xs T rr pre res) : Ok f (rr + 1) pre (aE R res) := fun c hr ps n K hS => by
  unfold Mine.aE at hS
  split at hS
  · intro s m a vs Q E F N Rs b
    rw [List.append_nil] at Rs
    refine call_of (D' _) (fun _ _ => hT.tok) (fun e e2 => hL (congrArg World.params e) (fun p h => by rw [← e2, h]; rfl)) hr (Nat.le_of_ble_eq_true h6) hl (h hS.1 _ _ n) F N Rs (fun v h' tk' b' p k' F' N' u R' hk => ?_) fun _ h => h.elim
    obtain ⟨h1, rfl⟩ := hk
    exact b v h' tk' b' res _ F' N' u (to_rep h1 R') hS.2
  · exact hS.elim
theorem Ok.aE {xs : List Str} (D' : ∀ P, DefAt P f xs) {T : List Ent} (hT : AllOk T) {rr : Nat} (h6 : Nat.ble 6 rr = true) (hl : pre.length = xs.length) {R : Prop} {res : PV} (h : R → Runs f xs T rr pre res) : Ok f (rr + 1) pre (aE R res) := Ok.aEL D' hT h6 hl (fun _ _ => noL_ok) h
theorem vc_cast {a b : Prop} (h : a = b) (x : a) : b := h ▸ x
/-- the def's text raises -/
noncomputable def Raises (f : Addr) (xs : List Str) (T : List Ent) (D : Nat) (pre : List PV) : Prop :=
  ∀ P ns n, WB T ns (scAt P f) D noL 40 60 (bodyAt P f) (xs.zip pre).reverse n (fun _ _ => False) (fun k => k = n) (fun _ _ => False) (fun _ _ => False)
end
end

section
theorem pow_sub_one {n : Int} (h : 1 ≤ n) : (2 : Int) ^ n.toNat = 2 * 2 ^ (n - 1).toNat := by
  have e : n.toNat = (n - 1).toNat + 1 := by omega
  rw [e, Int.pow_succ, Int.mul_comm]
/-- the number with a sign that so many signs mean -/
noncomputable def sgn (x n : Int) : Int := if 2 ^ (n - 1).toNat ≤ x % 2 ^ n.toNat then x % 2 ^ n.toNat - 2 ^ n.toNat else x % 2 ^ n.toNat
theorem top_bit {x n : Int} (h : 1 ≤ n) : (x % 2 ^ n.toNat / 2 ^ (n - 1).toNat = 1) ↔ 2 ^ (n - 1).toNat ≤ x % 2 ^ n.toNat := by
  have hp := kbt_pos (n - 1).toNat
  have h1 := Int.emod_nonneg x (show (2 : Int) ^ n.toNat ≠ 0 from by have := kbt_pos n.toNat; omega)
  have h2 := Int.emod_lt_of_pos x (kbt_pos n.toNat)
  rw [pow_sub_one h] at h1 h2 ⊢
  generalize x % (2 * 2 ^ (n - 1).toNat) = y at *
  generalize (2 : Int) ^ (n - 1).toNat = p at *
  constructor
  · intro e
    exact Int.not_lt.mp fun hl => by rw [Int.ediv_eq_zero_of_lt h1 hl] at e; omega
  · intro e
    have e2 : y = (y - p) + 1 * p := by omega
    rw [e2, Int.add_mul_ediv_right _ _ (by omega), Int.ediv_eq_zero_of_lt (by omega) (by omega)]
    rfl
theorem halves_eq (x y : Int) {r : Int} (hr : 0 < r) : (x / r * (y / r) * r + x / r * (y % r) + x % r * (y / r)) * r + x % r * (y % r) = x * y := by
  have hx := Int.mul_ediv_add_emod x r
  have hy := Int.mul_ediv_add_emod y r
  generalize x / r = a at *
  generalize x % r = b at *
  generalize y / r = c at *
  generalize y % r = d at *
  subst hx
  subst hy
  grind
/-- turned to the left -/
noncomputable def rotl (l : List Bool) (k : Nat) : List Bool := l.drop k ++ l.take k
theorem rotl_length (l : List Bool) (k : Nat) : (rotl l k).length = l.length := by unfold rotl; simp; omega
theorem toNat_sub_cast {a b : Int} {n : Nat} (hb : b = n) (h0 : 0 ≤ a) (h1 : a ≤ b) : (b - a).toNat = n - a.toNat := by omega
theorem shl_mod (l : List Bool) (k : Nat) (hk : k ≤ l.length) : V l * 2 ^ k % 2 ^ l.length = V (l.drop k) * 2 ^ k := by
  have e : (2 : Int) ^ l.length = 2 ^ (l.length - k) * 2 ^ k := by rw [← Int.pow_add]; congr 1; omega
  rw [e, Int.mul_comm (V l), Int.mul_comm _ ((2 : Int) ^ k), Int.mul_emod_mul_of_pos _ _ (kbt_pos k), V_drop, Int.mul_comm]
theorem turned_eq {l : List Bool} {k n : Int} (hn : n = l.length) (h0 : 0 ≤ k) (h1 : k ≤ n) :
    Builtin.bitOr (V l * 2 ^ k.toNat % 2 ^ n.toNat) (V l / 2 ^ (n - k).toNat) = V (rotl l k.toNat) := by
  have e1 : n.toNat = l.length := by omega
  rw [e1, toNat_sub_cast hn h0 h1, shl_mod l _ (by omega), ← V_take]
  have h2 := or_apart (l.drop k.toNat) (l.take k.toNat)
  rw [List.length_take, Nat.min_eq_left (by omega)] at h2
  exact h2
theorem bit_eq {l : List Bool} {n i : Int} (hn : n = l.length) (h0 : 0 ≤ i) (h1 : i < n) : V l / 2 ^ i.toNat % 2 = B (l.getD (n - 1 - i).toNat false) := by
  have e : (n - 1 - i).toNat = l.length - 1 - i.toNat := by omega
  rw [V_bit l i.toNat (by omega), e]
theorem bits_sgn {x n : Int} (h : 0 ≤ n ∧ n ≤ 400) : Builtin.Int.intBits (sgn x n) ≤ 1000 := by
  have h1 := Int.emod_nonneg x (show (2 : Int) ^ n.toNat ≠ 0 from by have := kbt_pos n.toNat; omega)
  have h2 := Int.emod_lt_of_pos x (kbt_pos n.toNat)
  refine Nat.le_trans (intBits_le_iff.mpr ?_ : _ ≤ n.toNat + 1) (by omega)
  have h3 := kbt_cast n.toNat
  rw [Nat.pow_succ]
  unfold sgn
  split <;> omega
theorem rotl_back {l : List Bool} {n k : Int} (hn : n = l.length) (h0 : 0 ≤ k) (h1 : k < n) : rotl l ((n - k) % n).toNat = rotl l (n - k).toNat := by
  unfold rotl
  by_cases hk : k = 0
  · subst hk
    have e : n.toNat = l.length := by omega
    rw [Int.sub_zero, Int.emod_self, e]
    simp
  · rw [Int.emod_eq_of_lt (by omega) (by omega)]
theorem rotl_get {l : List Bool} {k i : Nat} (hk : k ≤ l.length) (hi : i < l.length) : (rotl l k)[i]? = l[(i + k) % l.length]? := by
  unfold rotl
  by_cases h : i < l.length - k
  · rw [List.getElem?_append_left (by rw [List.length_drop]; exact h), List.getElem?_drop, Nat.mod_eq_of_lt (by omega), Nat.add_comm]
  · rw [List.getElem?_append_right (by rw [List.length_drop]; omega), List.length_drop, List.getElem?_take_of_lt (by omega)]
    have e : (i + k) % l.length = i - (l.length - k) := by
      have e1 : i + k = (i - (l.length - k)) + l.length := by omega
      rw [e1, Nat.add_mod_right, Nat.mod_eq_of_lt (by omega)]
    rw [e]
theorem rotl_rotl {l : List Bool} {a b c : Nat} (ha : a ≤ l.length) (hb : b ≤ l.length) (hc : c ≤ l.length) (e : (a + b) % l.length = c % l.length) : rotl (rotl l a) b = rotl l c := by
  refine List.ext_getElem? fun i => ?_
  by_cases hi : i < l.length
  · have h0 : 0 < l.length := by omega
    rw [rotl_get (by rw [rotl_length]; exact hb) (by rw [rotl_length]; exact hi), rotl_length, rotl_get ha (Nat.mod_lt _ h0), rotl_get hc hi]
    congr 1
    rw [Nat.mod_add_mod, Nat.add_assoc, Nat.add_comm b a, ← Nat.add_mod_mod, e, Nat.add_mod_mod]
  · rw [List.getElem?_eq_none (by rw [rotl_length, rotl_length]; omega), List.getElem?_eq_none (by rw [rotl_length]; omega)]
theorem rotl_full {l : List Bool} : rotl l l.length = l := by unfold rotl; simp
theorem rotl_getD {l : List Bool} {k i : Nat} (hk : k ≤ l.length) (hi : i < l.length) : (rotl l k).getD i false = l.getD ((i + k) % l.length) false := by
  simp only [List.getD, rotl_get hk hi]
theorem bit_at {l : List Bool} {n i j : Int} (hn : l.length = n) (h0 : 0 ≤ i) (h1 : i < n) (hj : n - 1 - i = j) : V l / 2 ^ i.toNat % 2 = B (l.getD j.toNat false) := by
  rw [← hj]; exact bit_eq hn.symm h0 h1
theorem drop_at {l : List Bool} {n : Int} (hn : l.length = n + 1) : V l % 2 ^ n.toNat = V (l.drop 1) := by
  have e : n.toNat = l.length - 1 := by omega
  rw [e, V_drop]
theorem getD_drop1 (l : List Bool) (i : Nat) : (l.drop 1).getD i false = l.getD (i + 1) false := by
  cases l <;> simp [List.getD]
theorem rol_y {l : List Bool} {n : Int} (hn : l.length = n) (h2 : 2 ≤ n) : V l / 2 ^ Int.toNat 0 % 2 = B (l.getD (l.length - 1) false) := by
  have e : (n - 1).toNat = l.length - 1 := by omega
  rw [← e]
  exact bit_at (n := n) (i := 0) (j := n - 1) hn (by omega) (by omega) (by omega)
theorem rol_z {l : List Bool} {n : Int} (hn : l.length = n) (h2 : 2 ≤ n) : Builtin.bitXor (V l / 2 ^ (n - 1).toNat % 2) (V l / 2 ^ Int.toNat 0 % 2) = B (l.getD 0 false ^^ l.getD (l.length - 1) false) := by
  rw [bit_at (n := n) (j := 0) hn (by omega) (by omega) (by omega), rol_y hn h2, xor_B]
  rfl
theorem ror_z {l : List Bool} {n : Int} (hn : l.length = n) (h2 : 2 ≤ n) : Builtin.bitXor (V l / 2 ^ (n - 1).toNat % 2) (V l / 2 ^ (n - 2).toNat % 2) = B (l.getD 0 false ^^ l.getD 1 false) := by
  rw [bit_at (n := n) (j := 0) hn (by omega) (by omega) (by omega), bit_at (j := 1) hn (by omega) (by omega) (by omega), xor_B]
  rfl
theorem rcl_z {l : List Bool} {n : Int} (hn : l.length = n + 1) (h2 : 2 ≤ n) : Builtin.bitXor (V l % 2 ^ n.toNat / 2 ^ (n - 1).toNat % 2) (V l / 2 ^ n.toNat % 2) = B (l.getD 1 false ^^ l.getD 0 false) := by
  rw [drop_at hn, bit_at (l := l.drop 1) (n := n) (j := 0) (by simp only [List.length_drop]; omega : ((l.drop 1).length : Int) = n) (by omega) (by omega) (by omega), bit_at (n := n + 1) (j := 0) hn (by omega) (by omega) (by omega), xor_B, getD_drop1]
  rfl
theorem rcr_z {l : List Bool} {b : Bool} {n : Int} (hn : l.length = n) (h2 : 2 ≤ n) : Builtin.bitXor (V l / 2 ^ (n - 1).toNat % 2) (B b) = B (l.getD 0 false ^^ b) := by
  rw [bit_at (n := n) (j := 0) hn (by omega) (by omega) (by omega), xor_B]
  rfl
section
variable {l : List Bool} {b : Bool} {c n : Int} (hn : n = l.length) (h2 : 2 ≤ n) (hc : 1 ≤ c)
include hn h2 hc
theorem turn_near : (c % n).toNat ≤ l.length ∧ (n - c % n).toNat ≤ l.length ∧ (((c % n).toNat + (n - c % n).toNat)) = l.length := by
  have em0 := Int.emod_nonneg c (show n ≠ 0 by omega)
  have em1 := Int.emod_lt_of_pos c (show 0 < n by omega)
  omega
theorem turn_back : rotl (rotl l (c % n).toNat) (n - c % n).toNat = l := by
  obtain ⟨h0, h1, h2⟩ := turn_near hn h2 hc
  rw [rotl_rotl (c := l.length) h0 h1 (Nat.le_refl _) (by rw [h2]), rotl_full]
theorem turn_more {d : Int} (hd : 1 ≤ d) : rotl (rotl l (c % n).toNat) (d % n).toNat = rotl l ((c + d) % n).toNat := by
  have e1 := turn_near hn h2 hc
  have e2 := turn_near hn h2 hd
  have e3 := turn_near (c := c + d) hn h2 (by omega)
  refine rotl_rotl e1.1 e2.1 e3.1 ?_
  have e4 : (((c % n).toNat + (d % n).toNat : Nat) : Int) % n = (((c + d) % n).toNat : Int) % n := by
    have em0 := Int.emod_nonneg c (show n ≠ 0 by omega)
    have em1 := Int.emod_nonneg d (show n ≠ 0 by omega)
    have em2 := Int.emod_nonneg (c + d) (show n ≠ 0 by omega)
    rw [Int.natCast_add, Int.toNat_of_nonneg em0, Int.toNat_of_nonneg em1, Int.toNat_of_nonneg em2, Int.emod_emod, ← Int.add_emod]
  rw [hn] at e4 ⊢
  exact Int.ofNat_inj.mp e4
end
theorem tl_cons {r : List Bool} (h : 0 < r.length) : r.getD 0 false :: r.drop 1 = r := by
  cases r with
  | nil => simp at h
  | cons b r => rfl
theorem rol_one {l : List Bool} {n : Int} (hn : n = l.length) (h2 : 2 ≤ n) : (rotl l (1 % n).toNat).getD ((rotl l (1 % n).toNat).length - 1) false = l.getD 0 false := by
  rw [Int.emod_eq_of_lt (by omega) (by omega), rotl_length]
  show (rotl l 1).getD (l.length - 1) false = _
  rw [rotl_getD (by omega) (by omega)]
  have e : l.length - 1 + 1 = l.length := by omega
  rw [e, Nat.mod_self]
theorem ror_one {l : List Bool} {n : Int} (hn : n = l.length) (h2 : 2 ≤ n) : (rotl l (n - 1 % n).toNat).getD 1 false = l.getD 0 false := by
  have e1 : (n - 1 % n).toNat = l.length - 1 := by rw [Int.emod_eq_of_lt (by omega) (by omega)]; omega
  rw [e1, rotl_getD (by omega) (by omega)]
  have e : 1 + (l.length - 1) = l.length := by omega
  rw [e, Nat.mod_self]
theorem rcl_one {l : List Bool} {b : Bool} {n : Int} (hn : n = l.length) (h2 : 2 ≤ n) : (rotl (b :: l) (1 % (n + 1)).toNat).getD 0 false = l.getD 0 false := by
  rw [Int.emod_eq_of_lt (by omega) (by omega)]
  show (rotl (b :: l) 1).getD 0 false = _
  rw [rotl_getD (by simp) (by simp)]
  simp only [List.length_cons]
  rw [Nat.mod_eq_of_lt (by omega)]
  rfl
theorem rcr_one {l : List Bool} {b : Bool} {n : Int} (hn : n = l.length) (h2 : 2 ≤ n) : (rotl (b :: l) (n + 1 - 1 % (n + 1)).toNat).getD 1 false = b := by
  have e1 : (n + 1 - 1 % (n + 1)).toNat = l.length := by rw [Int.emod_eq_of_lt (by omega) (by omega)]; omega
  rw [e1, rotl_getD (by simp) (by simp; omega)]
  have e : 1 + l.length = (b :: l).length := by simp; omega
  rw [e, Nat.mod_self]
  rfl

theorem val_mid {x : List Bool} {a j k : Nat} (h : a + j + k = x.length) : val ((x.drop a).take j) = val x / 2 ^ k % 2 ^ j := by
  have e : (x.drop a).take j = (x.take (a + j)).drop a := by rw [List.drop_take]; congr 1; omega
  rw [e, val_drop, val_take, List.length_take]
  congr 2 <;> congr 1 <;> omega
theorem V_mid {x : List Bool} {a j k : Nat} (h : a + j + k = x.length) : V x / 2 ^ k % 2 ^ j = V ((x.drop a).take j) := by
  unfold V
  rw [val_mid h, Int.natCast_emod, Int.natCast_ediv, kbt_cast, kbt_cast]
theorem shl_eq {l : List Bool} {c n : Int} (hn : n = l.length) (hc : 0 ≤ c) : V l * 2 ^ c.toNat % 2 ^ n.toNat = V ((l ++ List.replicate c.toNat false).drop c.toNat) := by
  rw [V_drop, V_append, V_zeros, Int.add_zero]
  simp only [List.length_append, List.length_replicate, Nat.add_sub_cancel]
  congr 2
  omega
theorem shl_len {l : List Bool} {c n : Int} (hn : n = l.length) : (((l ++ List.replicate c.toNat false).drop c.toNat).length : Int) = n := by
  simp only [List.length_drop, List.length_append, List.length_replicate, Nat.add_sub_cancel]; omega
theorem shr_eq {l : List Bool} {c : Int} (hc : 0 ≤ c) : V l / 2 ^ c.toNat = V ((List.replicate c.toNat false ++ l).take l.length) := by
  rw [V_take, V_append, V_zeros, Int.zero_mul, Int.zero_add]
  simp only [List.length_append, List.length_replicate, Nat.add_sub_cancel]
theorem carry_eq {l : List Bool} {c n i : Int} (hn : n = l.length) (h0 : 1 ≤ c) (hc : c < n) (hi : n - 1 - i = c - 1) : V l / 2 ^ i.toNat % 2 = B (if c < n then l.getD (c - 1).toNat false else false) := by
  rw [if_pos hc]
  exact bit_at (n := n) hn.symm (by omega) (by omega) hi
theorem carry_eq' {l : List Bool} {c n i : Int} (hn : n = l.length) (h0 : 1 ≤ c) (hc : c < n) (hi : n - 1 - i = n - c) : V l / 2 ^ i.toNat % 2 = B (if c < n then l.getD (n - c).toNat false else false) := by
  rw [if_pos hc]
  exact bit_at (n := n) hn.symm (by omega) (by omega) hi
theorem carry0 {c n : Int} {b : Bool} (hc : ¬ c < n) : (0 : Int) = B (if c < n then b else false) := by rw [if_neg hc]; rfl
theorem mid_eq {l r : List Bool} {c n : Int} (hn : n = l.length) (hr : n = r.length) (h0 : 0 ≤ c) (h1 : c ≤ n) : V (l ++ r) / 2 ^ (n - c).toNat % 2 ^ n.toNat = V (((l ++ r).drop c.toNat).take l.length) := by
  have e : n.toNat = l.length := by omega
  rw [e]
  exact V_mid (by rw [List.length_append]; omega)
theorem mid_z {l r x : List Bool} {n : Int} (hx : x.length = n) (hl : l.length = n) (h2 : 2 ≤ n) : Builtin.bitXor (V x / 2 ^ (n - 1).toNat % 2) (V l / 2 ^ (n - 1).toNat % 2) = B (x.getD 0 false ^^ l.getD 0 false) := by
  rw [bit_at (n := n) (j := 0) hx (by omega) (by omega) (by omega), bit_at (n := n) (j := 0) hl (by omega) (by omega) (by omega), xor_B]
  rfl
theorem cut_len {l r : List Bool} {c n : Int} (hn : n = l.length) (hr : n = r.length) (h0 : 0 ≤ c) (h1 : c ≤ n) : ((((l ++ r).drop c.toNat).take l.length).length : Int) = n := by
  simp only [List.length_take, List.length_drop, List.length_append]; omega
theorem V_head {l : List Bool} {n : Int} (hn : n = l.length) (h1 : 1 ≤ n) : V l = B (l.getD 0 false) * 2 ^ (n - 1).toNat + V (l.drop 1) ∧ V (l.drop 1) < 2 ^ (n - 1).toNat := by
  cases l with
  | nil => simp at hn; omega
  | cons b l =>
    have e : (n - 1).toNat = l.length := by simp only [List.length_cons] at hn; omega
    rw [e]
    exact ⟨by simp [V_cons], V_lt l⟩
theorem V_reps (k : Nat) (b : Bool) : V (List.replicate k b) = B b * (2 ^ k - 1) := by
  cases b with
  | false => rw [V_zeros]; simp [B]
  | true => unfold V; rw [val_ones, Int.natCast_sub (Nat.two_pow_pos k), kbt_cast]; simp [B]
/-- with its sign -/
theorem sgn_V {l : List Bool} {n : Int} (hn : n = l.length) (h1 : 1 ≤ n) : sgn (V l) n = V l - B (l.getD 0 false) * 2 ^ n.toNat := by
  obtain ⟨e1, e2⟩ := V_head hn h1
  have e3 := pow_sub_one h1
  have e4 := V_lt l
  have e5 : n.toNat = l.length := by omega
  have e6 := V_nn (l.drop 1)
  have e7 : V l % 2 ^ n.toNat = V l := Int.emod_eq_of_lt (V_nn l) (by rw [e5]; exact e4)
  unfold sgn
  rw [e7]
  generalize l.getD 0 false = b at *
  cases b with
  | true => simp only [B, if_true, Int.one_mul] at e1 ⊢; rw [if_pos (by omega)]
  | false => simp only [B, Bool.false_eq_true, if_false, Int.zero_mul] at e1 ⊢; rw [if_neg (by omega)]; omega
/-- the sign put ahead -/
theorem V_sar {l : List Bool} {c n : Int} (hn : n = l.length) (h1 : 1 ≤ n) (b : Bool) : V (List.replicate c.toNat b ++ l) = B b * 2 ^ n.toNat * 2 ^ c.toNat + (V l - B b * 2 ^ n.toNat) := by
  have e5 : n.toNat = l.length := by omega
  rw [V_append, V_reps, ← e5, Int.mul_sub, Int.mul_one, Int.sub_mul, Int.mul_assoc, Int.mul_assoc, Int.mul_comm (2 ^ c.toNat)]
  omega
theorem sar_eq {l : List Bool} {c n : Int} (hn : n = l.length) (h1 : 1 ≤ n) (hc : 0 ≤ c) : sgn (V l) n / 2 ^ c.toNat % 2 ^ n.toNat = V ((List.replicate c.toNat (l.getD 0 false) ++ l).take l.length) := by
  have e5 : n.toNat = l.length := by omega
  have hL : ((List.replicate c.toNat (l.getD 0 false) ++ l).take l.length).length = n.toNat := by simp only [List.length_take, List.length_append, List.length_replicate]; omega
  have h2 := V_lt ((List.replicate c.toNat (l.getD 0 false) ++ l).take l.length)
  have h3 := V_nn ((List.replicate c.toNat (l.getD 0 false) ++ l).take l.length)
  rw [hL] at h2
  have e := V_take (List.replicate c.toNat (l.getD 0 false) ++ l) l.length
  have e6 : (List.replicate c.toNat (l.getD 0 false) ++ l).length - l.length = c.toNat := by simp
  rw [e6, V_sar hn h1, ← sgn_V hn h1, Int.add_comm, Int.add_mul_ediv_right _ _ (by have := kbt_pos c.toNat; omega)] at e
  rw [← Int.emod_eq_of_lt h3 h2, e, Int.add_mul_emod_self_right]
theorem sar_c {l : List Bool} {c n : Int} (hn : n = l.length) (h1 : 1 ≤ n) (hc : 1 ≤ c) : sgn (V l) n / 2 ^ (c - 1).toNat % 2 ^ Int.toNat 1 = B ((List.replicate c.toNat (l.getD 0 false) ++ l).getD l.length false) := by
  have hL : ((List.replicate c.toNat (l.getD 0 false) ++ l).length : Int) = n + c := by simp only [List.length_append, List.length_replicate]; omega
  have e5 : (l.length : Int).toNat = l.length := by omega
  have h2 := bit_at (l := List.replicate c.toNat (l.getD 0 false) ++ l) (n := n + c) (i := c - 1) (j := (l.length : Int)) hL (by omega) (by omega) (by omega)
  rw [e5] at h2
  rw [← h2, V_sar hn h1, ← sgn_V hn h1]
  have e7 : (2 : Int) ^ c.toNat = 2 * 2 ^ (c - 1).toNat := pow_sub_one hc
  rw [e7, ← Int.mul_assoc, Int.add_comm, Int.add_mul_ediv_right _ _ (by have := kbt_pos (c - 1).toNat; omega)]
  show _ % 2 = _
  rw [Int.add_mul_emod_self_right]
theorem V_at {l : List Bool} {n i : Int} (hn : n = l.length) (h : 0 ≤ i ∧ i < n) : V l = V (l.take (n - 1 - i).toNat) * 2 ^ (i.toNat + 1) + (B (l.getD (n - 1 - i).toNat false) * 2 ^ i.toNat + V (l.drop ((n - 1 - i).toNat + 1))) := by
  have e : l = l.take (n - 1 - i).toNat ++ l.getD (n - 1 - i).toNat false :: l.drop ((n - 1 - i).toNat + 1) := by
    have h1 : (n - 1 - i).toNat < l.length := by omega
    have h2 : l.getD (n - 1 - i).toNat false = l[(n - 1 - i).toNat] := by simp [List.getD, h1]
    rw [h2, ← List.drop_eq_getElem_cons h1, List.take_append_drop]
  have h2 : (l.drop ((n - 1 - i).toNat + 1)).length = i.toNat := by rw [List.length_drop]; omega
  conv => lhs; rw [e]
  rw [V_append, V_cons, List.length_cons, h2]
theorem V_put {l : List Bool} {n i : Int} (hn : n = l.length) (h : 0 ≤ i ∧ i < n) (b : Bool) : V (l.take (n - 1 - i).toNat ++ b :: l.drop ((n - 1 - i).toNat + 1)) = V l + (B b - B (l.getD (n - 1 - i).toNat false)) * 2 ^ i.toNat := by
  have h2 : (l.drop ((n - 1 - i).toNat + 1)).length = i.toNat := by rw [List.length_drop]; omega
  rw [V_at hn h, V_append, V_cons, List.length_cons, h2, Int.sub_mul]
  omega
theorem bts_eq {l : List Bool} {n i : Int} (hn : n = l.length) (h : 0 ≤ i ∧ i < n) : Builtin.bitOr (V l) (1 * 2 ^ i.toNat) = V (l.take (n - 1 - i).toNat ++ true :: l.drop ((n - 1 - i).toNat + 1)) := by
  rw [Int.one_mul, bitOr_and, kbt_bit, bit_eq hn h.1 h.2, V_put hn h, Int.sub_mul]
  simp only [B, if_true, Int.one_mul]
  omega
theorem btc_eq {l : List Bool} {n i : Int} (hn : n = l.length) (h : 0 ≤ i ∧ i < n) : Builtin.bitXor (V l) (1 * 2 ^ i.toNat) = V (l.take (n - 1 - i).toNat ++ (!l.getD (n - 1 - i).toNat false) :: l.drop ((n - 1 - i).toNat + 1)) := by
  rw [Int.one_mul, bitXor_and, kbt_bit, bit_eq hn h.1 h.2, V_put hn h, Int.sub_mul]
  generalize l.getD (n - 1 - i).toNat false = b
  cases b <;> simp only [B, Bool.not_true, Bool.not_false, Bool.false_eq_true, if_true, if_false, Int.one_mul, Int.zero_mul] <;> omega
theorem btr_eq {l : List Bool} {n i : Int} (hn : n = l.length) (h : 0 ≤ i ∧ i < n) (hb : V l / 2 ^ i.toNat % 2 = 1) : Builtin.bitXor (V l) (1 * 2 ^ i.toNat) = V (l.take (n - 1 - i).toNat ++ false :: l.drop ((n - 1 - i).toNat + 1)) := by
  rw [bit_eq hn h.1 h.2] at hb
  have hb' : l.getD (n - 1 - i).toNat false = true := by
    generalize l.getD (n - 1 - i).toNat false = b at hb
    cases b
    · exact absurd hb (by decide)
    · rfl
  rw [btc_eq hn h, hb']
  rfl
theorem btr_eq0 {l : List Bool} {n i : Int} (hn : n = l.length) (h : 0 ≤ i ∧ i < n) (hb : V l / 2 ^ i.toNat % 2 ≠ 1) : V l = V (l.take (n - 1 - i).toNat ++ false :: l.drop ((n - 1 - i).toNat + 1)) := by
  rw [bit_eq hn h.1 h.2] at hb
  have hb' : l.getD (n - 1 - i).toNat false = false := by
    generalize l.getD (n - 1 - i).toNat false = b at hb
    cases b
    · rfl
    · exact absurd rfl hb
  rw [V_put hn h, hb', Int.sub_self, Int.zero_mul, Int.add_zero]
theorem V_mod {l : List Bool} {n : Int} (hn : n = l.length) : V l % 2 ^ n.toNat = V l := by
  have e5 : n.toNat = l.length := by omega
  rw [e5]
  exact Int.emod_eq_of_lt (V_nn l) (V_lt l)
theorem V_toNat (l : List Bool) : (V l).toNat = val l := rfl
theorem val_pos {l : List Bool} (h : V l ≠ 0) : 0 < val l := by unfold V at h; omega
theorem val_nil {l : List Bool} (h : V l = 0) : val l = 0 := by unfold V at h; omega
theorem low_eq {l : List Bool} {n : Int} (hn : n = l.length) (h : V l ≠ 0) : pop ((Builtin.bitAnd (V l) (-(V l)) - 1) % 2 ^ n.toNat).toNat = tz l := by
  obtain ⟨a, ha⟩ := V_tz (val_pos h)
  have ht := tz_lt (val_pos h)
  have e5 : n.toNat = l.length := by omega
  have hp : (2 : Int) ^ tz l < 2 ^ l.length := by
    rw [← kbt_cast, ← kbt_cast]
    exact Int.ofNat_lt.mpr (Nat.pow_lt_pow_right (by decide) ht)
  have h0 := kbt_pos (tz l)
  rw [ha, kbt_low, e5, Int.emod_eq_of_lt (by omega) (by omega)]
  have e6 : ((2 : Int) ^ tz l - 1).toNat = 2 ^ tz l - 1 := by
    have := kbt_cast (tz l)
    omega
  rw [e6, pop_ones]
theorem lz_eq {l : List Bool} {n : Int} (hn : n = l.length) : n - 1 - ((lg (V l).toNat : Nat) - 1 : Int) = (first l : Nat) := by
  have := lg_val l
  rw [V_toNat]
  omega
theorem bsr_eq {l : List Bool} {n : Int} (hn : n = l.length) : ((lg (V l).toNat : Nat) : Int) - 1 = n - 1 - (first l : Nat) := by
  have := lg_val l
  rw [V_toNat]
  omega
theorem z_first {l : List Bool} {n : Int} (hn : n = l.length) (h : V l = 0) : n = (first l : Nat) := by rw [val_zero_first (val_nil h)]; exact hn
theorem z_tz {l : List Bool} {n : Int} (hn : n = l.length) (h : V l = 0) : n = (tz l : Nat) := by rw [tz_zero (val_nil h)]; exact hn
theorem bits_val : ∀ l : List Bool, bits l.length (val l) = l := fun l =>
  val_inj (bits_length _ _) (by rw [val_bits, Nat.mod_eq_of_lt (val_lt l)])
theorem sign_at {x : Int} (h : 0 ≤ x) (i : Nat) : [false, true].getD (x / 2 ^ i % 2).toNat false = (x.toNat / 2 ^ i % 2 == 1) := by
  have e : (x / 2 ^ i % 2).toNat = x.toNat / 2 ^ i % 2 := by
    have e1 : x / 2 ^ i = ((x.toNat / 2 ^ i : Nat) : Int) := by
      rw [Int.natCast_ediv, kbt_cast, Int.toNat_of_nonneg h]
    rw [e1]; omega
  rw [e]
  rcases Nat.mod_two_eq_zero_or_one (x.toNat / 2 ^ i) with q | q <;> rw [q] <;> rfl
theorem sign_step (l : List Bool) (i : Nat) : bits (i + 1) (val l) = [[false, true].getD (V l / 2 ^ i % 2).toNat false] ++ bits i (val l) := by
  rw [sign_at (V_nn l) i]
  rfl
theorem pow_div (x : Int) (i : Nat) : x / 2 ^ (i + 1) = x / 2 ^ i / 2 := by
  rw [Int.pow_succ, Int.ediv_ediv_of_nonneg (Int.le_of_lt (kbt_pos i))]
/-- the number so far -/
theorem V_snoc (l : List Bool) (i : Nat) (h : i < l.length) : V (l.take (i + 1)) = V (l.take i) + V (l.take i) + B (l.getD i false) := by
  rw [take_succ_getD l i h, V_append]
  have e : V [l.getD i false] = B (l.getD i false) := by cases l.getD i false <;> rfl
  rw [e]
  simp only [List.length_cons, List.length_nil, Nat.zero_add, Int.pow_succ, Int.pow_zero, Int.one_mul]
  omega
theorem sign_T {l : List Bool} {i : Nat} {v : Value} (h : SignAt (T l) i v) (hi : i < l.length) : ∃ u, v = .str (T [l.getD i false]) u := by
  obtain ⟨c, u, hc, rfl⟩ := h
  refine ⟨u, ?_⟩
  have e : (T l).cps[i]? = some (code (l.getD i false)) := by simp [T, List.getD, hi]
  rw [e] at hc
  cases hc
  rfl
theorem T_size (l : List Bool) : (T l).cps.size = l.length := by simp [T]
theorem sgn_small {x n : Int} (h1 : 1 ≤ n) (h0 : 0 ≤ x ∧ x < 2 ^ n.toNat) : (if 2 ^ n.toNat ≤ 2 * x then x - 2 ^ n.toNat else x) = sgn x n := by
  unfold sgn
  rw [Int.emod_eq_of_lt h0.1 h0.2, pow_sub_one h1]
  split <;> split <;> omega
theorem sgn_bounds {x n : Int} (h1 : 1 ≤ n) : -(2 ^ (n - 1).toNat) ≤ sgn x n ∧ sgn x n < 2 ^ (n - 1).toNat := by
  have e1 := Int.emod_nonneg x (show (2 : Int) ^ n.toNat ≠ 0 from by have := kbt_pos n.toNat; omega)
  have e2 := Int.emod_lt_of_pos x (kbt_pos n.toNat)
  have e3 := pow_sub_one h1
  have e4 := kbt_pos (n - 1).toNat
  unfold sgn
  split <;> omega
/-- it fits just where it comes back -/
theorem sgn_back {w n : Int} (h1 : 1 ≤ n) : sgn (w % 2 ^ n.toNat) n = w ↔ -(2 ^ (n - 1).toNat) ≤ w ∧ w < 2 ^ (n - 1).toNat := by
  constructor
  · intro h
    rw [← h]
    exact sgn_bounds h1
  · intro h
    have e1 := Int.emod_nonneg w (show (2 : Int) ^ n.toNat ≠ 0 from by have := kbt_pos n.toNat; omega)
    have e2 := Int.emod_lt_of_pos w (kbt_pos n.toNat)
    have e3 := pow_sub_one h1
    have e4 := kbt_pos (n - 1).toNat
    unfold sgn
    rw [Int.emod_emod]
    by_cases hw : 0 ≤ w
    · rw [Int.emod_eq_of_lt hw (by omega), if_neg (by omega)]
    · have e5 : w % 2 ^ n.toNat = w + 2 ^ n.toNat := by
        rw [← Int.add_emod_right]
        exact Int.emod_eq_of_lt (by omega) (by omega)
      rw [e5, if_pos (by omega)]
      omega
theorem mul_lt_pow {x y p : Int} (hx : 0 ≤ x ∧ x < p) (hy : 0 ≤ y ∧ y < p) : 0 ≤ x * y ∧ x * y < p * p := by
  refine ⟨Int.mul_nonneg hx.1 hy.1, ?_⟩
  have h1 : x * y ≤ x * p := Int.mul_le_mul_of_nonneg_left (by omega) hx.1
  have h2 : x * p < p * p := Int.mul_lt_mul_of_pos_right hx.2 (by omega)
  omega
theorem high_eq {x y p : Int} (hx : 0 ≤ x ∧ x < p) (hy : 0 ≤ y ∧ y < p) : x * y / p % p = x * y / p := by
  have h := mul_lt_pow hx hy
  exact Int.emod_eq_of_lt (Int.ediv_nonneg h.1 (by omega)) (Int.ediv_lt_of_lt_mul (by omega) h.2)
theorem wide_eq {z p : Int} (hz : 0 ≤ z) (hp : 0 < p) : (if z / p = 0 then (0 : Int) else 1) = B (decide (p ≤ z)) := by
  by_cases h : p ≤ z
  · have h1 : 1 ≤ z / p := (Int.le_ediv_iff_mul_le hp).mpr (by omega)
    rw [if_neg (by omega), decide_eq_true h]
    rfl
  · rw [if_pos (Int.ediv_eq_zero_of_lt hz (by omega)), decide_eq_false h]
    rfl
theorem signed_mul (a b : Int) : (if (decide (a < 0) != decide (b < 0)) = true then 0 - (if a < 0 then -a else a) * (if b < 0 then -b else b) else (if a < 0 then -a else a) * (if b < 0 then -b else b)) = a * b := by
  by_cases ha : a < 0 <;> by_cases hb : b < 0 <;> simp only [ha, hb, if_true, if_false, decide_true, decide_false, Bool.xor_self, bne_self_eq_false, Bool.false_eq_true, Int.neg_mul_neg, Int.neg_mul, Int.mul_neg]
  all_goals (first | rfl | (rw [if_pos rfl]; omega) | simp)

/-- the quotient cut towards 0 -/
noncomputable def qf (w p : Int) : Int := if (decide (w < 0) != decide (p < 0)) = true then -((if w < 0 then -w else w) / (if p < 0 then -p else p)) else (if w < 0 then -w else w) / (if p < 0 then -p else p)
theorem qf_t {w p : Int} (h : (decide (w < 0) != decide (p < 0)) = true) : -((if w < 0 then -w else w) / (if p < 0 then -p else p)) = qf w p := (if_pos h).symm
theorem qf_f {w p : Int} (h : (decide (w < 0) != decide (p < 0)) = false) : (if w < 0 then -w else w) / (if p < 0 then -p else p) = qf w p := (if_neg (by rw [h]; exact Bool.false_ne_true)).symm
theorem qf_split {w p : Int} (hp : p ≠ 0) : (if w - qf w p * p < 0 then -(w - qf w p * p) else w - qf w p * p) < (if p < 0 then -p else p) ∧ (w - qf w p * p = 0 ∨ decide (w - qf w p * p < 0) = decide (w < 0)) := by
  have key : ∀ a b : Int, 0 < b → ∃ q r, a / b = q ∧ b * q + r = a ∧ 0 ≤ r ∧ r < b := fun a b hb => ⟨a / b, a % b, rfl, Int.mul_ediv_add_emod a b, Int.emod_nonneg a (by omega), Int.emod_lt_of_pos a hb⟩
  unfold qf
  by_cases hw : w < 0 <;> by_cases h : p < 0
  · obtain ⟨q, r, e1, e2, e3, e4⟩ := key (-w) (-p) (by omega)
    simp only [hw, h, decide_true, bne_self_eq_false, Bool.false_eq_true, if_false, if_true, e1]
    rw [Int.neg_mul] at e2
    have e5 := Int.mul_comm q p
    generalize q * p = z at *
    generalize p * q = z' at *
    subst e5
    refine ⟨by split <;> omega, ?_⟩
    by_cases hr : r = 0
    · left; omega
    · right; rw [decide_eq_true (by omega)]
  · obtain ⟨q, r, e1, e2, e3, e4⟩ := key (-w) p (by omega)
    simp only [hw, h, decide_true, decide_false, if_false, if_true, e1, show (true != false) = true from rfl]
    rw [Int.neg_mul]
    have e5 := Int.mul_comm q p
    generalize q * p = z at *
    generalize p * q = z' at *
    subst e5
    refine ⟨by split <;> omega, ?_⟩
    by_cases hr : r = 0
    · left; omega
    · right; rw [decide_eq_true (by omega)]
  · obtain ⟨q, r, e1, e2, e3, e4⟩ := key w (-p) (by omega)
    simp only [hw, h, decide_true, decide_false, if_false, if_true, e1, show (false != true) = true from rfl]
    rw [Int.neg_mul]
    rw [Int.neg_mul] at e2
    have e5 := Int.mul_comm q p
    generalize q * p = z at *
    generalize p * q = z' at *
    subst e5
    refine ⟨by split <;> omega, ?_⟩
    right; rw [decide_eq_false (by omega)]
  · obtain ⟨q, r, e1, e2, e3, e4⟩ := key w p (by omega)
    simp only [hw, h, decide_false, bne_self_eq_false, Bool.false_eq_true, if_false, e1]
    have e5 := Int.mul_comm q p
    generalize q * p = z at *
    generalize p * q = z' at *
    subst e5
    refine ⟨by split <;> omega, ?_⟩
    right; rw [decide_eq_false (by omega)]
theorem qf_fits {w p P : Int} (hP : 0 < P) (hp : p ≠ 0) : (-P ≤ qf w p ∧ qf w p < P) ↔ (if w < 0 then -w else w) < (if p < 0 then -p else p) * (P + B (decide (w < 0) != decide (p < 0))) := by
  have key : ∀ a b : Int, 0 ≤ a → 0 < b → 0 ≤ a / b ∧ ∀ c : Int, a / b < c ↔ a < b * c := fun a b ha hb => ⟨Int.ediv_nonneg ha (by omega), fun c => by rw [Int.mul_comm]; exact Int.ediv_lt_iff_lt_mul hb⟩
  have ha : 0 ≤ (if w < 0 then -w else w) := by split <;> omega
  have hb : 0 < (if p < 0 then -p else p) := by split <;> omega
  obtain ⟨k0, k1⟩ := key _ _ ha hb
  cases hs : (decide (w < 0) != decide (p < 0)) with
  | true =>
    rw [← qf_t hs, show B true = 1 from rfl, ← k1]
    omega
  | false =>
    rw [← qf_f hs, show B false = 0 from rfl, ← k1]
    omega

end

section
theorem free_range : ∀ P, nsIn (Mine.hd.heap_1 P) mainGlobals (Str.ofString "range") = some none := fun P => by k_is
/-! loops that carry -/
section
variable (T : List Ent) (ns : List Int) (sc : Scope) (r : Nat)
noncomputable def whL {α : Type} (f : α → Sig) (μ : α → Nat) (I : α → Prop) : LF where
  takes := fun b => match b with
    | .While _ _ [] _ :: rest => some rest
    | _ => none
  spec := fun b σ n K => match b with
    | .While t body _ _ :: _ => (∃ a, I a ∧ keeps σ (f a)) ∧ ∀ a, I a → (W T ns sc r 40).2.1 t (f a) n fun x m => Br x (WB T ns sc r noL 40 60 body (f a) m (fun _ _ => False) (fun _ => False) (fun _ _ => False) fun σ₂ m₂ => m₂ = n ∧ ∃ b, (I b ∧ μ b < μ a) ∧ keeps σ₂ (f b)) (m = n ∧ K (f a) n)
    | _ => False
noncomputable def rgL (f : Nat → Sig) : LF where
  takes := fun b => match b with
    | st :: rest => match st with
      | .For t it _ oe _ => match oe with
        | [] => match it with
          | .Call g xs kw _ => match nmOf g with
            | some g => match kw with
              | [] => match xs with
                | [e] => match isNm t && g == Str.ofString "range" && sc.names.lookup g == some .globalImplicit && !starred e with
                  | true => some rest
                  | false => none
                | _ => none
              | _ => none
            | none => none
          | _ => none
        | _ => none
      | _ => none
    | [] => none
  spec := fun b σ n K => match b with
    | st :: _ => match st with
      | .For t it body _ _ => match it with
        | .Call _ xs _ _ => match xs with
          | [e] => (W T ns sc r 40).1 e σ n fun p m => match p.toI with
            | some N => ((0 ≤ N ∧ N ≤ 1000) ∧ keeps σ (f 0) ∧ m = n) ∧ (∀ i : Nat, i < N.toNat → bindT sc t (.int i) (f i) fun σ' => WB T ns sc r noL 40 60 body σ' n (fun _ _ => False) (fun _ => False) (fun σ₂ m₂ => keeps σ₂ (f (i + 1)) ∧ m₂ = n) fun σ₂ m₂ => keeps σ₂ (f (i + 1)) ∧ m₂ = n) ∧ K (f N.toNat) n
            | none => False
          | _ => False
        | _ => False
      | _ => False
    | [] => False
noncomputable def txL (f : Nat → Sig) : LF where
  takes := fun b => match b with
    | st :: rest => match st with
      | .For t it _ oe _ => match oe with
        | [] => match nmOf it with
          | some _ => match isNm t with
            | true => some rest
            | false => none
          | none => none
        | _ => none
      | _ => none
    | [] => none
  spec := fun b σ n K => match b with
    | st :: _ => match st with
      | .For t it body _ _ => (W T ns sc r 40).1 it σ n fun p m => match p with
        | .txt l => (keeps σ (f 0) ∧ m = n) ∧ (∀ i : Nat, i < l.length → bindT sc t (.txt [l.getD i false]) (f i) fun σ' => WB T ns sc r noL 40 60 body σ' n (fun _ _ => False) (fun _ => False) (fun σ₂ m₂ => keeps σ₂ (f (i + 1)) ∧ m₂ = n) fun σ₂ m₂ => keeps σ₂ (f (i + 1)) ∧ m₂ = n) ∧ K (f l.length) n
        | _ => False
      | _ => False
    | [] => False
end
theorem goNm {t : Expr} (h : isNm t = true) {it v : Value} {M : Model} {A : Around} {s : Shared} {Q : Unit → Shared → Prop} {E : Value → Shared → Prop} (q : Q () s) : wpAny M A (letOwnedTupleGo t it v) Q E s := by
  cases t <;> first | exact wpAny_pure q | cases h
section
variable {sc : Scope} {r : Nat} {c : Cx sc r} {T : List Ent} {ns : List Int}
theorem whL_ok {α : Type} {f : α → Sig} {μ : α → Nat} {I : α → Prop} (hr : 6 ≤ r) (hT : TOk c T) (hN : NsOk c ns) : LOk c (whL T ns sc r f μ I) := fun {b rest σ n R X C K Kb} ht h k => by
  obtain ⟨h1, h2, h3⟩ := W_ok hT hN 40
  have hB : SB c (WB T ns sc r noL 40 60) := WB_ok noL_ok hr hT hN 40 60
  unfold whL at ht h
  dsimp only at ht h
  split at ht
  · cases ht
    dsimp only at h
    obtain ⟨⟨a₀, hI, hk⟩, turn⟩ := h
    refine ExW.cons fun s m a Q E F N S q => ?_
    refine wpAny_mono (E := NoE) (While_inv (E := NoE) (n₀ := μ a₀) (fun j m₁ led => ∃ a', I a' ∧ μ a' = j ∧ c.S m₁ led (f a') ∧ PenOk c.pen n led ∧ Up c.P a led) F N.N ⟨a₀, hI, rfl, keeps_S hk m a S, N.pok, .refl⟩ ?_ PassesOwn.never) (fun _ _ x => x) fun _ _ x => x.elim
    rintro j m₁ led h₁ tk₁ F₁ N₁ ⟨a', hI', rfl, S₁, pk, u₁⟩
    refine h2 (turn a' hI') _ m₁ led _ _ F₁ ⟨N₁, pk⟩ S₁ fun x h₂ tk₂ b₂ k₂ F₂ N₂ u₂ hx => ?_
    cases x with
    | false =>
      obtain ⟨rfl, hK⟩ := Br.false_ hx rfl
      exact q.next _ _ m₁ b₂ _ _ F₂ N₂ (u₁.trans u₂) (S₁.up u₂) (k _ _ hK)
    | true =>
      refine hB (Br.true_ hx rfl) _ m₁ b₂ _ _ F₂ N₂ (S₁.up u₂) ⟨fun _ _ _ _ _ _ _ _ _ _ _ h => h.elim, fun h₃ tk₃ m₃ b₃ σ₃ k₃ F₃ N₃ u₃ S₃ hk₃ => ?_, fun _ _ _ _ _ _ _ _ _ _ h => h.elim, fun _ h => h.elim⟩
      obtain ⟨rfl, a₂, ⟨hI₂, hμ⟩, hk₂⟩ := hk₃
      exact ⟨rfl, h₃, tk₃, m₃, b₃, _, rfl, F₃, N₃.N, hμ, a₂, hI₂, rfl, keeps_S hk₂ m₃ b₃ S₃, N₃.pok, (u₁.trans u₂).trans u₃⟩
  · cases ht
theorem turnW_of {B : BF} (hB : SB c B) {t : Expr} {body : List Stmt} {p : PV} {σ : Sig} {n : Nat} {K : Sig → Nat → Prop} (h : bindT sc t p σ fun σ' => B body σ' n (fun _ _ => False) (fun _ => False) K K) : TurnW c t body p σ n K := bindT_ok' h fun _ => hB
theorem rgL_ok {f : Nat → Sig} (hr : 6 ≤ r) (hT : TOk c T) (hN : NsOk c ns) : LOk c (rgL T ns sc r f) := fun {b rest σ n R X C K Kb} ht h k => by
  obtain ⟨h1, h2, h3⟩ := W_ok hT hN 40
  have hB : SB c (WB T ns sc r noL 40 60) := WB_ok noL_ok hr hT hN 40 60
  unfold rgL at ht h
  dsimp only at ht h
  repeat' split at ht
  all_goals first | (cases ht; done) | skip
  rename nmOf _ = _ => hnm'
  rename_i hg
  obtain ⟨_, rfl⟩ := nmOf_shape hnm'
  cases ht
  simp only [Bool.and_eq_true, Bool.not_eq_true'] at hg
  obtain ⟨⟨⟨hnm, hg1⟩, hg2⟩, hg3⟩ := hg
  obtain rfl := eq_of_beq hg1
  have hg4 : sc.names.lookup (Str.ofString "range") = some .globalImplicit := by simpa using hg2
  dsimp only at h
  refine ExW.cons fun s m a Q E F N S q => ?_
  refine wpAny_mono (For_turns (E := NoE) F (Call_ (nameX_B F c.X (topRead_of c.TP) (free_range _) boot_range (by decide) (PySem.Pv.callWith_type1 (args_cons (h1 h s m a _ _ F N S fun v h' tk b' p k' F' N' u R h => args_nil ?_) (starEach_cons hg3)) (starEach_cons hg3)) c.hk hg4 (by decide))) (fun _ => rfl) PassesOwn.never) (fun _ _ x => x) fun _ _ x => x.elim
  split at h
  · rename_i z hz
    obtain ⟨t, rfl⟩ := R.i hz
    obtain ⟨⟨h0, hk, rfl⟩, turn, done⟩ := h
    refine range1_rows F' N'.N fun h₂ tk₂ t₁ u₁ v₁ hR F₂ N₂ up₂ => ?_
    have hn : Builtin.Range.rangeSize 0 z 1 = (z.toNat : Int) := by rw [rangeSize_nat, Int.sub_zero]
    refine wpAny_pyIter_range (s := { s with heap := h₂, toks := tk₂ }) hR (small_one (by decide) (by decide) (by omega) (by omega)) ?_
    refine turns_gen (s := { s with heap := h₂, toks := tk₂ }) (tk := tk₂) (fun i => .int (i : Int)) (fun i σ₁ k => keeps σ₁ (f i) ∧ k = k') ((Walks.range rfl _ 0 1 z.toNat).bound) (fun i v s Q E st q => goNm hnm q) (fun hm => absurd F₂.ns.lt ((List.mem_singleton.mp hm) ▸ Nat.lt_irrefl _)) (by show IsRangeIter _ _ _ _ _; rw [hn]; simpa using Heap.get?_push_size _ rfl) (fun i h st => ⟨_, st, cls_ne (by decide), cls_ne (by decide), fun v => Data.noConfusion⟩) (List.mem_singleton.mpr rfl) (fun b hb => by rw [List.mem_singleton.mp hb]; exact (Cx.N.mk N₂ N'.pok : c.N k' h₂ b').fresh fun q hq => Heap.lt_size (N₂ q hq).1) ?_ F₂ ⟨N₂, N'.pok⟩ (S.up u) ⟨hk, rfl⟩ ?_ ?_
    · rintro i v b hi ⟨_, t, rfl⟩ _
      exact .int (by show some (i : Int) = some (0 + i * 1); congr 1; omega)
    · rintro i σ₁ k hi ⟨hJ, rfl⟩
      exact ⟨f i, keeps_S hJ, turnW_of hB (turn i hi)⟩
    · rintro h3 tk3 m3 b3 σ3 k3 F3 N3 u3 S3 ⟨hJ, rfl⟩
      exact q.next _ _ m3 b3 _ _ F3 N3 (u.trans u3) (keeps_S hJ m3 b3 S3) (k _ _ done)
  · exact h.elim
theorem T_small (l : List Bool) : (Mine.T l).cps.all (· < 128) = true := by
  show ((l.map code).toArray).all (· < 128) = true
  rw [List.all_toArray, List.all_map]
  exact List.all_eq_true.mpr fun b _ => by cases b <;> rfl
theorem txL_go {f : Nat → Sig} {n : Nat} {σ : Sig} {R : KV} {X : Nat → Prop} {C K Kb : Sig → Nat → Prop} {E : EF} {B : BF} (h1 : SE c E) (hB : SB c B) {t : Expr} {x : Str} {px pos : Pos} {body rest : List Stmt} (hnm : isNm t = true)
    (h : E (.Name x px) σ n fun p m => match p with
      | .txt l => (keeps σ (f 0) ∧ m = n) ∧ (∀ i : Nat, i < l.length → bindT sc t (.txt [l.getD i false]) (f i) fun σ' => B body σ' n (fun _ _ => False) (fun _ => False) (fun σ₂ m₂ => keeps σ₂ (f (i + 1)) ∧ m₂ = n) fun σ₂ m₂ => keeps σ₂ (f (i + 1)) ∧ m₂ = n) ∧ Kb (f l.length) n
      | _ => False) (k : ∀ σ n, Kb σ n → ExW c rest σ n R X C K) : ExW c (.For t (.Name x px) body [] pos :: rest) σ n R X C K := by
  refine ExW.cons fun s m a Q E F N S q => ?_
  refine wpAny_mono (For_turns (E := NoE) F (h1 h s m a _ _ F N S fun v h' tk b' p k' F' N' u R h => ?_) (fun _ => rfl) PassesOwn.never) (fun _ _ x => x) fun _ _ x => x.elim
  split at h
  · rename_i l
    obtain ⟨t, rfl, _⟩ := R.x
    obtain ⟨⟨hk, rfl⟩, turn, done⟩ := h
    refine wpAny_pyIter_ascii (s := { s with heap := h', toks := tk }) (T_small l) ?_
    have hsz : (Mine.T l).cps.size = l.length := T_size l
    have Wk := Walks.strAscii (prog := PySem.Challenge.rw_pb0415_01.row.prog) (w := c.w) (A := c.A) rfl h'.objs.size (Mine.T l) t
    rw [hsz] at Wk
    refine turns_gen (s := { s with heap := h', toks := tk }) (tk := tk) (fun i => .txt [l.getD i false]) (fun i σ₁ k => keeps σ₁ (f i) ∧ k = k') Wk (fun i v s Q E st q => goNm hnm q) (fun hm => absurd F'.ns.lt ((List.mem_singleton.mp hm) ▸ Nat.lt_irrefl _)) ⟨_, Heap.get?_push_size _ rfl, rfl, rfl⟩ (fun i h st => ?_) (List.mem_singleton.mpr rfl) (fun b hb => by rw [List.mem_singleton.mp hb]; exact N'.fresh fun q hq => Heap.lt_size (N'.N q hq).1) ?_ F' N' (S.up u) ⟨hk, rfl⟩ ?_ ?_
    · obtain ⟨o, h1, h2, h3⟩ := st
      exact ⟨o, h1, by rw [h2]; exact cls_ne (by decide), by rw [h2]; exact cls_ne (by decide), fun v => by rw [h3]; exact Data.noConfusion⟩
    · intro i v b hi hv _
      obtain ⟨u, rfl⟩ := sign_T hv hi
      exact .str rfl one_sm
    · rintro i σ₁ k hi ⟨hJ, rfl⟩
      exact ⟨f i, keeps_S hJ, turnW_of hB (turn i hi)⟩
    · rintro h3 tk3 m3 b3 σ3 k3 F3 N3 u3 S3 ⟨hJ, rfl⟩
      exact q.next _ _ m3 b3 _ _ F3 N3 (u.trans u3) (keeps_S hJ m3 b3 S3) (k _ _ done)
  · exact h.elim
theorem txL_ok {f : Nat → Sig} (hr : 6 ≤ r) (hT : TOk c T) (hN : NsOk c ns) : LOk c (txL T ns sc r f) := fun {b rest σ n R X C K Kb} ht h k => by
  obtain ⟨h1, h2, h3⟩ := W_ok hT hN 40
  have hB : SB c (WB T ns sc r noL 40 60) := WB_ok noL_ok hr hT hN 40 60
  unfold txL at ht h
  dsimp only at ht h
  repeat' split at ht
  all_goals first | (cases ht; done) | skip
  rename nmOf _ = _ => hnm'
  rename isNm _ = _ => hnm
  obtain ⟨_, rfl⟩ := nmOf_shape hnm'
  cases ht
  dsimp only at h
  exact txL_go h1 hB hnm h k
end
end

theorem T_nil : AllOk [] := .nil
theorem f_mask : Fun "mask" 61 := ⟨fun P => by k_is, fun P => by k_is⟩
theorem d_mask (P : Params) : DefAt P 61 ["size"] := .one (by kernel_rfl) fun _ => by kernel_rfl
theorem r_mask {n : Int} (h : 0 ≤ n ∧ n ≤ 400) : Runs 61 ["size"] [] 6 [.int n] (.int (2 ^ n.toNat - 1)) := by
  intro P9 ns9 k9
  refine vc_cast (a :=
    ((0 : Int) ≤ n ∧ n ≤ (100000 : Int) ∧ PySem.Builtin.Int.intBits (1 : Int) ≤ (100000 : Nat)) ∧ (1 : Int) * (2 : Int) ^ n.toNat - (1 : Int) = (2 : Int) ^ n.toNat - (1 : Int) ∧ k9 = k9) (by kernel_rfl) ?_
  exact ⟨⟨h.1, by omega, by decide⟩, by rw [Int.one_mul], rfl⟩
noncomputable def e_mask : Ent := ⟨"mask", 61, 7, aI fun n => aE (0 ≤ n ∧ n ≤ 400) (.int (2 ^ n.toNat - 1))⟩
theorem k_mask : EntOk e_mask := .of f_mask (Ok.aI fun n => Ok.aE d_mask T_nil rfl rfl r_mask)
theorem f_wrap : Fun "wrap" 68 := ⟨fun P => by k_is, fun P => by k_is⟩
theorem d_wrap (P : Params) : DefAt P 68 ["worth", "size"] := .two (by kernel_rfl) fun _ _ => by kernel_rfl
theorem r_wrap {x n : Int} (h : 0 ≤ n ∧ n ≤ 400) : Runs 68 ["worth", "size"] [e_mask] 7 [.int x, .int n] (.int (x % 2 ^ n.toNat)) := by
  intro P9 ns9 k9
  refine vc_cast (a :=
    ((0 : Int) ≤ n ∧ n ≤ (400 : Int)) ∧ PySem.Builtin.bitAnd x ((2 : Int) ^ n.toNat - (1 : Int)) = x % (2 : Int) ^ n.toNat ∧ k9 = k9) (by kernel_rfl) ?_
  exact ⟨h, kbt_mask _ _, rfl⟩
noncomputable def e_wrap : Ent := ⟨"wrap", 68, 8, aI fun x => aI fun n => aE (0 ≤ n ∧ n ≤ 400) (.int (x % 2 ^ n.toNat))⟩
theorem k_wrap : EntOk e_wrap := .of f_wrap (Ok.aI fun x => Ok.aI fun n => Ok.aE d_wrap (.cons k_mask .nil) rfl rfl r_wrap)
theorem f_signed : Fun "signed" 75 := ⟨fun P => by k_is, fun P => by k_is⟩
theorem d_signed (P : Params) : DefAt P 75 ["worth", "size"] := .two (by kernel_rfl) fun _ _ => by kernel_rfl
theorem r_signed {x n : Int} (h : 1 ≤ n ∧ n ≤ 400) : Runs 75 ["worth", "size"] [e_wrap] 8 [.int x, .int n] (.int (sgn x n)) := by
  intro P9 ns9 k9
  refine vc_cast (a :=
    ((0 : Int) ≤ n ∧ n ≤ (400 : Int)) ∧
    (0 : Int) ≤ n - (1 : Int) ∧
    Mine.Br (Decidable.decide (x % (2 : Int) ^ n.toNat / (2 : Int) ^ (n - (1 : Int)).toNat = (1 : Int)))
    (((0 : Int) ≤ n ∧ n ≤ (100000 : Int) ∧ PySem.Builtin.Int.intBits (1 : Int) ≤ (100000 : Nat)) ∧ x % (2 : Int) ^ n.toNat - (1 : Int) * (2 : Int) ^ n.toNat = Mine.sgn x n ∧ k9 = k9)
    (x % (2 : Int) ^ n.toNat = Mine.sgn x n ∧ k9 = k9)) (by kernel_rfl) ?_
  refine ⟨⟨by omega, h.2⟩, by omega, Br.of (fun e => ⟨⟨by omega, by omega, by decide⟩, ?_, rfl⟩) fun e => ⟨?_, rfl⟩⟩
  · unfold sgn; rw [Int.one_mul, if_pos ((top_bit h.1).mp (of_decide_eq_true e))]
  · unfold sgn; rw [if_neg fun q => of_decide_eq_false e ((top_bit h.1).mpr q)]
noncomputable def e_signed : Ent := ⟨"signed", 75, 9, aI fun x => aI fun n => aE (1 ≤ n ∧ n ≤ 400) (.int (sgn x n))⟩
theorem k_signed : EntOk e_signed := .of f_signed (Ok.aI fun x => Ok.aI fun n => Ok.aE d_signed (.cons k_wrap .nil) rfl rfl r_signed)
theorem f_fits_signed : Fun "fits_signed" 82 := ⟨fun P => by k_is, fun P => by k_is⟩
theorem d_fits_signed (P : Params) : DefAt P 82 ["worth", "size"] := .two (by kernel_rfl) fun _ _ => by kernel_rfl
theorem r_fits {x n : Int} (h : 1 ≤ n ∧ n ≤ 400) : Runs 82 ["worth", "size"] [] 6 [.int x, .int n] (.bool (decide (-(2 ^ (n - 1).toNat) ≤ x) && decide (x < 2 ^ (n - 1).toNat))) := by
  intro P9 ns9 k9
  refine vc_cast (a :=
    ((0 : Int) ≤ n - (1 : Int) ∧ n - (1 : Int) ≤ (100000 : Int) ∧ PySem.Builtin.Int.intBits (1 : Int) ≤ (100000 : Nat)) ∧
    Mine.Br (Decidable.decide (-((1 : Int) * (2 : Int) ^ (n - (1 : Int)).toNat) ≤ x))
    (Mine.PV.bool (Decidable.decide (x < (1 : Int) * (2 : Int) ^ (n - (1 : Int)).toNat)) =
    Mine.PV.bool (Decidable.decide (-(2 : Int) ^ (n - (1 : Int)).toNat ≤ x) && Decidable.decide (x < (2 : Int) ^ (n - (1 : Int)).toNat)) ∧
    k9 = k9)
    (Mine.PV.bool Bool.false = Mine.PV.bool (Decidable.decide (-(2 : Int) ^ (n - (1 : Int)).toNat ≤ x) && Decidable.decide (x < (2 : Int) ^ (n - (1 : Int)).toNat)) ∧ k9 = k9)) (by kernel_rfl) ?_
  rw [Int.one_mul]
  exact ⟨⟨by omega, by omega, by decide⟩, Br.of (fun e => by rw [e]; exact ⟨rfl, rfl⟩) fun e => by rw [e]; exact ⟨rfl, rfl⟩⟩
theorem f_bit : Fun "bit" 89 := ⟨fun P => by k_is, fun P => by k_is⟩
theorem d_bit (P : Params) : DefAt P 89 ["worth", "n"] := .two (by kernel_rfl) fun _ _ => by kernel_rfl
theorem r_bit {x n : Int} (h : 0 ≤ n ∧ n ≤ 400) : Runs 89 ["worth", "n"] [] 6 [.int x, .int n] (.int (x / 2 ^ n.toNat % 2)) := by
  intro P9 ns9 k9
  refine vc_cast (a :=
    (0 : Int) ≤ n ∧ PySem.Builtin.bitAnd (x / (2 : Int) ^ n.toNat) (1 : Int) = x / (2 : Int) ^ n.toNat % (2 : Int) ∧ k9 = k9) (by kernel_rfl) ?_
  exact ⟨h.1, bitAnd_m1 _, rfl⟩
noncomputable def e_bit : Ent := ⟨"bit", 89, 7, aI fun x => aI fun n => aE (0 ≤ n ∧ n ≤ 400) (.int (x / 2 ^ n.toNat % 2))⟩
theorem k_bit : EntOk e_bit := .of f_bit (Ok.aI fun x => Ok.aI fun n => Ok.aE d_bit T_nil rfl rfl r_bit)
theorem f_turned_left : Fun "turned_left" 131 := ⟨fun P => by k_is, fun P => by k_is⟩
theorem d_turned_left (P : Params) : DefAt P 131 ["worth", "turn", "size"] := .three (by kernel_rfl) fun _ _ _ => by kernel_rfl
theorem r_turned {x k n : Int} (h : (0 ≤ k ∧ k ≤ n ∧ n ≤ 400) ∧ Builtin.Int.intBits x ≤ 1000) : Runs 131 ["worth", "turn", "size"] [e_wrap] 8 [.int x, .int k, .int n] (.int (Builtin.bitOr (x * 2 ^ k.toNat % 2 ^ n.toNat) (x / 2 ^ (n - k).toNat))) := by
  intro P9 ns9 k9
  refine vc_cast (a :=
    ((0 : Int) ≤ k ∧ k ≤ (100000 : Int) ∧ PySem.Builtin.Int.intBits x ≤ (100000 : Nat)) ∧
    ((0 : Int) ≤ n ∧ n ≤ (400 : Int)) ∧
    (0 : Int) ≤ n - k ∧
    PySem.Builtin.bitOr (x * (2 : Int) ^ k.toNat % (2 : Int) ^ n.toNat) (x / (2 : Int) ^ (n - k).toNat) =
    PySem.Builtin.bitOr (x * (2 : Int) ^ k.toNat % (2 : Int) ^ n.toNat) (x / (2 : Int) ^ (n - k).toNat) ∧
    k9 = k9) (by kernel_rfl) ?_
  exact ⟨⟨h.1.1, by omega, by omega⟩, by omega, by omega, rfl, rfl⟩
theorem f_masked_count : Fun "masked_count" 117 := ⟨fun P => by k_is, fun P => by k_is⟩
theorem d_masked_count (P : Params) : DefAt P 117 ["count", "size"] := .two (by kernel_rfl) fun _ _ => by kernel_rfl
theorem r_masked {x n : Int}  : Runs 117 ["count", "size"] [e_wrap] 8 [.int x, .int n] (.int (x % (if n = 64 then 64 else 32))) := by
  intro P9 ns9 k9
  refine vc_cast (a :=
    ∃ (z : Int),
    ((Decidable.decide (n = (64 : Int)) = Bool.true → (6 : Int) = z ∧ k9 = k9) ∧ (Decidable.decide (n = (64 : Int)) = Bool.false → (5 : Int) = z ∧ k9 = k9)) ∧
    ((0 : Int) ≤ z ∧ z ≤ (400 : Int)) ∧ (x % (2 : Int) ^ z.toNat = x % if n = (64 : Int) then (64 : Int) else (32 : Int)) ∧ k9 = k9) (by kernel_rfl) ?_
  by_cases hn : n = 64
  · exact ⟨6, ⟨fun _ => ⟨rfl, rfl⟩, fun e => absurd hn (of_decide_eq_false e)⟩, by decide, by rw [if_pos hn]; rfl, rfl⟩
  · exact ⟨5, ⟨fun e => absurd (of_decide_eq_true e) hn, fun _ => ⟨rfl, rfl⟩⟩, by decide, by rw [if_neg hn]; rfl, rfl⟩
theorem f_law_by_halves : Fun "_law_by_halves" 222 := ⟨fun P => by k_is, fun P => by k_is⟩
theorem d_halves (P : Params) : DefAt P 222 ["one", "other", "size"] := .three (by kernel_rfl) fun _ _ _ => by kernel_rfl
theorem r_halves {x y n : Int} (h : (0 ≤ n ∧ n ≤ 400) ∧ Builtin.Int.intBits x ≤ 1000 ∧ Builtin.Int.intBits y ≤ 1000) : Runs 222 ["one", "other", "size"] [] 6 [.int x, .int y, .int n] (.int (x * y)) := by
  intro P9 ns9 k9
  refine vc_cast (a :=
    ((0 : Int) < (2 : Int) ∧ PySem.Builtin.Int.intBits (2 : Int) ≤ (8000 : Nat)) ∧
    ((0 : Int) ≤ n / (2 : Int) ∧ n / (2 : Int) ≤ (1000 : Int) ∧ PySem.Builtin.Int.intBits (2 : Int) ≤ (100 : Nat)) ∧
    ((0 : Int) < (2 : Int) ^ (n / (2 : Int)).toNat ∧ PySem.Builtin.Int.intBits ((2 : Int) ^ (n / (2 : Int)).toNat) ≤ (8000 : Nat)) ∧
    (0 : Int) < (2 : Int) ^ (n / (2 : Int)).toNat ∧
    ((0 : Int) < (2 : Int) ^ (n / (2 : Int)).toNat ∧ PySem.Builtin.Int.intBits ((2 : Int) ^ (n / (2 : Int)).toNat) ≤ (8000 : Nat)) ∧
    (0 : Int) < (2 : Int) ^ (n / (2 : Int)).toNat ∧
    (PySem.Builtin.Int.intBits (x / (2 : Int) ^ (n / (2 : Int)).toNat) ≤ (100000 : Nat) ∧ PySem.Builtin.Int.intBits (y / (2 : Int) ^ (n / (2 : Int)).toNat) ≤ (100000 : Nat)) ∧
    (PySem.Builtin.Int.intBits (x / (2 : Int) ^ (n / (2 : Int)).toNat * (y / (2 : Int) ^ (n / (2 : Int)).toNat)) ≤ (100000 : Nat) ∧
    PySem.Builtin.Int.intBits ((2 : Int) ^ (n / (2 : Int)).toNat) ≤ (100000 : Nat)) ∧
    (PySem.Builtin.Int.intBits (x / (2 : Int) ^ (n / (2 : Int)).toNat) ≤ (100000 : Nat) ∧ PySem.Builtin.Int.intBits (y % (2 : Int) ^ (n / (2 : Int)).toNat) ≤ (100000 : Nat)) ∧
    (PySem.Builtin.Int.intBits (x % (2 : Int) ^ (n / (2 : Int)).toNat) ≤ (100000 : Nat) ∧ PySem.Builtin.Int.intBits (y / (2 : Int) ^ (n / (2 : Int)).toNat) ≤ (100000 : Nat)) ∧
    (PySem.Builtin.Int.intBits
    (x / (2 : Int) ^ (n / (2 : Int)).toNat * (y / (2 : Int) ^ (n / (2 : Int)).toNat) * (2 : Int) ^ (n / (2 : Int)).toNat +
    x / (2 : Int) ^ (n / (2 : Int)).toNat * (y % (2 : Int) ^ (n / (2 : Int)).toNat) +
    x % (2 : Int) ^ (n / (2 : Int)).toNat * (y / (2 : Int) ^ (n / (2 : Int)).toNat)) ≤
    (100000 : Nat) ∧
    PySem.Builtin.Int.intBits ((2 : Int) ^ (n / (2 : Int)).toNat) ≤ (100000 : Nat)) ∧
    (PySem.Builtin.Int.intBits (x % (2 : Int) ^ (n / (2 : Int)).toNat) ≤ (100000 : Nat) ∧ PySem.Builtin.Int.intBits (y % (2 : Int) ^ (n / (2 : Int)).toNat) ≤ (100000 : Nat)) ∧
    (x / (2 : Int) ^ (n / (2 : Int)).toNat * (y / (2 : Int) ^ (n / (2 : Int)).toNat) * (2 : Int) ^ (n / (2 : Int)).toNat +
    x / (2 : Int) ^ (n / (2 : Int)).toNat * (y % (2 : Int) ^ (n / (2 : Int)).toNat) +
    x % (2 : Int) ^ (n / (2 : Int)).toNat * (y / (2 : Int) ^ (n / (2 : Int)).toNat)) *
    (2 : Int) ^ (n / (2 : Int)).toNat +
    x % (2 : Int) ^ (n / (2 : Int)).toNat * (y % (2 : Int) ^ (n / (2 : Int)).toNat) =
    x * y ∧
    k9 = k9) (by kernel_rfl) ?_
  have hp := kbt_pos (n / 2).toNat
  have h1 := Nat.le_trans (bits_pow2 (k := n / 2) (by omega)) (show 2001 ≤ 8000 by decide)
  have b1 := bits_ediv (y := 2 ^ (n / 2).toNat) h.2.1
  have b2 := bits_ediv (y := 2 ^ (n / 2).toNat) h.2.2
  have b3 := PyProof.Rows.bits_emod h.2.1 h1
  have b4 := PyProof.Rows.bits_emod h.2.2 h1
  have b5 := PyProof.Rows.bits_add (PyProof.Rows.bits_add (PyProof.Rows.bits_mul (PyProof.Rows.bits_mul b1 b2) h1) (PyProof.Rows.bits_mul b1 b4)) (PyProof.Rows.bits_mul b3 b2)
  have up : ∀ {z : Int} {m : Nat}, Builtin.Int.intBits z ≤ m → Nat.ble m 100000 = true → Builtin.Int.intBits z ≤ 100000 := fun h e => Nat.le_trans h (Nat.le_of_ble_eq_true e)
  exact ⟨⟨by decide, by decide⟩, ⟨by omega, by omega, by decide⟩, ⟨hp, h1⟩, hp, ⟨hp, h1⟩, hp, ⟨up b1 rfl, up b2 rfl⟩, ⟨up (PyProof.Rows.bits_mul b1 b2) rfl, up h1 rfl⟩, ⟨up b1 rfl, up b4 rfl⟩, ⟨up b3 rfl, up b2 rfl⟩, ⟨up b5 rfl, up h1 rfl⟩, ⟨up b3 rfl, up b4 rfl⟩, halves_eq x y hp, rfl⟩
theorem f_law_minus : Fun "_law_minus" 229 := ⟨fun P => by k_is, fun P => by k_is⟩
theorem d_minus (P : Params) : DefAt P 229 ["worth", "size"] := .two (by kernel_rfl) fun _ _ => by kernel_rfl
theorem r_minus {x n : Int} (h : (1 ≤ n ∧ n ≤ 400) ∧ 0 ≤ x ∧ x < 2 ^ n.toNat) : Runs 229 ["worth", "size"] [] 6 [.int x, .int n] (.int (sgn x n)) := by
  intro P9 ns9 k9
  refine vc_cast (a :=
    (PySem.Builtin.Int.intBits (2 : Int) ≤ (100000 : Nat) ∧ PySem.Builtin.Int.intBits x ≤ (100000 : Nat)) ∧
    ((0 : Int) ≤ n ∧ n ≤ (1000 : Int) ∧ PySem.Builtin.Int.intBits (2 : Int) ≤ (100 : Nat)) ∧
    ∃ (z : Int),
    ((Decidable.decide ((2 : Int) ^ n.toNat ≤ (2 : Int) * x) = Bool.true →
    ((0 : Int) ≤ n ∧ n ≤ (1000 : Int) ∧ PySem.Builtin.Int.intBits (2 : Int) ≤ (100 : Nat)) ∧ x - (2 : Int) ^ n.toNat = z ∧ k9 = k9) ∧
    (Decidable.decide ((2 : Int) ^ n.toNat ≤ (2 : Int) * x) = Bool.false → x = z ∧ k9 = k9)) ∧
    z = Mine.sgn x n ∧ k9 = k9) (by kernel_rfl) ?_
  have hb := bits_lt h.2.1 h.2.2
  exact ⟨⟨by decide, by omega⟩, ⟨by omega, by omega, by decide⟩, _, ⟨fun e => ⟨⟨by omega, by omega, by decide⟩, (if_pos (of_decide_eq_true e)).symm, rfl⟩, fun e => ⟨(if_neg (of_decide_eq_false e)).symm, rfl⟩⟩, sgn_small h.1.1 h.2, rfl⟩
noncomputable def e_fits_signed : Ent := ⟨"fits_signed", 82, 7, aI fun x => aI fun n => aE (1 ≤ n ∧ n ≤ 400) (.bool (decide (-(2 ^ (n - 1).toNat) ≤ x) && decide (x < 2 ^ (n - 1).toNat)))⟩
theorem k_fits_signed : EntOk e_fits_signed := .of f_fits_signed (Ok.aI fun x => Ok.aI fun n => Ok.aE d_fits_signed T_nil rfl rfl r_fits)
noncomputable def e_turned_left : Ent := ⟨"turned_left", 131, 9, aI fun x => aI fun k => aI fun n => aE ((0 ≤ k ∧ k ≤ n ∧ n ≤ 400) ∧ Builtin.Int.intBits x ≤ 1000) (.int (Builtin.bitOr (x * 2 ^ k.toNat % 2 ^ n.toNat) (x / 2 ^ (n - k).toNat)))⟩
theorem k_turned_left : EntOk e_turned_left := .of f_turned_left (Ok.aI fun x => Ok.aI fun k => Ok.aI fun n => Ok.aE d_turned_left (.cons k_wrap .nil) rfl rfl r_turned)
noncomputable def e_masked_count : Ent := ⟨"masked_count", 117, 9, aI fun x => aI fun n => aE True (.int (x % (if n = 64 then 64 else 32)))⟩
theorem k_masked_count : EntOk e_masked_count := .of f_masked_count (Ok.aI fun x => Ok.aI fun n => Ok.aE d_masked_count (.cons k_wrap .nil) rfl rfl fun _ => r_masked)
noncomputable def e_law_by_halves : Ent := ⟨"_law_by_halves", 222, 7, aI fun x => aI fun y => aI fun n => aE ((0 ≤ n ∧ n ≤ 400) ∧ Builtin.Int.intBits x ≤ 1000 ∧ Builtin.Int.intBits y ≤ 1000) (.int (x * y))⟩
theorem k_law_by_halves : EntOk e_law_by_halves := .of f_law_by_halves (Ok.aI fun x => Ok.aI fun y => Ok.aI fun n => Ok.aE d_halves T_nil rfl rfl r_halves)
noncomputable def e_law_minus : Ent := ⟨"_law_minus", 229, 7, aI fun x => aI fun n => aE ((1 ≤ n ∧ n ≤ 400) ∧ 0 ≤ x ∧ x < 2 ^ n.toNat) (.int (sgn x n))⟩
theorem k_law_minus : EntOk e_law_minus := .of f_law_minus (Ok.aI fun x => Ok.aI fun n => Ok.aE d_minus T_nil rfl rfl r_minus)
theorem ones_L {P : Params} {ns : List Int} {c : Cx (scAt P 96) 8} {f : Int × Int → Sig} {μ : Int × Int → Nat} {I : Int × Int → Prop} (_ : c.w.params = P) (h : NsOk c ns) : LOk c (whL [e_wrap] ns (scAt P 96) 8 f μ I) := whL_ok (by decide) (AllOk.cons k_wrap .nil).tok h
theorem highest_L {P : Params} {ns : List Int} {c : Cx (scAt P 110) 8} {f : Int × Int → Sig} {μ : Int × Int → Nat} {I : Int × Int → Prop} (_ : c.w.params = P) (h : NsOk c ns) : LOk c (whL [e_wrap] ns (scAt P 110) 8 f μ I) := whL_ok (by decide) (AllOk.cons k_wrap .nil).tok h
noncomputable def L_ones (x n : Int) (P : Params) (ns : List Int) : LF := whL [e_wrap] ns (scAt P 96) 8 (fun a : Int × Int => [("rest", .int a.1), ("count", .int a.2)]) (fun a => a.1.toNat) (fun a => 0 ≤ a.1 ∧ a.2 + (pop a.1.toNat : Nat) = (pop (x % 2 ^ n.toNat).toNat : Nat))
noncomputable def L_high (x n : Int) (P : Params) (ns : List Int) : LF := whL [e_wrap] ns (scAt P 110) 8 (fun a : Int × Int => [("rest", .int a.1), ("place", .int a.2)]) (fun a => a.1.toNat) (fun a => 0 ≤ a.1 ∧ a.2 + (lg a.1.toNat : Int) = (lg (x % 2 ^ n.toNat).toNat : Int) - 1)
theorem f_ones : Fun "ones" 96 := ⟨fun P => by k_is, fun P => by k_is⟩
theorem d_ones (P : Params) : DefAt P 96 ["worth", "size"] := .two (by kernel_rfl) fun _ _ => by kernel_rfl
theorem r_ones {x n : Int} (h : 0 ≤ n ∧ n ≤ 400) : RunsL (L_ones x n) 96 ["worth", "size"] [e_wrap] 8 [.int x, .int n] (.int (pop (x % 2 ^ n.toNat).toNat : Nat)) := by
  intro P9 ns9 k9
  refine vc_cast (a :=
    ((0 : Int) ≤ n ∧ n ≤ (400 : Int)) ∧
    (∃ (a : Int × Int),
    ((0 : Int) ≤ a.fst ∧ a.snd + (↑(Mine.pop a.fst.toNat) : Int) = (↑(Mine.pop (x % (2 : Int) ^ n.toNat).toNat) : Int)) ∧ x % (2 : Int) ^ n.toNat = a.fst ∧ (0 : Int) = a.snd ∧ True) ∧
    ∀ (a : Int × Int),
    (0 : Int) ≤ a.fst ∧ a.snd + (↑(Mine.pop a.fst.toNat) : Int) = (↑(Mine.pop (x % (2 : Int) ^ n.toNat).toNat) : Int) →
    Mine.Br (Decidable.decide ((0 : Int) < a.fst))
    (k9 = k9 ∧
    ∃ (b : Int × Int),
    (((0 : Int) ≤ b.fst ∧ b.snd + (↑(Mine.pop b.fst.toNat) : Int) = (↑(Mine.pop (x % (2 : Int) ^ n.toNat).toNat) : Int)) ∧ b.fst.toNat < a.fst.toNat) ∧
    PySem.Builtin.bitAnd a.fst (a.fst - (1 : Int)) = b.fst ∧ a.snd + (1 : Int) = b.snd ∧ True)
    (k9 = k9 ∧ a.snd = (↑(Mine.pop (x % (2 : Int) ^ n.toNat).toNat) : Int) ∧ k9 = k9)) (by kernel_rfl) ?_
  refine ⟨h, ⟨(x % 2 ^ n.toNat, 0), ⟨Int.emod_nonneg _ (by have := kbt_pos n.toNat; omega), Int.zero_add _⟩, rfl, rfl, trivial⟩, fun a ha => Br.of (fun e => ?_) fun e => ⟨rfl, ?_, rfl⟩⟩
  · have hs := pop_step (of_decide_eq_true e)
    exact ⟨rfl, (Builtin.bitAnd a.1 (a.1 - 1), a.2 + 1), ⟨⟨hs.1, by dsimp only; omega⟩, hs.2.1⟩, rfl, rfl, trivial⟩
  · have e1 := of_decide_eq_false e
    have e2 : a.1.toNat = 0 := by omega
    rw [← ha.2, e2]
    simp [pop]
noncomputable def e_ones : Ent := ⟨"ones", 96, 9, aI fun x => aI fun n => aE (0 ≤ n ∧ n ≤ 400) (.int (pop (x % 2 ^ n.toNat).toNat : Nat))⟩
theorem k_ones : EntOk e_ones := .of f_ones (Ok.aI fun x => Ok.aI fun n => Ok.aEL d_ones (.cons k_wrap .nil) rfl rfl ones_L r_ones)
theorem f_highest_bit : Fun "highest_bit" 110 := ⟨fun P => by k_is, fun P => by k_is⟩
theorem d_highest_bit (P : Params) : DefAt P 110 ["worth", "size"] := .two (by kernel_rfl) fun _ _ => by kernel_rfl
theorem r_high {x n : Int} (h : 0 ≤ n ∧ n ≤ 400) : RunsL (L_high x n) 110 ["worth", "size"] [e_wrap] 8 [.int x, .int n] (.int ((lg (x % 2 ^ n.toNat).toNat : Int) - 1)) := by
  intro P9 ns9 k9
  refine vc_cast (a :=
    ((0 : Int) ≤ n ∧ n ≤ (400 : Int)) ∧
    (∃ (a : Int × Int),
    ((0 : Int) ≤ a.fst ∧ a.snd + (↑(Mine.lg a.fst.toNat) : Int) = (↑(Mine.lg (x % (2 : Int) ^ n.toNat).toNat) : Int) - (1 : Int)) ∧ x % (2 : Int) ^ n.toNat = a.fst ∧ (-1 : Int) = a.snd ∧ True) ∧
    ∀ (a : Int × Int),
    (0 : Int) ≤ a.fst ∧ a.snd + (↑(Mine.lg a.fst.toNat) : Int) = (↑(Mine.lg (x % (2 : Int) ^ n.toNat).toNat) : Int) - (1 : Int) →
    Mine.Br (Decidable.decide ((0 : Int) < a.fst))
    ((0 : Int) ≤ (1 : Int) ∧
    k9 = k9 ∧
    ∃ (b : Int × Int),
    (((0 : Int) ≤ b.fst ∧ b.snd + (↑(Mine.lg b.fst.toNat) : Int) = (↑(Mine.lg (x % (2 : Int) ^ n.toNat).toNat) : Int) - (1 : Int)) ∧ b.fst.toNat < a.fst.toNat) ∧
    a.fst / (2 : Int) ^ Int.toNat (1 : Int) = b.fst ∧ a.snd + (1 : Int) = b.snd ∧ True)
    (k9 = k9 ∧ a.snd = (↑(Mine.lg (x % (2 : Int) ^ n.toNat).toNat) : Int) - (1 : Int) ∧ k9 = k9)) (by kernel_rfl) ?_
  refine ⟨h, ⟨(x % 2 ^ n.toNat, -1), ⟨Int.emod_nonneg _ (by have := kbt_pos n.toNat; omega), by dsimp only; omega⟩, rfl, rfl, trivial⟩, fun a ha => Br.of (fun e => ?_) fun e => ⟨rfl, ?_, rfl⟩⟩
  · have hs := lg_step (of_decide_eq_true e)
    exact ⟨by decide, rfl, (_, _), ⟨⟨hs.1, by dsimp only; omega⟩, hs.2.1⟩, rfl, rfl, trivial⟩
  · have e1 := of_decide_eq_false e
    have e2 : a.1.toNat = 0 := by omega
    rw [← ha.2, e2]
    simp [lg]
noncomputable def e_highest_bit : Ent := ⟨"highest_bit", 110, 9, aI fun x => aI fun n => aE (0 ≤ n ∧ n ≤ 400) (.int ((lg (x % 2 ^ n.toNat).toNat : Int) - 1))⟩
theorem k_highest_bit : EntOk e_highest_bit := .of f_highest_bit (Ok.aI fun x => Ok.aI fun n => Ok.aEL d_highest_bit (.cons k_wrap .nil) rfl rfl highest_L r_high)
theorem f_lowest_bit : Fun "lowest_bit" 103 := ⟨fun P => by k_is, fun P => by k_is⟩
theorem d_lowest_bit (P : Params) : DefAt P 103 ["worth", "size"] := .two (by kernel_rfl) fun _ _ => by kernel_rfl
theorem r_low {l : List Bool} {n : Int} (h : (n = l.length ∧ 0 ≤ n ∧ n ≤ 400) ∧ V l ≠ 0) : Runs 103 ["worth", "size"] [e_wrap, e_ones] 9 [.bits l, .int n] (.int (tz l : Nat)) := by
  intro P9 ns9 k9
  refine vc_cast (a :=
    ((0 : Int) ≤ n ∧ n ≤ (400 : Int)) ∧
    Mine.Br (Decidable.decide (Mine.V l % (2 : Int) ^ n.toNat = (0 : Int))) ((-1 : Int) = (↑(Mine.tz l) : Int) ∧ k9 = k9)
    (((0 : Int) ≤ n ∧ n ≤ (400 : Int)) ∧
    (↑(Mine.pop ((PySem.Builtin.bitAnd (Mine.V l % (2 : Int) ^ n.toNat) (-(Mine.V l % (2 : Int) ^ n.toNat)) - (1 : Int)) % (2 : Int) ^ n.toNat).toNat) : Int) = (↑(Mine.tz l) : Int) ∧ k9 = k9)) (by kernel_rfl) ?_
  have em := V_mod h.1.1
  rw [em, low_eq h.1.1 h.2]
  exact ⟨h.1.2, Br.of (fun e => absurd (of_decide_eq_true e) h.2) fun _ => ⟨h.1.2, rfl, rfl⟩⟩
noncomputable def e_lowest_bit : Ent := ⟨"lowest_bit", 103, 10, aB fun l => aI fun n => aE ((n = l.length ∧ 0 ≤ n ∧ n ≤ 400) ∧ V l ≠ 0) (.int (tz l : Nat))⟩
theorem k_lowest_bit : EntOk e_lowest_bit := .of f_lowest_bit (Ok.aB fun l => Ok.aI fun n => Ok.aE d_lowest_bit (.cons k_wrap (.cons k_ones .nil)) rfl rfl r_low)
noncomputable def L_signs (l : List Bool) (P : Params) (ns : List Int) : LF := rgL [] ns (scAt P 194) 6 fun i => [("text", .txt (bits i (val l))), ("worth", .int (V l / 2 ^ i))]
theorem signs_L {l : List Bool} {P : Params} {ns : List Int} {c : Cx (scAt P 194) 6} (_ : c.w.params = P) (h : NsOk c ns) : LOk c (L_signs l P ns) := rgL_ok (by decide) AllOk.nil.tok h
noncomputable def L_meant (l : List Bool) (P : Params) (ns : List Int) : LF := txL [] ns (scAt P 201) 6 fun i => [("total", .int (V (l.take i)))]
theorem meant_L {l : List Bool} {P : Params} {ns : List Int} {c : Cx (scAt P 201) 6} (_ : c.w.params = P) (h : NsOk c ns) : LOk c (L_meant l P ns) := txL_ok (by decide) AllOk.nil.tok h
theorem f_law_signs : Fun "_law_signs" 194 := ⟨fun P => by k_is, fun P => by k_is⟩
theorem d_law_signs (P : Params) : DefAt P 194 ["worth", "size"] := .two (by kernel_rfl) fun _ _ => by kernel_rfl
theorem r_signs {l : List Bool} {n : Int} (h : n = l.length ∧ n ≤ 400) : RunsL (L_signs l) 194 ["worth", "size"] [] 6 [.bits l, .int n] (.txt l) := by
  intro P9 ns9 k9
  refine vc_cast (a :=
    (((0 : Int) ≤ n ∧ n ≤ (1000 : Int)) ∧ (Mine.PV.txt [] = Mine.PV.txt (Mine.bits (0 : Nat) (Mine.val l)) ∧ Mine.V l = Mine.V l / (2 : Int) ^ (0 : Nat) ∧ True) ∧ k9 = k9) ∧
    (∀ (i : Nat),
    i < n.toNat →
    (0 : Int) < (2 : Int) ∧
    ((0 : Int) ≤ Mine.V l / (2 : Int) ^ i % (2 : Int) ∧ Mine.V l / (2 : Int) ^ i % (2 : Int) < (↑[Bool.false, Bool.true].length : Int)) ∧
    [[Bool.false, Bool.true].getD (Mine.V l / (2 : Int) ^ i % (2 : Int)).toNat Bool.false].length + (Mine.bits i (Mine.val l)).length ≤ (5000 : Nat) ∧
    ((0 : Int) < (2 : Int) ∧ PySem.Builtin.Int.intBits (2 : Int) ≤ (8000 : Nat)) ∧
    (Mine.PV.txt ([[Bool.false, Bool.true].getD (Mine.V l / (2 : Int) ^ i % (2 : Int)).toNat Bool.false] ++ Mine.bits i (Mine.val l)) =
    Mine.PV.txt (Mine.bits (i + (1 : Nat)) (Mine.val l)) ∧
    Mine.V l / (2 : Int) ^ i / (2 : Int) = Mine.V l / (2 : Int) ^ (i + (1 : Nat)) ∧ True) ∧
    k9 = k9) ∧
    Mine.PV.txt (Mine.bits n.toNat (Mine.val l)) = Mine.PV.txt l ∧ k9 = k9) (by kernel_rfl) ?_
  have hn : n.toNat = l.length := by omega
  refine ⟨⟨⟨by omega, by omega⟩, ⟨rfl, by rw [Int.pow_zero, Int.ediv_one], trivial⟩, rfl⟩, fun i hi => ?_, by rw [hn, bits_val], rfl⟩
  have e0 := Int.emod_nonneg (V l / 2 ^ i) (show (2 : Int) ≠ 0 by decide)
  have e1 := Int.emod_lt_of_pos (V l / 2 ^ i) (show (0 : Int) < 2 by decide)
  exact ⟨by decide, ⟨e0, e1⟩, by rw [bits_length]; show 1 + i ≤ 5000; omega, ⟨by decide, by decide⟩, ⟨by rw [sign_step], (pow_div _ _).symm, trivial⟩, rfl⟩
noncomputable def e_law_signs : Ent := ⟨"_law_signs", 194, 7, aB fun l => aI fun n => aE (n = l.length ∧ n ≤ 400) (.txt l)⟩
theorem k_law_signs : EntOk e_law_signs := .of f_law_signs (Ok.aB fun l => Ok.aI fun n => Ok.aEL d_law_signs T_nil rfl rfl signs_L r_signs)
theorem f_law_meant : Fun "_law_meant" 201 := ⟨fun P => by k_is, fun P => by k_is⟩
theorem d_law_meant (P : Params) : DefAt P 201 ["text"] := .one (by kernel_rfl) fun _ => by kernel_rfl
theorem r_meant {l : List Bool}  : RunsL (L_meant l) 201 ["text"] [] 6 [.txt l] (.bits l) := by
  intro P9 ns9 k9
  refine vc_cast (a :=
    (((0 : Int) = Mine.V (List.take (0 : Nat) l) ∧ True) ∧ k9 = k9) ∧
    (∀ (i : Nat), i < l.length → (Mine.V (List.take i l) + Mine.V (List.take i l) + Mine.B (l.getD i Bool.false) = Mine.V (List.take (i + (1 : Nat)) l) ∧ True) ∧ k9 = k9) ∧
    Mine.V (List.take l.length l) = Mine.V l ∧ k9 = k9) (by kernel_rfl) ?_
  exact ⟨⟨⟨rfl, trivial⟩, rfl⟩, fun i hi => ⟨⟨(V_snoc l i hi).symm, trivial⟩, rfl⟩, by rw [List.take_length], rfl⟩
noncomputable def e_law_meant : Ent := ⟨"_law_meant", 201, 7, aT fun l => aE True (.bits l)⟩
theorem k_law_meant : EntOk e_law_meant := .of f_law_meant (Ok.aT fun l => Ok.aEL d_law_meant T_nil rfl rfl meant_L fun _ => r_meant)
theorem d_scanned (P : Params) : DefAt P 173 ["name", "worth", "size"] := .three (by kernel_rfl) fun _ _ _ => by kernel_rfl
theorem T_scan : AllOk [e_ones, e_lowest_bit, e_highest_bit] := .cons k_ones (.cons k_lowest_bit (.cons k_highest_bit .nil))
theorem r_popcnt {l : List Bool} {n : Int} (h : (n = l.length ∧ 2 ≤ n ∧ n ≤ 200)) : Runs 173 ["name", "worth", "size"] [e_ones, e_lowest_bit, e_highest_bit] 11 [.str "popcnt", .bits l, .int n] (.int (cnt l : Nat)) := by
  intro P9 ns9 k9
  refine vc_cast (a :=
    ((0 : Int) ≤ n ∧ n ≤ (400 : Int)) ∧ (↑(Mine.pop (Mine.V l % (2 : Int) ^ n.toNat).toNat) : Int) = (↑(Mine.cnt l) : Int) ∧ k9 = k9) (by kernel_rfl) ?_
  rw [V_mod h.1, V_toNat, pop_val]
  exact ⟨by omega, rfl, rfl⟩
theorem r_lzcnt {l : List Bool} {n : Int} (h : (n = l.length ∧ 2 ≤ n ∧ n ≤ 200)) : Runs 173 ["name", "worth", "size"] [e_ones, e_lowest_bit, e_highest_bit] 11 [.str "lzcnt", .bits l, .int n] (.int (first l : Nat)) := by
  intro P9 ns9 k9
  refine vc_cast (a :=
    Mine.Br (Decidable.decide (Mine.V l = (0 : Int))) (n = (↑(Mine.first l) : Int) ∧ k9 = k9)
    (((0 : Int) ≤ n ∧ n ≤ (400 : Int)) ∧ n - (1 : Int) - ((↑(Mine.lg (Mine.V l % (2 : Int) ^ n.toNat).toNat) : Int) - (1 : Int)) = (↑(Mine.first l) : Int) ∧ k9 = k9)) (by kernel_rfl) ?_
  rw [V_mod h.1]
  exact Br.of (fun e => ⟨z_first h.1 (of_decide_eq_true e), rfl⟩) fun _ => ⟨by omega, lz_eq h.1, rfl⟩
theorem r_tzcnt {l : List Bool} {n : Int} (h : (n = l.length ∧ 2 ≤ n ∧ n ≤ 200)) : Runs 173 ["name", "worth", "size"] [e_ones, e_lowest_bit, e_highest_bit] 11 [.str "tzcnt", .bits l, .int n] (.int (tz l : Nat)) := by
  intro P9 ns9 k9
  refine vc_cast (a :=
    Mine.Br (Decidable.decide (Mine.V l = (0 : Int))) (n = (↑(Mine.tz l) : Int) ∧ k9 = k9)
    (((n = (↑l.length : Int) ∧ (0 : Int) ≤ n ∧ n ≤ (400 : Int)) ∧ Mine.V l ≠ (0 : Int)) ∧ (↑(Mine.tz l) : Int) = (↑(Mine.tz l) : Int) ∧ k9 = k9)) (by kernel_rfl) ?_
  exact Br.of (fun e => ⟨z_tz h.1 (of_decide_eq_true e), rfl⟩) fun e => ⟨⟨⟨h.1, by omega⟩, of_decide_eq_false e⟩, rfl, rfl⟩
theorem r_bsf {l : List Bool} {n : Int} (h : (n = l.length ∧ 2 ≤ n ∧ n ≤ 200) ∧ V l ≠ 0) : Runs 173 ["name", "worth", "size"] [e_ones, e_lowest_bit, e_highest_bit] 11 [.str "bsf", .bits l, .int n] (.int (tz l : Nat)) := by
  intro P9 ns9 k9
  refine vc_cast (a :=
    Mine.Br (Decidable.decide (Mine.V l = (0 : Int))) (Mine.PV.none = Mine.PV.int (↑(Mine.tz l) : Int) ∧ k9 = k9)
    (((n = (↑l.length : Int) ∧ (0 : Int) ≤ n ∧ n ≤ (400 : Int)) ∧ Mine.V l ≠ (0 : Int)) ∧ (↑(Mine.tz l) : Int) = (↑(Mine.tz l) : Int) ∧ k9 = k9)) (by kernel_rfl) ?_
  exact Br.of (fun e => absurd (of_decide_eq_true e) h.2) fun e => ⟨⟨⟨h.1.1, by omega⟩, of_decide_eq_false e⟩, rfl, rfl⟩
theorem r_bsr {l : List Bool} {n : Int} (h : (n = l.length ∧ 2 ≤ n ∧ n ≤ 200) ∧ V l ≠ 0) : Runs 173 ["name", "worth", "size"] [e_ones, e_lowest_bit, e_highest_bit] 11 [.str "bsr", .bits l, .int n] (.int (n - 1 - (first l : Nat))) := by
  intro P9 ns9 k9
  refine vc_cast (a :=
    Mine.Br (Decidable.decide (Mine.V l = (0 : Int))) (Mine.PV.none = Mine.PV.int (n - (1 : Int) - (↑(Mine.first l) : Int)) ∧ k9 = k9)
    (((0 : Int) ≤ n ∧ n ≤ (400 : Int)) ∧ (↑(Mine.lg (Mine.V l % (2 : Int) ^ n.toNat).toNat) : Int) - (1 : Int) = n - (1 : Int) - (↑(Mine.first l) : Int) ∧ k9 = k9)) (by kernel_rfl) ?_
  rw [V_mod h.1.1]
  exact Br.of (fun e => absurd (of_decide_eq_true e) h.2) fun e => ⟨by omega, bsr_eq h.1.1, rfl⟩
theorem r_bsfN {l : List Bool} {n : Int} (h : (n = l.length ∧ 2 ≤ n ∧ n ≤ 200) ∧ V l = 0) : Runs 173 ["name", "worth", "size"] [e_ones, e_lowest_bit, e_highest_bit] 11 [.str "bsf", .bits l, .int n] (.none) := by
  intro P9 ns9 k9
  refine vc_cast (a :=
    Mine.Br (Decidable.decide (Mine.V l = (0 : Int))) (Mine.PV.none = Mine.PV.none ∧ k9 = k9) (((n = (↑l.length : Int) ∧ (0 : Int) ≤ n ∧ n ≤ (400 : Int)) ∧ Mine.V l ≠ (0 : Int)) ∧ False ∧ k9 = k9)) (by kernel_rfl) ?_
  exact Br.of (fun e => ⟨rfl, rfl⟩) fun e => absurd h.2 (of_decide_eq_false e)
theorem r_bsrN {l : List Bool} {n : Int} (h : (n = l.length ∧ 2 ≤ n ∧ n ≤ 200) ∧ V l = 0) : Runs 173 ["name", "worth", "size"] [e_ones, e_lowest_bit, e_highest_bit] 11 [.str "bsr", .bits l, .int n] (.none) := by
  intro P9 ns9 k9
  refine vc_cast (a :=
    Mine.Br (Decidable.decide (Mine.V l = (0 : Int))) (Mine.PV.none = Mine.PV.none ∧ k9 = k9) (((0 : Int) ≤ n ∧ n ≤ (400 : Int)) ∧ False ∧ k9 = k9)) (by kernel_rfl) ?_
  exact Br.of (fun e => ⟨rfl, rfl⟩) fun e => absurd h.2 (of_decide_eq_false e)
theorem orV {l r : List Bool} {n : Int} (hn : n = r.length) : Builtin.bitOr (V l * 2 ^ n.toNat) (V r) = V (l ++ r) := by
  have e : n.toNat = r.length := by omega
  rw [e, or_apart]
theorem orB {b : Bool} {r : List Bool} {n : Int} (hn : n = r.length) : Builtin.bitOr (B b * 2 ^ n.toNat) (V r) = V (b :: r) := by
  have e : B b = V [b] := by cases b <;> rfl
  rw [e]
  exact orV (l := [b]) hn
theorem T_rot : AllOk [e_turned_left, e_bit] := .cons k_turned_left (.cons k_bit .nil)
theorem f_rotated : Fun "rotated" 138 := ⟨fun P => by k_is, fun P => by k_is⟩
theorem d_rotated (P : Params) : DefAt P 138 ["name", "worth", "count", "size"] := .four (by kernel_rfl) fun _ _ _ _ => by kernel_rfl
theorem q_rol {l : List Bool} {c n : Int} (h : (n = l.length ∧ 2 ≤ n ∧ n ≤ 200) ∧ 0 ≤ c) : Runs 138 ["name", "worth", "count", "size"] [e_turned_left, e_bit] 9 [.str "rol", .bits l, .int c, .int n] (.tup [.bits (rotl l (c % n).toNat), .sgn ((rotl l (c % n).toNat).getD ((rotl l (c % n).toNat).length - 1) false), .sgn ((rotl l (c % n).toNat).getD 0 false ^^ (rotl l (c % n).toNat).getD ((rotl l (c % n).toNat).length - 1) false)]) := by
  intro P9 ns9 k9
  refine vc_cast (a :=
    (0 : Int) < n ∧
    (((0 : Int) ≤ c % n ∧ c % n ≤ n ∧ n ≤ (400 : Int)) ∧ PySem.Builtin.Int.intBits (Mine.V l) ≤ (1000 : Nat)) ∧
    ((0 : Int) ≤ (0 : Int) ∧ (0 : Int) ≤ (400 : Int)) ∧
    ((0 : Int) ≤ n - (1 : Int) ∧ n - (1 : Int) ≤ (400 : Int)) ∧
    (PySem.Builtin.bitOr (Mine.V l * (2 : Int) ^ (c % n).toNat % (2 : Int) ^ n.toNat) (Mine.V l / (2 : Int) ^ (n - c % n).toNat) = Mine.V (Mine.rotl l (c % n).toNat) ∧
    PySem.Builtin.bitOr (Mine.V l * (2 : Int) ^ (c % n).toNat % (2 : Int) ^ n.toNat) (Mine.V l / (2 : Int) ^ (n - c % n).toNat) / (2 : Int) ^ Int.toNat (0 : Int) % (2 : Int) =
    Mine.B ((Mine.rotl l (c % n).toNat).getD ((Mine.rotl l (c % n).toNat).length - (1 : Nat)) Bool.false) ∧
    PySem.Builtin.bitXor
    (PySem.Builtin.bitOr (Mine.V l * (2 : Int) ^ (c % n).toNat % (2 : Int) ^ n.toNat) (Mine.V l / (2 : Int) ^ (n - c % n).toNat) / (2 : Int) ^ (n - (1 : Int)).toNat % (2 : Int))
    (PySem.Builtin.bitOr (Mine.V l * (2 : Int) ^ (c % n).toNat % (2 : Int) ^ n.toNat) (Mine.V l / (2 : Int) ^ (n - c % n).toNat) / (2 : Int) ^ Int.toNat (0 : Int) % (2 : Int)) =
    Mine.B ((Mine.rotl l (c % n).toNat).getD (0 : Nat) Bool.false ^^ (Mine.rotl l (c % n).toNat).getD ((Mine.rotl l (c % n).toNat).length - (1 : Nat)) Bool.false) ∧
    True) ∧
    k9 = k9) (by kernel_rfl) ?_
  obtain ⟨⟨hn, h2, h3⟩, hc⟩ := h
  have em0 := Int.emod_nonneg c (show n ≠ 0 by omega)
  have em1 := Int.emod_lt_of_pos c (show 0 < n by omega)
  have hL : (rotl l (c % n).toNat).length = n := by rw [rotl_length]; omega
  rw [turned_eq hn em0 (Int.le_of_lt em1)]
  exact ⟨by omega, ⟨⟨em0, Int.le_of_lt em1, by omega⟩, bits_VL l (by omega)⟩, by decide, by omega, ⟨rfl, rol_y hL h2, rol_z hL h2, trivial⟩, rfl⟩
theorem q_ror {l : List Bool} {c n : Int} (h : (n = l.length ∧ 2 ≤ n ∧ n ≤ 200) ∧ 0 ≤ c) : Runs 138 ["name", "worth", "count", "size"] [e_turned_left, e_bit] 9 [.str "ror", .bits l, .int c, .int n] (.tup [.bits (rotl l (n - c % n).toNat), .sgn ((rotl l (n - c % n).toNat).getD 0 false), .sgn ((rotl l (n - c % n).toNat).getD 0 false ^^ (rotl l (n - c % n).toNat).getD 1 false)]) := by
  intro P9 ns9 k9
  refine vc_cast (a :=
    (0 : Int) < n ∧
    (0 : Int) < n ∧
    (((0 : Int) ≤ (n - c % n) % n ∧ (n - c % n) % n ≤ n ∧ n ≤ (400 : Int)) ∧ PySem.Builtin.Int.intBits (Mine.V l) ≤ (1000 : Nat)) ∧
    ((0 : Int) ≤ n - (1 : Int) ∧ n - (1 : Int) ≤ (400 : Int)) ∧
    ((0 : Int) ≤ n - (2 : Int) ∧ n - (2 : Int) ≤ (400 : Int)) ∧
    (PySem.Builtin.bitOr (Mine.V l * (2 : Int) ^ ((n - c % n) % n).toNat % (2 : Int) ^ n.toNat) (Mine.V l / (2 : Int) ^ (n - (n - c % n) % n).toNat) = Mine.V (Mine.rotl l (n - c % n).toNat) ∧
    PySem.Builtin.bitOr (Mine.V l * (2 : Int) ^ ((n - c % n) % n).toNat % (2 : Int) ^ n.toNat) (Mine.V l / (2 : Int) ^ (n - (n - c % n) % n).toNat) / (2 : Int) ^ (n - (1 : Int)).toNat %
    (2 : Int) =
    Mine.B ((Mine.rotl l (n - c % n).toNat).getD (0 : Nat) Bool.false) ∧
    PySem.Builtin.bitXor
    (PySem.Builtin.bitOr (Mine.V l * (2 : Int) ^ ((n - c % n) % n).toNat % (2 : Int) ^ n.toNat) (Mine.V l / (2 : Int) ^ (n - (n - c % n) % n).toNat) /
    (2 : Int) ^ (n - (1 : Int)).toNat %
    (2 : Int))
    (PySem.Builtin.bitOr (Mine.V l * (2 : Int) ^ ((n - c % n) % n).toNat % (2 : Int) ^ n.toNat) (Mine.V l / (2 : Int) ^ (n - (n - c % n) % n).toNat) /
    (2 : Int) ^ (n - (2 : Int)).toNat %
    (2 : Int)) =
    Mine.B ((Mine.rotl l (n - c % n).toNat).getD (0 : Nat) Bool.false ^^ (Mine.rotl l (n - c % n).toNat).getD (1 : Nat) Bool.false) ∧
    True) ∧
    k9 = k9) (by kernel_rfl) ?_
  obtain ⟨⟨hn, h2, h3⟩, hc⟩ := h
  have h0 : 0 < n := by omega
  have em0 := Int.emod_nonneg c (Int.ne_of_gt h0)
  have em1 := Int.emod_lt_of_pos c h0
  have em2 := Int.emod_nonneg (n - c % n) (Int.ne_of_gt h0)
  have em3 := Int.emod_lt_of_pos (n - c % n) h0
  have hL : (rotl l (n - c % n).toNat).length = n := by rw [rotl_length]; omega
  rw [turned_eq hn em2 (Int.le_of_lt em3), rotl_back hn em0 em1]
  exact ⟨h0, h0, ⟨⟨em2, Int.le_of_lt em3, by omega⟩, bits_VL l (by omega)⟩, by omega, by omega, ⟨rfl, bit_at (j := 0) hL (by omega) (by omega) (by omega), ror_z hL h2, trivial⟩, rfl⟩
theorem f_rotated_through : Fun "rotated_through" 145 := ⟨fun P => by k_is, fun P => by k_is⟩
theorem d_rotated_through (P : Params) : DefAt P 145 ["name", "worth", "carry", "count", "size"] := .five (by kernel_rfl) fun _ _ _ _ _ => by kernel_rfl
theorem T_thr : AllOk [e_turned_left, e_bit, e_wrap] := .cons k_turned_left (.cons k_bit (.cons k_wrap .nil))
theorem q_rcl {l : List Bool} {b : Bool} {c n : Int} (h : (n = l.length ∧ 2 ≤ n ∧ n ≤ 200) ∧ 0 ≤ c) : Runs 145 ["name", "worth", "carry", "count", "size"] [e_turned_left, e_bit, e_wrap] 9 [.str "rcl", .bits l, .sgn b, .int c, .int n] (.tup [.bits ((rotl (b :: l) (c % (n + 1)).toNat).drop 1), .sgn ((rotl (b :: l) (c % (n + 1)).toNat).getD 0 false), .sgn ((rotl (b :: l) (c % (n + 1)).toNat).getD 1 false ^^ (rotl (b :: l) (c % (n + 1)).toNat).getD 0 false)]) := by
  intro P9 ns9 k9
  refine vc_cast (a :=
    (0 : Int) < n + (1 : Int) ∧
    ((0 : Int) ≤ n ∧ n ≤ (100000 : Int) ∧ PySem.Builtin.Int.intBits (Mine.B b) ≤ (100000 : Nat)) ∧
    (((0 : Int) ≤ c % (n + (1 : Int)) ∧ c % (n + (1 : Int)) ≤ n + (1 : Int) ∧ n + (1 : Int) ≤ (400 : Int)) ∧
    PySem.Builtin.Int.intBits (PySem.Builtin.bitOr (Mine.B b * (2 : Int) ^ n.toNat) (Mine.V l)) ≤ (1000 : Nat)) ∧
    ((0 : Int) ≤ n ∧ n ≤ (400 : Int)) ∧
    ((0 : Int) ≤ n ∧ n ≤ (400 : Int)) ∧
    ((0 : Int) ≤ n - (1 : Int) ∧ n - (1 : Int) ≤ (400 : Int)) ∧
    (PySem.Builtin.bitOr (PySem.Builtin.bitOr (Mine.B b * (2 : Int) ^ n.toNat) (Mine.V l) * (2 : Int) ^ (c % (n + (1 : Int))).toNat % (2 : Int) ^ (n + (1 : Int)).toNat)
    (PySem.Builtin.bitOr (Mine.B b * (2 : Int) ^ n.toNat) (Mine.V l) / (2 : Int) ^ (n + (1 : Int) - c % (n + (1 : Int))).toNat) %
    (2 : Int) ^ n.toNat =
    Mine.V (List.drop (1 : Nat) (Mine.rotl (b :: l) (c % (n + (1 : Int))).toNat)) ∧
    PySem.Builtin.bitOr (PySem.Builtin.bitOr (Mine.B b * (2 : Int) ^ n.toNat) (Mine.V l) * (2 : Int) ^ (c % (n + (1 : Int))).toNat % (2 : Int) ^ (n + (1 : Int)).toNat)
    (PySem.Builtin.bitOr (Mine.B b * (2 : Int) ^ n.toNat) (Mine.V l) / (2 : Int) ^ (n + (1 : Int) - c % (n + (1 : Int))).toNat) /
    (2 : Int) ^ n.toNat %
    (2 : Int) =
    Mine.B ((Mine.rotl (b :: l) (c % (n + (1 : Int))).toNat).getD (0 : Nat) Bool.false) ∧
    PySem.Builtin.bitXor
    (PySem.Builtin.bitOr (PySem.Builtin.bitOr (Mine.B b * (2 : Int) ^ n.toNat) (Mine.V l) * (2 : Int) ^ (c % (n + (1 : Int))).toNat % (2 : Int) ^ (n + (1 : Int)).toNat)
    (PySem.Builtin.bitOr (Mine.B b * (2 : Int) ^ n.toNat) (Mine.V l) / (2 : Int) ^ (n + (1 : Int) - c % (n + (1 : Int))).toNat) %
    (2 : Int) ^ n.toNat /
    (2 : Int) ^ (n - (1 : Int)).toNat %
    (2 : Int))
    (PySem.Builtin.bitOr (PySem.Builtin.bitOr (Mine.B b * (2 : Int) ^ n.toNat) (Mine.V l) * (2 : Int) ^ (c % (n + (1 : Int))).toNat % (2 : Int) ^ (n + (1 : Int)).toNat)
    (PySem.Builtin.bitOr (Mine.B b * (2 : Int) ^ n.toNat) (Mine.V l) / (2 : Int) ^ (n + (1 : Int) - c % (n + (1 : Int))).toNat) /
    (2 : Int) ^ n.toNat %
    (2 : Int)) =
    Mine.B ((Mine.rotl (b :: l) (c % (n + (1 : Int))).toNat).getD (1 : Nat) Bool.false ^^ (Mine.rotl (b :: l) (c % (n + (1 : Int))).toNat).getD (0 : Nat) Bool.false) ∧
    True) ∧
    k9 = k9) (by kernel_rfl) ?_
  obtain ⟨⟨hn, h2, h3⟩, hc⟩ := h
  have h0 : 0 < n + 1 := by omega
  have em0 := Int.emod_nonneg c (Int.ne_of_gt h0)
  have em1 := Int.emod_lt_of_pos c h0
  have hn1 : n + 1 = (b :: l).length := by simp only [List.length_cons]; omega
  have hL : (rotl (b :: l) (c % (n + 1)).toNat).length = n + 1 := by rw [rotl_length]; omega
  have b1 : 0 ≤ n ∧ n ≤ 400 := by omega
  rw [orB hn, turned_eq hn1 em0 (Int.le_of_lt em1)]
  exact ⟨h0, ⟨b1.1, by omega, Nat.le_trans (bits_B b) (by decide)⟩, ⟨⟨em0, Int.le_of_lt em1, by omega⟩, bits_VL _ (by omega)⟩, b1, b1, by omega, ⟨drop_at hL, bit_at (j := 0) hL b1.1 (by omega) (by omega), rcl_z hL h2, trivial⟩, rfl⟩
theorem q_rcr {l : List Bool} {b : Bool} {c n : Int} (h : (n = l.length ∧ 2 ≤ n ∧ n ≤ 200) ∧ 0 ≤ c) : Runs 145 ["name", "worth", "carry", "count", "size"] [e_turned_left, e_bit, e_wrap] 9 [.str "rcr", .bits l, .sgn b, .int c, .int n] (.tup [.bits ((rotl (b :: l) (n + 1 - c % (n + 1)).toNat).drop 1), .sgn ((rotl (b :: l) (n + 1 - c % (n + 1)).toNat).getD 0 false), .sgn (l.getD 0 false ^^ b)]) := by
  intro P9 ns9 k9
  refine vc_cast (a :=
    (0 : Int) < n + (1 : Int) ∧
    (0 : Int) < n + (1 : Int) ∧
    ((0 : Int) ≤ n ∧ n ≤ (100000 : Int) ∧ PySem.Builtin.Int.intBits (Mine.B b) ≤ (100000 : Nat)) ∧
    (((0 : Int) ≤ (n + (1 : Int) - c % (n + (1 : Int))) % (n + (1 : Int)) ∧ (n + (1 : Int) - c % (n + (1 : Int))) % (n + (1 : Int)) ≤ n + (1 : Int) ∧ n + (1 : Int) ≤ (400 : Int)) ∧
    PySem.Builtin.Int.intBits (PySem.Builtin.bitOr (Mine.B b * (2 : Int) ^ n.toNat) (Mine.V l)) ≤ (1000 : Nat)) ∧
    ((0 : Int) ≤ n ∧ n ≤ (400 : Int)) ∧
    ((0 : Int) ≤ n ∧ n ≤ (400 : Int)) ∧
    ((0 : Int) ≤ n - (1 : Int) ∧ n - (1 : Int) ≤ (400 : Int)) ∧
    (PySem.Builtin.bitOr
    (PySem.Builtin.bitOr (Mine.B b * (2 : Int) ^ n.toNat) (Mine.V l) * (2 : Int) ^ ((n + (1 : Int) - c % (n + (1 : Int))) % (n + (1 : Int))).toNat %
    (2 : Int) ^ (n + (1 : Int)).toNat)
    (PySem.Builtin.bitOr (Mine.B b * (2 : Int) ^ n.toNat) (Mine.V l) / (2 : Int) ^ (n + (1 : Int) - (n + (1 : Int) - c % (n + (1 : Int))) % (n + (1 : Int))).toNat) %
    (2 : Int) ^ n.toNat =
    Mine.V (List.drop (1 : Nat) (Mine.rotl (b :: l) (n + (1 : Int) - c % (n + (1 : Int))).toNat)) ∧
    PySem.Builtin.bitOr
    (PySem.Builtin.bitOr (Mine.B b * (2 : Int) ^ n.toNat) (Mine.V l) * (2 : Int) ^ ((n + (1 : Int) - c % (n + (1 : Int))) % (n + (1 : Int))).toNat %
    (2 : Int) ^ (n + (1 : Int)).toNat)
    (PySem.Builtin.bitOr (Mine.B b * (2 : Int) ^ n.toNat) (Mine.V l) / (2 : Int) ^ (n + (1 : Int) - (n + (1 : Int) - c % (n + (1 : Int))) % (n + (1 : Int))).toNat) /
    (2 : Int) ^ n.toNat %
    (2 : Int) =
    Mine.B ((Mine.rotl (b :: l) (n + (1 : Int) - c % (n + (1 : Int))).toNat).getD (0 : Nat) Bool.false) ∧
    PySem.Builtin.bitXor (Mine.V l / (2 : Int) ^ (n - (1 : Int)).toNat % (2 : Int)) (Mine.B b) = Mine.B (l.getD (0 : Nat) Bool.false ^^ b) ∧ True) ∧
    k9 = k9) (by kernel_rfl) ?_
  obtain ⟨⟨hn, h2, h3⟩, hc⟩ := h
  have h0 : 0 < n + 1 := by omega
  have em0 := Int.emod_nonneg c (Int.ne_of_gt h0)
  have em1 := Int.emod_lt_of_pos c h0
  have em2 := Int.emod_nonneg (n + 1 - c % (n + 1)) (Int.ne_of_gt h0)
  have em3 := Int.emod_lt_of_pos (n + 1 - c % (n + 1)) h0
  have hn1 : n + 1 = (b :: l).length := by simp only [List.length_cons]; omega
  have hL : (rotl (b :: l) (n + 1 - c % (n + 1)).toNat).length = n + 1 := by rw [rotl_length]; omega
  have b1 : 0 ≤ n ∧ n ≤ 400 := by omega
  rw [orB hn, turned_eq hn1 em2 (Int.le_of_lt em3), rotl_back hn1 em0 em1]
  exact ⟨h0, h0, ⟨b1.1, by omega, Nat.le_trans (bits_B b) (by decide)⟩, ⟨⟨em2, Int.le_of_lt em3, by omega⟩, bits_VL _ (by omega)⟩, b1, b1, by omega, ⟨drop_at hL, bit_at (j := 0) hL b1.1 (by omega) (by omega), rcr_z hn.symm h2, trivial⟩, rfl⟩
theorem f_shifted : Fun "shifted" 124 := ⟨fun P => by k_is, fun P => by k_is⟩
theorem d_shifted (P : Params) : DefAt P 124 ["name", "worth", "count", "size"] := .four (by kernel_rfl) fun _ _ _ _ => by kernel_rfl
theorem T_shi : AllOk [e_wrap, e_bit, e_signed] := .cons k_wrap (.cons k_bit (.cons k_signed .nil))
theorem q_shl {l : List Bool} {c n : Int} (h : (n = l.length ∧ 2 ≤ n ∧ n ≤ 200) ∧ 1 ≤ c ∧ c ≤ 200) : Runs 124 ["name", "worth", "count", "size"] [e_wrap, e_bit, e_signed] 9 [.str "shl", .bits l, .int c, .int n] (.tup [.bits ((l ++ List.replicate c.toNat false).drop c.toNat), .sgn (if c < n then l.getD (c - 1).toNat false else false), .sgn (((l ++ List.replicate c.toNat false).drop c.toNat).getD 0 false ^^ (if c < n then l.getD (c - 1).toNat false else false))]) := by
  intro P9 ns9 k9
  refine vc_cast (a :=
    ((0 : Int) ≤ c ∧ c ≤ (100000 : Int) ∧ PySem.Builtin.Int.intBits (Mine.V l) ≤ (100000 : Nat)) ∧
    ((0 : Int) ≤ n ∧ n ≤ (400 : Int)) ∧
    ∃ (z : Int),
    ((Decidable.decide (c < n) = Bool.true → ((0 : Int) ≤ n - c ∧ n - c ≤ (400 : Int)) ∧ Mine.V l / (2 : Int) ^ (n - c).toNat % (2 : Int) = z ∧ k9 = k9) ∧
    (Decidable.decide (c < n) = Bool.false → (0 : Int) = z ∧ k9 = k9)) ∧
    ((0 : Int) ≤ n - (1 : Int) ∧ n - (1 : Int) ≤ (400 : Int)) ∧
    (Mine.V l * (2 : Int) ^ c.toNat % (2 : Int) ^ n.toNat = Mine.V (List.drop c.toNat (l ++ List.replicate c.toNat Bool.false)) ∧
    z = Mine.B (if c < n then l.getD (c - (1 : Int)).toNat Bool.false else Bool.false) ∧
    PySem.Builtin.bitXor (Mine.V l * (2 : Int) ^ c.toNat % (2 : Int) ^ n.toNat / (2 : Int) ^ (n - (1 : Int)).toNat % (2 : Int)) z =
    Mine.B ((List.drop c.toNat (l ++ List.replicate c.toNat Bool.false)).getD (0 : Nat) Bool.false ^^ if c < n then l.getD (c - (1 : Int)).toNat Bool.false else Bool.false) ∧
    True) ∧
    k9 = k9) (by kernel_rfl) ?_
  obtain ⟨⟨hn, h2, h3⟩, hc, hc2⟩ := h
  have b1 : 0 ≤ n - 1 ∧ n - 1 ≤ 400 := by omega
  rw [shl_eq hn (by omega)]
  refine ⟨⟨by omega, by omega, Nat.le_trans (bits_V l) (by omega)⟩, by omega, B (if c < n then l.getD (c - 1).toNat false else false), ⟨fun e => ⟨by have := of_decide_eq_true e; omega, carry_eq hn hc (of_decide_eq_true e) (by omega), rfl⟩, fun e => ⟨carry0 (of_decide_eq_false e), rfl⟩⟩, b1, ⟨rfl, rfl, ?_, trivial⟩, rfl⟩
  rw [bit_at (j := 0) (shl_len hn) b1.1 (by omega) (by omega), xor_B]
  rfl
theorem q_shr {l : List Bool} {c n : Int} (h : (n = l.length ∧ 2 ≤ n ∧ n ≤ 200) ∧ 1 ≤ c ∧ c ≤ 200) : Runs 124 ["name", "worth", "count", "size"] [e_wrap, e_bit, e_signed] 9 [.str "shr", .bits l, .int c, .int n] (.tup [.bits ((List.replicate c.toNat false ++ l).take n.toNat), .sgn (if c < n then l.getD (n - c).toNat false else false), .sgn (l.getD 0 false)]) := by
  intro P9 ns9 k9
  refine vc_cast (a :=
    ∃ (z : Int),
    ((Decidable.decide (c < n) = Bool.true → ((0 : Int) ≤ c - (1 : Int) ∧ c - (1 : Int) ≤ (400 : Int)) ∧ Mine.V l / (2 : Int) ^ (c - (1 : Int)).toNat % (2 : Int) = z ∧ k9 = k9) ∧
    (Decidable.decide (c < n) = Bool.false → (0 : Int) = z ∧ k9 = k9)) ∧
    (0 : Int) ≤ c ∧
    ((0 : Int) ≤ n - (1 : Int) ∧ n - (1 : Int) ≤ (400 : Int)) ∧
    (Mine.V l / (2 : Int) ^ c.toNat = Mine.V (List.take n.toNat (List.replicate c.toNat Bool.false ++ l)) ∧
    z = Mine.B (if c < n then l.getD (n - c).toNat Bool.false else Bool.false) ∧ Mine.V l / (2 : Int) ^ (n - (1 : Int)).toNat % (2 : Int) = Mine.B (l.getD (0 : Nat) Bool.false) ∧ True) ∧
    k9 = k9) (by kernel_rfl) ?_
  obtain ⟨⟨hn, h2, h3⟩, hc, hc2⟩ := h
  have en : n.toNat = l.length := by omega
  have b1 : 0 ≤ n - 1 ∧ n - 1 ≤ 400 := by omega
  exact ⟨B (if c < n then l.getD (n - c).toNat false else false), ⟨fun e => ⟨by omega, carry_eq' hn hc (of_decide_eq_true e) (by omega), rfl⟩, fun e => ⟨carry0 (of_decide_eq_false e), rfl⟩⟩, by omega, b1, ⟨by rw [en]; exact shr_eq (by omega), rfl, bit_at (j := 0) hn.symm b1.1 (by omega) (by omega), trivial⟩, rfl⟩
theorem q_sar {l : List Bool} {c n : Int} (h : (n = l.length ∧ 2 ≤ n ∧ n ≤ 200) ∧ 1 ≤ c ∧ c ≤ 200) : Runs 124 ["name", "worth", "count", "size"] [e_wrap, e_bit, e_signed] 9 [.str "sar", .bits l, .int c, .int n] (.tup [.bits ((List.replicate c.toNat (l.getD 0 false) ++ l).take n.toNat), .sgn ((List.replicate c.toNat (l.getD 0 false) ++ l).getD n.toNat false), .int 0]) := by
  intro P9 ns9 k9
  refine vc_cast (a :=
    ((1 : Int) ≤ n ∧ n ≤ (400 : Int)) ∧
    (0 : Int) ≤ c ∧
    ((0 : Int) ≤ n ∧ n ≤ (400 : Int)) ∧
    (0 : Int) ≤ c - (1 : Int) ∧
    ((0 : Int) ≤ (1 : Int) ∧ (1 : Int) ≤ (400 : Int)) ∧
    (Mine.sgn (Mine.V l) n / (2 : Int) ^ c.toNat % (2 : Int) ^ n.toNat = Mine.V (List.take n.toNat (List.replicate c.toNat (l.getD (0 : Nat) Bool.false) ++ l)) ∧
    Mine.sgn (Mine.V l) n / (2 : Int) ^ (c - (1 : Int)).toNat % (2 : Int) ^ Int.toNat (1 : Int) =
    Mine.B ((List.replicate c.toNat (l.getD (0 : Nat) Bool.false) ++ l).getD n.toNat Bool.false) ∧
    (0 : Int) = (0 : Int) ∧ True) ∧
    k9 = k9) (by kernel_rfl) ?_
  obtain ⟨⟨hn, h2, h3⟩, hc, hc2⟩ := h
  have en : n.toNat = l.length := by omega
  have h1 : 1 ≤ n := by omega
  exact ⟨by omega, by omega, by omega, by omega, by decide, ⟨by rw [sar_eq hn h1 (by omega), en], by rw [sar_c hn h1 hc, en], rfl, trivial⟩, rfl⟩
theorem f_double_shifted : Fun "double_shifted" 152 := ⟨fun P => by k_is, fun P => by k_is⟩
theorem d_double_shifted (P : Params) : DefAt P 152 ["name", "worth", "other", "count", "size"] := .five (by kernel_rfl) fun _ _ _ _ _ => by kernel_rfl
theorem T_dbl : AllOk [e_wrap, e_bit] := .cons k_wrap (.cons k_bit .nil)
theorem q_shld {l r : List Bool} {c n : Int} (h : (n = l.length ∧ n = r.length ∧ 2 ≤ n ∧ n ≤ 200) ∧ 1 ≤ c ∧ c ≤ n) : Runs 152 ["name", "worth", "other", "count", "size"] [e_wrap, e_bit] 9 [.str "shld", .bits l, .bits r, .int c, .int n] (.tup [.bits (((l ++ r).drop c.toNat).take (c + n - c).toNat), .sgn (l.getD (c - 1).toNat false), .sgn ((((l ++ r).drop c.toNat).take (c + n - c).toNat).getD 0 false ^^ l.getD 0 false)]) := by
  intro P9 ns9 k9
  refine vc_cast (a :=
    Mine.Br (Decidable.decide (n < c))
    (Mine.PV.none =
    Mine.PV.tup
    [Mine.PV.bits (List.take (c + n - c).toNat (List.drop c.toNat (l ++ r))), Mine.PV.sgn (l.getD (c - (1 : Int)).toNat Bool.false),
    Mine.PV.sgn ((List.take (c + n - c).toNat (List.drop c.toNat (l ++ r))).getD (0 : Nat) Bool.false ^^ l.getD (0 : Nat) Bool.false)] ∧
    k9 = k9)
    (((0 : Int) ≤ n ∧ n ≤ (100000 : Int) ∧ PySem.Builtin.Int.intBits (Mine.V l) ≤ (100000 : Nat)) ∧
    (0 : Int) ≤ n - c ∧
    ((0 : Int) ≤ n ∧ n ≤ (400 : Int)) ∧
    ((0 : Int) ≤ n - c ∧ n - c ≤ (400 : Int)) ∧
    ((0 : Int) ≤ n - (1 : Int) ∧ n - (1 : Int) ≤ (400 : Int)) ∧
    ((0 : Int) ≤ n - (1 : Int) ∧ n - (1 : Int) ≤ (400 : Int)) ∧
    (PySem.Builtin.bitOr (Mine.V l * (2 : Int) ^ n.toNat) (Mine.V r) / (2 : Int) ^ (n - c).toNat % (2 : Int) ^ n.toNat = Mine.V (List.take (c + n - c).toNat (List.drop c.toNat (l ++ r))) ∧
    Mine.V l / (2 : Int) ^ (n - c).toNat % (2 : Int) = Mine.B (l.getD (c - (1 : Int)).toNat Bool.false) ∧
    PySem.Builtin.bitXor
    (PySem.Builtin.bitOr (Mine.V l * (2 : Int) ^ n.toNat) (Mine.V r) / (2 : Int) ^ (n - c).toNat % (2 : Int) ^ n.toNat / (2 : Int) ^ (n - (1 : Int)).toNat % (2 : Int))
    (Mine.V l / (2 : Int) ^ (n - (1 : Int)).toNat % (2 : Int)) =
    Mine.B ((List.take (c + n - c).toNat (List.drop c.toNat (l ++ r))).getD (0 : Nat) Bool.false ^^ l.getD (0 : Nat) Bool.false) ∧
    True) ∧
    k9 = k9)) (by kernel_rfl) ?_
  obtain ⟨⟨hn, hr, h2, h3⟩, hc, hc2⟩ := h
  have en : (c + n - c).toNat = l.length := by omega
  have b1 : 0 ≤ n - 1 ∧ n - 1 ≤ 400 := by omega
  have b2 : 0 ≤ n - c ∧ n - c ≤ 400 := by omega
  have b3 : 0 ≤ n ∧ n ≤ 400 := by omega
  rw [orV hr, en, mid_eq hn hr (by omega) hc2]
  exact Br.of (fun e => absurd (of_decide_eq_true e) (by omega)) fun _ => ⟨⟨b3.1, by omega, Nat.le_trans (bits_V l) (by omega)⟩, b2.1, b3, b2, b1, b1, ⟨rfl, bit_at (j := c - 1) hn.symm b2.1 (by omega) (by omega), mid_z (r := r) (cut_len hn hr (by omega) hc2) hn.symm h2, trivial⟩, rfl⟩
theorem q_shldN {l r : List Bool} {c n : Int} (h : n < c) : Runs 152 ["name", "worth", "other", "count", "size"] [e_wrap, e_bit] 9 [.str "shld", .bits l, .bits r, .int c, .int n] (.none) := by
  intro P9 ns9 k9
  refine vc_cast (a :=
    Mine.Br (Decidable.decide (n < c)) (Mine.PV.none = Mine.PV.none ∧ k9 = k9)
    (((0 : Int) ≤ n ∧ n ≤ (100000 : Int) ∧ PySem.Builtin.Int.intBits (Mine.V l) ≤ (100000 : Nat)) ∧
    (0 : Int) ≤ n - c ∧
    ((0 : Int) ≤ n ∧ n ≤ (400 : Int)) ∧
    ((0 : Int) ≤ n - c ∧ n - c ≤ (400 : Int)) ∧ ((0 : Int) ≤ n - (1 : Int) ∧ n - (1 : Int) ≤ (400 : Int)) ∧ ((0 : Int) ≤ n - (1 : Int) ∧ n - (1 : Int) ≤ (400 : Int)) ∧ False ∧ k9 = k9)) (by kernel_rfl) ?_
  exact Br.of (fun e => ⟨rfl, rfl⟩) fun e => absurd h (of_decide_eq_false e)
theorem q_shrd {l r : List Bool} {c n : Int} (h : (n = l.length ∧ n = r.length ∧ 2 ≤ n ∧ n ≤ 200) ∧ 1 ≤ c ∧ c ≤ n) : Runs 152 ["name", "worth", "other", "count", "size"] [e_wrap, e_bit] 9 [.str "shrd", .bits l, .bits r, .int c, .int n] (.tup [.bits (((r ++ l).drop (n - c).toNat).take (n + n - c - (n - c)).toNat), .sgn (l.getD (n - c).toNat false), .sgn ((((r ++ l).drop (n - c).toNat).take (n + n - c - (n - c)).toNat).getD 0 false ^^ l.getD 0 false)]) := by
  intro P9 ns9 k9
  refine vc_cast (a :=
    Mine.Br (Decidable.decide (n < c))
    (Mine.PV.none =
    Mine.PV.tup
    [Mine.PV.bits (List.take (n + n - c - (n - c)).toNat (List.drop (n - c).toNat (r ++ l))), Mine.PV.sgn (l.getD (n - c).toNat Bool.false),
    Mine.PV.sgn ((List.take (n + n - c - (n - c)).toNat (List.drop (n - c).toNat (r ++ l))).getD (0 : Nat) Bool.false ^^ l.getD (0 : Nat) Bool.false)] ∧
    k9 = k9)
    (((0 : Int) ≤ n ∧ n ≤ (100000 : Int) ∧ PySem.Builtin.Int.intBits (Mine.V r) ≤ (100000 : Nat)) ∧
    (0 : Int) ≤ c ∧
    ((0 : Int) ≤ n ∧ n ≤ (400 : Int)) ∧
    ((0 : Int) ≤ c - (1 : Int) ∧ c - (1 : Int) ≤ (400 : Int)) ∧
    ((0 : Int) ≤ n - (1 : Int) ∧ n - (1 : Int) ≤ (400 : Int)) ∧
    ((0 : Int) ≤ n - (1 : Int) ∧ n - (1 : Int) ≤ (400 : Int)) ∧
    (PySem.Builtin.bitOr (Mine.V r * (2 : Int) ^ n.toNat) (Mine.V l) / (2 : Int) ^ c.toNat % (2 : Int) ^ n.toNat =
    Mine.V (List.take (n + n - c - (n - c)).toNat (List.drop (n - c).toNat (r ++ l))) ∧
    Mine.V l / (2 : Int) ^ (c - (1 : Int)).toNat % (2 : Int) = Mine.B (l.getD (n - c).toNat Bool.false) ∧
    PySem.Builtin.bitXor (PySem.Builtin.bitOr (Mine.V r * (2 : Int) ^ n.toNat) (Mine.V l) / (2 : Int) ^ c.toNat % (2 : Int) ^ n.toNat / (2 : Int) ^ (n - (1 : Int)).toNat % (2 : Int))
    (Mine.V l / (2 : Int) ^ (n - (1 : Int)).toNat % (2 : Int)) =
    Mine.B ((List.take (n + n - c - (n - c)).toNat (List.drop (n - c).toNat (r ++ l))).getD (0 : Nat) Bool.false ^^ l.getD (0 : Nat) Bool.false) ∧
    True) ∧
    k9 = k9)) (by kernel_rfl) ?_
  obtain ⟨⟨hn, hr, h2, h3⟩, hc, hc2⟩ := h
  have en : (n + n - c - (n - c)).toNat = r.length := by omega
  have b1 : 0 ≤ n - 1 ∧ n - 1 ≤ 400 := by omega
  have b2 : 0 ≤ n - c ∧ n - c ≤ n := by omega
  have b3 : 0 ≤ n ∧ n ≤ 400 := by omega
  have hq : V (r ++ l) / 2 ^ c.toNat = V (r ++ l) / 2 ^ (n - (n - c)).toNat := by rw [Int.sub_sub_self]
  rw [orV hn, en, hq, mid_eq hr hn b2.1 b2.2]
  exact Br.of (fun e => absurd (of_decide_eq_true e) (by omega)) fun _ => ⟨⟨b3.1, by omega, Nat.le_trans (bits_V r) (by omega)⟩, by omega, b3, by omega, b1, b1, ⟨rfl, bit_at (j := n - c) hn.symm (by omega) (by omega) (by omega), mid_z (r := r) (cut_len hr hn b2.1 b2.2) hn.symm h2, trivial⟩, rfl⟩
theorem q_shrdN {l r : List Bool} {c n : Int} (h : n < c) : Runs 152 ["name", "worth", "other", "count", "size"] [e_wrap, e_bit] 9 [.str "shrd", .bits l, .bits r, .int c, .int n] (.none) := by
  intro P9 ns9 k9
  refine vc_cast (a :=
    Mine.Br (Decidable.decide (n < c)) (Mine.PV.none = Mine.PV.none ∧ k9 = k9)
    (((0 : Int) ≤ n ∧ n ≤ (100000 : Int) ∧ PySem.Builtin.Int.intBits (Mine.V r) ≤ (100000 : Nat)) ∧
    (0 : Int) ≤ c ∧
    ((0 : Int) ≤ n ∧ n ≤ (400 : Int)) ∧
    ((0 : Int) ≤ c - (1 : Int) ∧ c - (1 : Int) ≤ (400 : Int)) ∧
    ((0 : Int) ≤ n - (1 : Int) ∧ n - (1 : Int) ≤ (400 : Int)) ∧ ((0 : Int) ≤ n - (1 : Int) ∧ n - (1 : Int) ≤ (400 : Int)) ∧ False ∧ k9 = k9)) (by kernel_rfl) ?_
  exact Br.of (fun e => ⟨rfl, rfl⟩) fun e => absurd h (of_decide_eq_false e)
theorem f_product : Fun "product" 159 := ⟨fun P => by k_is, fun P => by k_is⟩
theorem d_product (P : Params) : DefAt P 159 ["one", "other", "size", "is_signed"] := .four (by kernel_rfl) fun _ _ _ _ => by kernel_rfl
theorem T_pro : AllOk [e_signed, e_fits_signed, e_wrap] := .cons k_signed (.cons k_fits_signed (.cons k_wrap .nil))
theorem q_produ {x y n : Int} (h : (1 ≤ n ∧ n ≤ 200) ∧ Builtin.Int.intBits x ≤ 1000 ∧ Builtin.Int.intBits y ≤ 1000) : Runs 159 ["one", "other", "size", "is_signed"] [e_signed, e_fits_signed, e_wrap] 9 [.int x, .int y, .int n, .bool false] (.tup [.int (x * y % 2 ^ n.toNat), .int (x * y / 2 ^ n.toNat % 2 ^ n.toNat), .int (if x * y / 2 ^ n.toNat = 0 then 0 else 1)]) := by
  intro P9 ns9 k9
  refine vc_cast (a :=
    (PySem.Builtin.Int.intBits x ≤ (100000 : Nat) ∧ PySem.Builtin.Int.intBits y ≤ (100000 : Nat)) ∧
    (0 : Int) ≤ n ∧
    ∃ (z : Int),
    ((Decidable.decide (x * y / (2 : Int) ^ n.toNat = (0 : Int)) = Bool.true → (0 : Int) = z ∧ k9 = k9) ∧
    (Decidable.decide (x * y / (2 : Int) ^ n.toNat = (0 : Int)) = Bool.false → (1 : Int) = z ∧ k9 = k9)) ∧
    ((0 : Int) ≤ n ∧ n ≤ (400 : Int)) ∧
    (0 : Int) ≤ n ∧
    ((0 : Int) ≤ n ∧ n ≤ (400 : Int)) ∧
    (x * y % (2 : Int) ^ n.toNat = x * y % (2 : Int) ^ n.toNat ∧
    x * y / (2 : Int) ^ n.toNat % (2 : Int) ^ n.toNat = x * y / (2 : Int) ^ n.toNat % (2 : Int) ^ n.toNat ∧
    (z = if x * y / (2 : Int) ^ n.toNat = (0 : Int) then (0 : Int) else (1 : Int)) ∧ True) ∧
    k9 = k9) (by kernel_rfl) ?_
  have b1 : 0 ≤ n ∧ n ≤ 400 := by omega
  exact ⟨⟨Nat.le_trans h.2.1 (by decide), Nat.le_trans h.2.2 (by decide)⟩, b1.1, _, ⟨fun e => ⟨(if_pos (of_decide_eq_true e)).symm, rfl⟩, fun e => ⟨(if_neg (of_decide_eq_false e)).symm, rfl⟩⟩, b1, b1.1, b1, ⟨rfl, rfl, rfl, trivial⟩, rfl⟩
theorem q_prods {x y n : Int} (h : 1 ≤ n ∧ n ≤ 200) : Runs 159 ["one", "other", "size", "is_signed"] [e_signed, e_fits_signed, e_wrap] 9 [.int x, .int y, .int n, .bool true] (.tup [.int (sgn x n * sgn y n % 2 ^ n.toNat), .int (sgn x n * sgn y n / 2 ^ n.toNat % 2 ^ n.toNat), .int (if -(2 ^ (n - 1).toNat) ≤ sgn x n * sgn y n ∧ sgn x n * sgn y n < 2 ^ (n - 1).toNat then 0 else 1)]) := by
  intro P9 ns9 k9
  refine vc_cast (a :=
    ((1 : Int) ≤ n ∧ n ≤ (400 : Int)) ∧
    ((1 : Int) ≤ n ∧ n ≤ (400 : Int)) ∧
    (PySem.Builtin.Int.intBits (Mine.sgn x n) ≤ (100000 : Nat) ∧ PySem.Builtin.Int.intBits (Mine.sgn y n) ≤ (100000 : Nat)) ∧
    ((1 : Int) ≤ n ∧ n ≤ (400 : Int)) ∧
    ∃ (z : Int),
    (((Decidable.decide (-(2 : Int) ^ (n - (1 : Int)).toNat ≤ Mine.sgn x n * Mine.sgn y n) && Decidable.decide (Mine.sgn x n * Mine.sgn y n < (2 : Int) ^ (n - (1 : Int)).toNat)) = Bool.true →
    (0 : Int) = z ∧ k9 = k9) ∧
    ((Decidable.decide (-(2 : Int) ^ (n - (1 : Int)).toNat ≤ Mine.sgn x n * Mine.sgn y n) && Decidable.decide (Mine.sgn x n * Mine.sgn y n < (2 : Int) ^ (n - (1 : Int)).toNat)) =
    Bool.false →
    (1 : Int) = z ∧ k9 = k9)) ∧
    ((0 : Int) ≤ n ∧ n ≤ (400 : Int)) ∧
    (0 : Int) ≤ n ∧
    ((0 : Int) ≤ n ∧ n ≤ (400 : Int)) ∧
    (Mine.sgn x n * Mine.sgn y n % (2 : Int) ^ n.toNat = Mine.sgn x n * Mine.sgn y n % (2 : Int) ^ n.toNat ∧
    Mine.sgn x n * Mine.sgn y n / (2 : Int) ^ n.toNat % (2 : Int) ^ n.toNat = Mine.sgn x n * Mine.sgn y n / (2 : Int) ^ n.toNat % (2 : Int) ^ n.toNat ∧
    (z = if -(2 : Int) ^ (n - (1 : Int)).toNat ≤ Mine.sgn x n * Mine.sgn y n ∧ Mine.sgn x n * Mine.sgn y n < (2 : Int) ^ (n - (1 : Int)).toNat then (0 : Int) else (1 : Int)) ∧
    True) ∧
    k9 = k9) (by kernel_rfl) ?_
  have b0 : 1 ≤ n ∧ n ≤ 400 := by omega
  have b1 : 0 ≤ n ∧ n ≤ 400 := by omega
  exact ⟨b0, b0, ⟨Nat.le_trans (bits_sgn b1) (by decide), Nat.le_trans (bits_sgn b1) (by decide)⟩, b0, _, ⟨fun e => ⟨(if_pos (by simpa using e)).symm, rfl⟩, fun e => ⟨(if_neg (by simpa using e)).symm, rfl⟩⟩, b1, b1.1, b1, ⟨rfl, rfl, rfl, trivial⟩, rfl⟩
theorem f_with_bit : Fun "with_bit" 180 := ⟨fun P => by k_is, fun P => by k_is⟩
theorem d_with_bit (P : Params) : DefAt P 180 ["name", "worth", "spot"] := .three (by kernel_rfl) fun _ _ _ => by kernel_rfl
theorem q_bts {l : List Bool} {i n : Int} (h : (n = l.length ∧ 2 ≤ n ∧ n ≤ 200) ∧ 0 ≤ i ∧ i < n) : Runs 180 ["name", "worth", "spot"] [e_bit] 7 [.str "bts", .bits l, .int i] (.bits (l.take (n - 1 - i).toNat ++ (true) :: l.drop ((n - 1 - i).toNat + 1))) := by
  intro P9 ns9 k9
  refine vc_cast (a :=
    ((0 : Int) ≤ i ∧ i ≤ (100000 : Int) ∧ PySem.Builtin.Int.intBits (1 : Int) ≤ (100000 : Nat)) ∧
    PySem.Builtin.bitOr (Mine.V l) ((1 : Int) * (2 : Int) ^ i.toNat) = Mine.V (List.take (n - (1 : Int) - i).toNat l ++ Bool.true :: List.drop ((n - (1 : Int) - i).toNat + (1 : Nat)) l) ∧ k9 = k9) (by kernel_rfl) ?_
  exact ⟨⟨h.2.1, by omega, by decide⟩, bts_eq h.1.1 h.2, rfl⟩
theorem q_btr {l : List Bool} {i n : Int} (h : (n = l.length ∧ 2 ≤ n ∧ n ≤ 200) ∧ 0 ≤ i ∧ i < n) : Runs 180 ["name", "worth", "spot"] [e_bit] 7 [.str "btr", .bits l, .int i] (.bits (l.take (n - 1 - i).toNat ++ (false) :: l.drop ((n - 1 - i).toNat + 1))) := by
  intro P9 ns9 k9
  refine vc_cast (a :=
    ((0 : Int) ≤ i ∧ i ≤ (100000 : Int) ∧ PySem.Builtin.Int.intBits (1 : Int) ≤ (100000 : Nat)) ∧
    ((0 : Int) ≤ i ∧ i ≤ (400 : Int)) ∧
    ∃ (z : Int),
    ((Decidable.decide (Mine.V l / (2 : Int) ^ i.toNat % (2 : Int) = (1 : Int)) = Bool.true → PySem.Builtin.bitXor (Mine.V l) ((1 : Int) * (2 : Int) ^ i.toNat) = z ∧ k9 = k9) ∧
    (Decidable.decide (Mine.V l / (2 : Int) ^ i.toNat % (2 : Int) = (1 : Int)) = Bool.false → Mine.V l = z ∧ k9 = k9)) ∧
    z = Mine.V (List.take (n - (1 : Int) - i).toNat l ++ Bool.false :: List.drop ((n - (1 : Int) - i).toNat + (1 : Nat)) l) ∧ k9 = k9) (by kernel_rfl) ?_
  exact ⟨⟨h.2.1, by omega, by decide⟩, by omega, _, ⟨fun e => ⟨btr_eq h.1.1 h.2 (of_decide_eq_true e), rfl⟩, fun e => ⟨btr_eq0 h.1.1 h.2 (of_decide_eq_false e), rfl⟩⟩, rfl, rfl⟩
theorem q_btc {l : List Bool} {i n : Int} (h : (n = l.length ∧ 2 ≤ n ∧ n ≤ 200) ∧ 0 ≤ i ∧ i < n) : Runs 180 ["name", "worth", "spot"] [e_bit] 7 [.str "btc", .bits l, .int i] (.bits (l.take (n - 1 - i).toNat ++ (!l.getD (n - 1 - i).toNat false) :: l.drop ((n - 1 - i).toNat + 1))) := by
  intro P9 ns9 k9
  refine vc_cast (a :=
    ((0 : Int) ≤ i ∧ i ≤ (100000 : Int) ∧ PySem.Builtin.Int.intBits (1 : Int) ≤ (100000 : Nat)) ∧
    PySem.Builtin.bitXor (Mine.V l) ((1 : Int) * (2 : Int) ^ i.toNat) =
    Mine.V (List.take (n - (1 : Int) - i).toNat l ++ (!l.getD (n - (1 : Int) - i).toNat Bool.false) :: List.drop ((n - (1 : Int) - i).toNat + (1 : Nat)) l) ∧
    k9 = k9) (by kernel_rfl) ?_
  exact ⟨⟨h.2.1, by omega, by decide⟩, btc_eq h.1.1 h.2, rfl⟩
noncomputable def e_rotated : Ent := ⟨"rotated", 138, 10, aS fun y => sel "rol" (aB fun l => aI fun c => aI fun n => aE ((n = l.length ∧ 2 ≤ n ∧ n ≤ 200) ∧ 0 ≤ c) (.tup [.bits (rotl l (c % n).toNat), .sgn ((rotl l (c % n).toNat).getD ((rotl l (c % n).toNat).length - 1) false), .sgn ((rotl l (c % n).toNat).getD 0 false ^^ (rotl l (c % n).toNat).getD ((rotl l (c % n).toNat).length - 1) false)])) (sel "ror" (aB fun l => aI fun c => aI fun n => aE ((n = l.length ∧ 2 ≤ n ∧ n ≤ 200) ∧ 0 ≤ c) (.tup [.bits (rotl l (n - c % n).toNat), .sgn ((rotl l (n - c % n).toNat).getD 0 false), .sgn ((rotl l (n - c % n).toNat).getD 0 false ^^ (rotl l (n - c % n).toNat).getD 1 false)])) (no) y) y⟩
theorem k_rotated : EntOk e_rotated := .of f_rotated (Ok.aS fun y => Ok.sel (Ok.aB fun l => Ok.aI fun c => Ok.aI fun n => Ok.aE d_rotated T_rot rfl rfl q_rol) (Ok.sel (Ok.aB fun l => Ok.aI fun c => Ok.aI fun n => Ok.aE d_rotated T_rot rfl rfl q_ror) (Ok.no)))
noncomputable def e_rotated_through : Ent := ⟨"rotated_through", 145, 10, aS fun y => sel "rcl" (aB fun l => aG fun b => aI fun c => aI fun n => aE ((n = l.length ∧ 2 ≤ n ∧ n ≤ 200) ∧ 0 ≤ c) (.tup [.bits ((rotl (b :: l) (c % (n + 1)).toNat).drop 1), .sgn ((rotl (b :: l) (c % (n + 1)).toNat).getD 0 false), .sgn ((rotl (b :: l) (c % (n + 1)).toNat).getD 1 false ^^ (rotl (b :: l) (c % (n + 1)).toNat).getD 0 false)])) (sel "rcr" (aB fun l => aG fun b => aI fun c => aI fun n => aE ((n = l.length ∧ 2 ≤ n ∧ n ≤ 200) ∧ 0 ≤ c) (.tup [.bits ((rotl (b :: l) (n + 1 - c % (n + 1)).toNat).drop 1), .sgn ((rotl (b :: l) (n + 1 - c % (n + 1)).toNat).getD 0 false), .sgn (l.getD 0 false ^^ b)])) (no) y) y⟩
theorem k_rotated_through : EntOk e_rotated_through := .of f_rotated_through (Ok.aS fun y => Ok.sel (Ok.aB fun l => Ok.aG fun b => Ok.aI fun c => Ok.aI fun n => Ok.aE d_rotated_through T_thr rfl rfl q_rcl) (Ok.sel (Ok.aB fun l => Ok.aG fun b => Ok.aI fun c => Ok.aI fun n => Ok.aE d_rotated_through T_thr rfl rfl q_rcr) (Ok.no)))
noncomputable def e_shifted : Ent := ⟨"shifted", 124, 10, aS fun y => sel "shl" (aB fun l => aI fun c => aI fun n => aE ((n = l.length ∧ 2 ≤ n ∧ n ≤ 200) ∧ 1 ≤ c ∧ c ≤ 200) (.tup [.bits ((l ++ List.replicate c.toNat false).drop c.toNat), .sgn (if c < n then l.getD (c - 1).toNat false else false), .sgn (((l ++ List.replicate c.toNat false).drop c.toNat).getD 0 false ^^ (if c < n then l.getD (c - 1).toNat false else false))])) (sel "shr" (aB fun l => aI fun c => aI fun n => aE ((n = l.length ∧ 2 ≤ n ∧ n ≤ 200) ∧ 1 ≤ c ∧ c ≤ 200) (.tup [.bits ((List.replicate c.toNat false ++ l).take n.toNat), .sgn (if c < n then l.getD (n - c).toNat false else false), .sgn (l.getD 0 false)])) (sel "sar" (aB fun l => aI fun c => aI fun n => aE ((n = l.length ∧ 2 ≤ n ∧ n ≤ 200) ∧ 1 ≤ c ∧ c ≤ 200) (.tup [.bits ((List.replicate c.toNat (l.getD 0 false) ++ l).take n.toNat), .sgn ((List.replicate c.toNat (l.getD 0 false) ++ l).getD n.toNat false), .int 0])) (no) y) y) y⟩
theorem k_shifted : EntOk e_shifted := .of f_shifted (Ok.aS fun y => Ok.sel (Ok.aB fun l => Ok.aI fun c => Ok.aI fun n => Ok.aE d_shifted T_shi rfl rfl q_shl) (Ok.sel (Ok.aB fun l => Ok.aI fun c => Ok.aI fun n => Ok.aE d_shifted T_shi rfl rfl q_shr) (Ok.sel (Ok.aB fun l => Ok.aI fun c => Ok.aI fun n => Ok.aE d_shifted T_shi rfl rfl q_sar) (Ok.no))))
noncomputable def e_double_shifted : Ent := ⟨"double_shifted", 152, 10, aS fun y => sel "shld" (aB fun l => aB fun r => aI fun c => aI fun n => br (decide (n < c)) (aE True .none) (aE ((n = l.length ∧ n = r.length ∧ 2 ≤ n ∧ n ≤ 200) ∧ 1 ≤ c ∧ c ≤ n) (.tup [.bits (((l ++ r).drop c.toNat).take (c + n - c).toNat), .sgn (l.getD (c - 1).toNat false), .sgn ((((l ++ r).drop c.toNat).take (c + n - c).toNat).getD 0 false ^^ l.getD 0 false)]))) (sel "shrd" (aB fun l => aB fun r => aI fun c => aI fun n => br (decide (n < c)) (aE True .none) (aE ((n = l.length ∧ n = r.length ∧ 2 ≤ n ∧ n ≤ 200) ∧ 1 ≤ c ∧ c ≤ n) (.tup [.bits (((r ++ l).drop (n - c).toNat).take (n + n - c - (n - c)).toNat), .sgn (l.getD (n - c).toNat false), .sgn ((((r ++ l).drop (n - c).toNat).take (n + n - c - (n - c)).toNat).getD 0 false ^^ l.getD 0 false)]))) (no) y) y⟩
theorem k_double_shifted : EntOk e_double_shifted := .of f_double_shifted (Ok.aS fun y => Ok.sel (Ok.aB fun l => Ok.aB fun r => Ok.aI fun c => Ok.aI fun n => Ok.br (fun e => Ok.aE d_double_shifted T_dbl rfl rfl fun _ => q_shldN (of_decide_eq_true e)) (fun _ => Ok.aE d_double_shifted T_dbl rfl rfl q_shld)) (Ok.sel (Ok.aB fun l => Ok.aB fun r => Ok.aI fun c => Ok.aI fun n => Ok.br (fun e => Ok.aE d_double_shifted T_dbl rfl rfl fun _ => q_shrdN (of_decide_eq_true e)) (fun _ => Ok.aE d_double_shifted T_dbl rfl rfl q_shrd)) (Ok.no)))
noncomputable def e_product : Ent := ⟨"product", 159, 10, aI fun x => aI fun y => aI fun n => aZ fun z => brz z (aE (1 ≤ n ∧ n ≤ 200) (.tup [.int (sgn x n * sgn y n % 2 ^ n.toNat), .int (sgn x n * sgn y n / 2 ^ n.toNat % 2 ^ n.toNat), .int (if -(2 ^ (n - 1).toNat) ≤ sgn x n * sgn y n ∧ sgn x n * sgn y n < 2 ^ (n - 1).toNat then 0 else 1)])) (aE ((1 ≤ n ∧ n ≤ 200) ∧ Builtin.Int.intBits x ≤ 1000 ∧ Builtin.Int.intBits y ≤ 1000) (.tup [.int (x * y % 2 ^ n.toNat), .int (x * y / 2 ^ n.toNat % 2 ^ n.toNat), .int (if x * y / 2 ^ n.toNat = 0 then 0 else 1)]))⟩
theorem k_product : EntOk e_product := .of f_product (Ok.aI fun x => Ok.aI fun y => Ok.aI fun n => Ok.aZ fun z => Ok.brz (Ok.aE d_product T_pro rfl rfl q_prods) (Ok.aE d_product T_pro rfl rfl q_produ))
noncomputable def e_with_bit : Ent := ⟨"with_bit", 180, 8, aS fun y => sel "bts" (aB fun l => aI fun i => aE (2 ≤ l.length ∧ l.length ≤ 200 ∧ 0 ≤ i ∧ i < l.length) (.bits (l.take ((l.length : Int) - 1 - i).toNat ++ (true) :: l.drop (((l.length : Int) - 1 - i).toNat + 1)))) (sel "btr" (aB fun l => aI fun i => aE (2 ≤ l.length ∧ l.length ≤ 200 ∧ 0 ≤ i ∧ i < l.length) (.bits (l.take ((l.length : Int) - 1 - i).toNat ++ (false) :: l.drop (((l.length : Int) - 1 - i).toNat + 1)))) (sel "btc" (aB fun l => aI fun i => aE (2 ≤ l.length ∧ l.length ≤ 200 ∧ 0 ≤ i ∧ i < l.length) (.bits (l.take ((l.length : Int) - 1 - i).toNat ++ (!l.getD ((l.length : Int) - 1 - i).toNat false) :: l.drop (((l.length : Int) - 1 - i).toNat + 1)))) (no) y) y) y⟩
theorem k_with_bit : EntOk e_with_bit := .of f_with_bit (Ok.aS fun y => Ok.sel (Ok.aB fun l => Ok.aI fun i => Ok.aE d_with_bit (.cons k_bit .nil) rfl rfl fun h => q_bts ⟨⟨rfl, by omega⟩, h.2.2⟩) (Ok.sel (Ok.aB fun l => Ok.aI fun i => Ok.aE d_with_bit (.cons k_bit .nil) rfl rfl fun h => q_btr ⟨⟨rfl, by omega⟩, h.2.2⟩) (Ok.sel (Ok.aB fun l => Ok.aI fun i => Ok.aE d_with_bit (.cons k_bit .nil) rfl rfl fun h => q_btc ⟨⟨rfl, by omega⟩, h.2.2⟩) (Ok.no))))
theorem take_head {l : List Bool} {b : Bool} {n : Int} (h2 : 2 ≤ n) : ((List.replicate (1 : Int).toNat b ++ l).take n.toNat).getD (0 : Int).toNat false = b := by
  obtain ⟨k, hk⟩ : ∃ k, n.toNat = k + 1 := ⟨n.toNat - 1, by omega⟩
  rw [hk]
  rfl
theorem len_cut (l : List Bool) (k : Nat) : (List.drop k l ++ List.take k l).length = l.length := rotl_length l k
theorem f_law_turns_right : Fun "_law_turns_right" 208 := ⟨fun P => by k_is, fun P => by k_is⟩
theorem d_law_turns (P : Params) : DefAt P 208 ["worth", "carry", "size", "counts"] := .four (by kernel_rfl) fun _ _ _ _ => by kernel_rfl
theorem T_turn : AllOk [e_law_signs, e_rotated, e_law_meant, e_rotated_through] := .cons k_law_signs (.cons k_rotated (.cons k_law_meant (.cons k_rotated_through .nil)))
theorem q_turns {l : List Bool} {b : Bool} {n : Int} {cs : List Int} (h : (n = l.length ∧ 2 ≤ n ∧ n ≤ 100) ∧ (0 < cs.length ∧ cs.length ≤ 1000) ∧ cs.getD 0 0 = 1 ∧ ∀ k ∈ cs, 1 ≤ k ∧ k ≤ 100) : Runs 208 ["worth", "carry", "size", "counts"] [e_law_signs, e_rotated, e_law_meant, e_rotated_through] 10 [.bits l, .sgn b, .int n, .ilst cs] (.bool true) := by
  intro P9 ns9 k9
  refine vc_cast (a :=
    (n = (↑l.length : Int) ∧ n ≤ (400 : Int)) ∧
    [b].length + l.length ≤ (5000 : Nat) ∧
    (∀ (x : Int),
    x ∈ cs →
    (0 : Int) < n ∧
    (0 : Int) < n + (1 : Int) ∧
    (0 : Int) ≤ x % n ∧
    ((0 : Int) ≤ x % n ∧ x % n ≤ (↑l.length : Int)) ∧
    (List.drop (x % n).toNat l).length + (List.take (x % n).toNat l).length ≤ (5000 : Nat) ∧
    (0 : Int) ≤ n - x % n ∧
    ((0 : Int) ≤ n - x % n ∧ n - x % n ≤ (↑l.length : Int)) ∧
    (List.drop (n - x % n).toNat l).length + (List.take (n - x % n).toNat l).length ≤ (5000 : Nat) ∧
    ((n = (↑l.length : Int) ∧ (2 : Int) ≤ n ∧ n ≤ (200 : Int)) ∧ (0 : Int) ≤ x) ∧
    True ∧
    (0 : Nat) < (List.drop (x % n).toNat l ++ List.take (x % n).toNat l).length ∧
    Mine.V (Mine.rotl l (x % n).toNat) = Mine.V (List.drop (x % n).toNat l ++ List.take (x % n).toNat l) ∧
    Mine.B ((Mine.rotl l (x % n).toNat).getD ((Mine.rotl l (x % n).toNat).length - (1 : Nat)) Bool.false) =
    Mine.B ((List.drop (x % n).toNat l ++ List.take (x % n).toNat l).getD ((List.drop (x % n).toNat l ++ List.take (x % n).toNat l).length - (1 : Nat)) Bool.false) ∧
    (Decidable.decide (x = (1 : Int)) = Bool.true →
    ((0 : Int) ≤ (0 : Int) ∧ (0 : Int) < (↑(List.drop (x % n).toNat l ++ List.take (x % n).toNat l).length : Int)) ∧
    ((0 : Int) ≤ (0 : Int) ∧ (0 : Int) < (↑l.length : Int)) ∧
    Mine.B
    ((Mine.rotl l (x % n).toNat).getD (0 : Nat) Bool.false ^^
    (Mine.rotl l (x % n).toNat).getD ((Mine.rotl l (x % n).toNat).length - (1 : Nat)) Bool.false) =
    Mine.B ((List.drop (x % n).toNat l ++ List.take (x % n).toNat l).getD (Int.toNat (0 : Int)) Bool.false ^^ l.getD (Int.toNat (0 : Int)) Bool.false) ∧
    k9 = k9) ∧
    ((n = (↑l.length : Int) ∧ (2 : Int) ≤ n ∧ n ≤ (200 : Int)) ∧ (0 : Int) ≤ x) ∧
    True ∧
    ((0 : Int) ≤ (0 : Int) ∧ (0 : Int) < (↑(List.drop (n - x % n).toNat l ++ List.take (n - x % n).toNat l).length : Int)) ∧
    Mine.V (Mine.rotl l (n - x % n).toNat) = Mine.V (List.drop (n - x % n).toNat l ++ List.take (n - x % n).toNat l) ∧
    Mine.B ((Mine.rotl l (n - x % n).toNat).getD (0 : Nat) Bool.false) =
    Mine.B ((List.drop (n - x % n).toNat l ++ List.take (n - x % n).toNat l).getD (Int.toNat (0 : Int)) Bool.false) ∧
    (Decidable.decide (x = (1 : Int)) = Bool.true →
    ((0 : Int) ≤ (0 : Int) ∧ (0 : Int) < (↑(List.drop (n - x % n).toNat l ++ List.take (n - x % n).toNat l).length : Int)) ∧
    ((0 : Int) ≤ (0 : Int) ∧ (0 : Int) < (↑l.length : Int)) ∧
    Mine.B ((Mine.rotl l (n - x % n).toNat).getD (0 : Nat) Bool.false ^^ (Mine.rotl l (n - x % n).toNat).getD (1 : Nat) Bool.false) =
    Mine.B
    ((List.drop (n - x % n).toNat l ++ List.take (n - x % n).toNat l).getD (Int.toNat (0 : Int)) Bool.false ^^
    l.getD (Int.toNat (0 : Int)) Bool.false) ∧
    k9 = k9) ∧
    (0 : Int) ≤ x % (n + (1 : Int)) ∧
    ((0 : Int) ≤ x % (n + (1 : Int)) ∧ x % (n + (1 : Int)) ≤ (↑([b] ++ l).length : Int)) ∧
    (List.drop (x % (n + (1 : Int))).toNat ([b] ++ l)).length + (List.take (x % (n + (1 : Int))).toNat ([b] ++ l)).length ≤ (5000 : Nat) ∧
    (0 : Int) ≤ n + (1 : Int) - x % (n + (1 : Int)) ∧
    ((0 : Int) ≤ n + (1 : Int) - x % (n + (1 : Int)) ∧ n + (1 : Int) - x % (n + (1 : Int)) ≤ (↑([b] ++ l).length : Int)) ∧
    (List.drop (n + (1 : Int) - x % (n + (1 : Int))).toNat ([b] ++ l)).length +
    (List.take (n + (1 : Int) - x % (n + (1 : Int))).toNat ([b] ++ l)).length ≤
    (5000 : Nat) ∧
    ((n = (↑l.length : Int) ∧ (2 : Int) ≤ n ∧ n ≤ (200 : Int)) ∧ (0 : Int) ≤ x) ∧
    (0 : Int) ≤ (1 : Int) ∧
    True ∧
    ((0 : Int) ≤ (0 : Int) ∧
    (0 : Int) <
    (↑(List.drop (x % (n + (1 : Int))).toNat ([b] ++ l) ++ List.take (x % (n + (1 : Int))).toNat ([b] ++ l)).length : Int)) ∧
    Mine.V (List.drop (1 : Nat) (Mine.rotl (b :: l) (x % (n + (1 : Int))).toNat)) =
    Mine.V
    (List.drop (Int.toNat (1 : Int))
    (List.drop (x % (n + (1 : Int))).toNat ([b] ++ l) ++ List.take (x % (n + (1 : Int))).toNat ([b] ++ l))) ∧
    Mine.B ((Mine.rotl (b :: l) (x % (n + (1 : Int))).toNat).getD (0 : Nat) Bool.false) =
    Mine.B
    ((List.drop (x % (n + (1 : Int))).toNat ([b] ++ l) ++ List.take (x % (n + (1 : Int))).toNat ([b] ++ l)).getD
    (Int.toNat (0 : Int)) Bool.false) ∧
    (Decidable.decide (x = (1 : Int)) = Bool.true →
    ((0 : Int) ≤ (1 : Int) ∧
    (1 : Int) <
    (↑(List.drop (x % (n + (1 : Int))).toNat ([b] ++ l) ++ List.take (x % (n + (1 : Int))).toNat ([b] ++ l)).length :
    Int)) ∧
    ((0 : Int) ≤ (0 : Int) ∧ (0 : Int) < (↑l.length : Int)) ∧
    Mine.B
    ((Mine.rotl (b :: l) (x % (n + (1 : Int))).toNat).getD (1 : Nat) Bool.false ^^
    (Mine.rotl (b :: l) (x % (n + (1 : Int))).toNat).getD (0 : Nat) Bool.false) =
    Mine.B
    ((List.drop (x % (n + (1 : Int))).toNat ([b] ++ l) ++ List.take (x % (n + (1 : Int))).toNat ([b] ++ l)).getD
    (Int.toNat (1 : Int)) Bool.false ^^
    l.getD (Int.toNat (0 : Int)) Bool.false) ∧
    k9 = k9) ∧
    ((n = (↑(List.drop (1 : Nat) (Mine.rotl (b :: l) (x % (n + (1 : Int))).toNat)).length : Int) ∧
    (2 : Int) ≤ n ∧ n ≤ (200 : Int)) ∧
    (0 : Int) ≤ x) ∧
    Mine.V
    (List.drop (1 : Nat)
    (Mine.rotl
    ((Mine.rotl (b :: l) (x % (n + (1 : Int))).toNat).getD (0 : Nat) Bool.false ::
    List.drop (1 : Nat) (Mine.rotl (b :: l) (x % (n + (1 : Int))).toNat))
    (n + (1 : Int) - x % (n + (1 : Int))).toNat)) =
    Mine.V l ∧
    Mine.B
    ((Mine.rotl
    ((Mine.rotl (b :: l) (x % (n + (1 : Int))).toNat).getD (0 : Nat) Bool.false ::
    List.drop (1 : Nat) (Mine.rotl (b :: l) (x % (n + (1 : Int))).toNat))
    (n + (1 : Int) - x % (n + (1 : Int))).toNat).getD
    (0 : Nat) Bool.false) =
    Mine.B b ∧
    ((n = (↑l.length : Int) ∧ (2 : Int) ≤ n ∧ n ≤ (200 : Int)) ∧ (0 : Int) ≤ x) ∧
    (0 : Int) ≤ (1 : Int) ∧
    True ∧
    ((0 : Int) ≤ (0 : Int) ∧
    (0 : Int) <
    (↑(List.drop (n + (1 : Int) - x % (n + (1 : Int))).toNat ([b] ++ l) ++
    List.take (n + (1 : Int) - x % (n + (1 : Int))).toNat ([b] ++ l)).length :
    Int)) ∧
    Mine.V (List.drop (1 : Nat) (Mine.rotl (b :: l) (n + (1 : Int) - x % (n + (1 : Int))).toNat)) =
    Mine.V
    (List.drop (Int.toNat (1 : Int))
    (List.drop (n + (1 : Int) - x % (n + (1 : Int))).toNat ([b] ++ l) ++
    List.take (n + (1 : Int) - x % (n + (1 : Int))).toNat ([b] ++ l))) ∧
    Mine.B ((Mine.rotl (b :: l) (n + (1 : Int) - x % (n + (1 : Int))).toNat).getD (0 : Nat) Bool.false) =
    Mine.B
    ((List.drop (n + (1 : Int) - x % (n + (1 : Int))).toNat ([b] ++ l) ++
    List.take (n + (1 : Int) - x % (n + (1 : Int))).toNat ([b] ++ l)).getD
    (Int.toNat (0 : Int)) Bool.false) ∧
    (Decidable.decide (x = (1 : Int)) = Bool.true →
    ((0 : Int) ≤ (1 : Int) ∧
    (1 : Int) <
    (↑(List.drop (n + (1 : Int) - x % (n + (1 : Int))).toNat ([b] ++ l) ++
    List.take (n + (1 : Int) - x % (n + (1 : Int))).toNat ([b] ++ l)).length :
    Int)) ∧
    ((0 : Int) ≤ (0 : Int) ∧ (0 : Int) < (↑l.length : Int)) ∧
    Mine.B (l.getD (0 : Nat) Bool.false ^^ b) =
    Mine.B
    ((List.drop (n + (1 : Int) - x % (n + (1 : Int))).toNat ([b] ++ l) ++
    List.take (n + (1 : Int) - x % (n + (1 : Int))).toNat ([b] ++ l)).getD
    (Int.toNat (1 : Int)) Bool.false ^^
    l.getD (Int.toNat (0 : Int)) Bool.false) ∧
    k9 = k9) ∧
    ((n = (↑l.length : Int) ∧ (2 : Int) ≤ n ∧ n ≤ (200 : Int)) ∧ (0 : Int) ≤ x) ∧
    ((0 : Int) ≤ (0 : Int) ∧ (0 : Int) < (↑cs.length : Int) ∧ cs.length ≤ (1000 : Nat)) ∧
    ((n = (↑(Mine.rotl l (x % n).toNat).length : Int) ∧ (2 : Int) ≤ n ∧ n ≤ (200 : Int)) ∧
    (0 : Int) ≤ cs.getD (Int.toNat (0 : Int)) (0 : Int) + (2 : Int)) ∧
    ((0 : Int) ≤ (0 : Int) ∧ (0 : Int) < (↑cs.length : Int) ∧ cs.length ≤ (1000 : Nat)) ∧
    ((n = (↑l.length : Int) ∧ (2 : Int) ≤ n ∧ n ≤ (200 : Int)) ∧
    (0 : Int) ≤ x + cs.getD (Int.toNat (0 : Int)) (0 : Int) + (2 : Int)) ∧
    Mine.V
    (Mine.rotl (Mine.rotl l (x % n).toNat)
    ((cs.getD (Int.toNat (0 : Int)) (0 : Int) + (2 : Int)) % n).toNat) =
    Mine.V
    (Mine.rotl l ((x + cs.getD (Int.toNat (0 : Int)) (0 : Int) + (2 : Int)) % n).toNat) ∧
    ((0 : Int) ≤ (0 : Int) ∧ (0 : Int) < (↑cs.length : Int) ∧ cs.length ≤ (1000 : Nat)) ∧
    ((n =
    (↑(Mine.rotl (Mine.rotl l (x % n).toNat)
    ((cs.getD (Int.toNat (0 : Int)) (0 : Int) + (2 : Int)) %
    n).toNat).length :
    Int) ∧
    (2 : Int) ≤ n ∧ n ≤ (200 : Int)) ∧
    (0 : Int) ≤ x + cs.getD (Int.toNat (0 : Int)) (0 : Int) + (2 : Int)) ∧
    Mine.V
    (Mine.rotl
    (Mine.rotl (Mine.rotl l (x % n).toNat)
    ((cs.getD (Int.toNat (0 : Int)) (0 : Int) + (2 : Int)) % n).toNat)
    (n - (x + cs.getD (Int.toNat (0 : Int)) (0 : Int) + (2 : Int)) % n).toNat) =
    Mine.V l ∧
    (Mine.PV.txt ([b] ++ l) = Mine.PV.txt ([b] ++ l) ∧
    Mine.PV.txt l = Mine.PV.txt l ∧
    Mine.PV.ilst cs = Mine.PV.ilst cs ∧
    n = n ∧ Mine.B b = Mine.B b ∧ Mine.V l = Mine.V l ∧ True) ∧
    k9 = k9) ∧
    Mine.PV.bool Bool.true = Mine.PV.bool Bool.true ∧ k9 = k9) (by kernel_rfl) ?_
  obtain ⟨⟨hn, h2, h3⟩, ⟨hc0, hc1⟩, hc, hv⟩ := h
  have hcl : 0 ≤ (0 : Int) ∧ 0 < (cs.length : Int) ∧ cs.length ≤ 1000 := ⟨Int.le_refl _, by omega, hc1⟩
  have hc : cs.getD (Int.toNat 0) 0 = 1 := hc
  rw [hc]
  have hl0 : 0 ≤ (0 : Int) ∧ 0 < (l.length : Int) := by omega
  have sm : ∀ (r : List Bool) (k : Nat), r.length ≤ 5000 → (List.drop k r).length + (List.take k r).length ≤ 5000 := fun r k h => by rw [← List.length_append, len_cut]; exact h
  have ps : ∀ (r : List Bool) (k : Nat), 2 ≤ r.length → 1 < ((List.drop k r ++ List.take k r).length : Int) := fun r k h => by rw [len_cut]; omega
  have hl2 : 2 ≤ l.length := by omega
  have hr2 : 2 ≤ ([b] ++ l).length := by show 2 ≤ l.length + 1; omega
  have hr5 : ([b] ++ l).length ≤ 5000 := by show l.length + 1 ≤ 5000; omega
  have hrn : (([b] ++ l).length : Int) = n + 1 := by show ((l.length + 1 : Nat) : Int) = n + 1; omega
  have g : n = (l.length : Int) ∧ 2 ≤ n ∧ n ≤ 200 := ⟨hn, h2, by omega⟩
  have h0 : 0 < n := by omega
  have h01 : 0 < n + 1 := by omega
  refine ⟨⟨hn, by omega⟩, by show 1 + l.length ≤ 5000; omega, fun x hx => ?_, rfl, rfl⟩
  obtain ⟨hk1, hk2⟩ := hv x hx
  have gx : (n = (l.length : Int) ∧ 2 ≤ n ∧ n ≤ 200) ∧ 0 ≤ x := ⟨g, by omega⟩
  have em0 := Int.emod_nonneg x (Int.ne_of_gt h0)
  have em1 := Int.emod_lt_of_pos x h0
  have ew0 := Int.emod_nonneg x (Int.ne_of_gt h01)
  have ew1 := Int.emod_lt_of_pos x h01
  have b1 : 0 ≤ x % n ∧ x % n ≤ (l.length : Int) := ⟨em0, by omega⟩
  have b2 : 0 ≤ n - x % n ∧ n - x % n ≤ (l.length : Int) := by omega
  have b3 : 0 ≤ x % (n + 1) ∧ x % (n + 1) ≤ (([b] ++ l).length : Int) := ⟨ew0, by omega⟩
  have b4 : 0 ≤ n + 1 - x % (n + 1) ∧ n + 1 - x % (n + 1) ≤ (([b] ++ l).length : Int) := by omega
  have q0 : ∀ {z : Int}, 1 < z → 0 ≤ (0 : Int) ∧ 0 < z := fun h => by omega
  have hr0 : 0 < (rotl (b :: l) (x % (n + 1)).toNat).length := by rw [rotl_length]; exact Nat.succ_pos _
  have hn1 : n + 1 = (b :: l).length := hrn.symm
  have hb := turn_back hn1 (by omega) hk1
  have gr : n = ((List.drop 1 (rotl (b :: l) (x % (n + 1)).toNat)).length : Int) ∧ 2 ≤ n ∧ n ≤ 200 := ⟨by rw [List.length_drop, rotl_length, List.length_cons]; omega, g.2⟩
  have hm0 := turn_more hn h2 hk1 (d := 1 + 2) (by decide)
  have e12 : x + (1 + 2) = x + 1 + 2 := by omega
  rw [e12] at hm0
  refine ⟨h0, h01, em0, b1, sm l _ (by omega), b2.1, b2, sm l _ (by omega), gx, trivial, Int.ofNat_lt.mp (q0 (ps l _ hl2)).2, rfl, rfl, fun e => ⟨q0 (ps l _ hl2), hl0, ?_, rfl⟩,
    gx, trivial, q0 (ps l _ hl2), rfl, rfl, fun e => ⟨q0 (ps l _ hl2), hl0, ?_, rfl⟩, ew0, b3, sm _ _ hr5, b4.1, b4, sm _ _ hr5, gx, by decide, trivial, q0 (ps _ _ hr2), rfl, rfl,
    fun e => ⟨⟨by decide, ps _ _ hr2⟩, hl0, ?_, rfl⟩, ⟨gr, gx.2⟩, by rw [tl_cons hr0, hb]; rfl, by rw [tl_cons hr0, hb]; rfl, gx, by decide, trivial, q0 (ps _ _ hr2), rfl, rfl, fun e => ⟨⟨by decide, ps _ _ hr2⟩, hl0, ?_, rfl⟩,
    gx, hcl, ⟨⟨by rw [rotl_length]; exact hn, g.2⟩, by decide⟩, hcl, ⟨g, by omega⟩, by rw [hm0], hcl, ⟨⟨by rw [rotl_length, rotl_length]; exact hn, g.2⟩, by omega⟩, by rw [hm0, turn_back hn h2 (by omega)], ⟨rfl, rfl, rfl, rfl, rfl, rfl, trivial⟩, rfl⟩
  · obtain rfl := of_decide_eq_true e
    rw [rol_one hn h2]; rfl
  · obtain rfl := of_decide_eq_true e
    rw [ror_one hn h2]; rfl
  · obtain rfl := of_decide_eq_true e
    rw [rcl_one hn h2]; rfl
  · obtain rfl := of_decide_eq_true e
    have e := rcr_one (b := b) hn h2
    show _ = B ((rotl (b :: l) (n + 1 - 1 % (n + 1)).toNat).getD 1 false ^^ l.getD 0 false)
    rw [e, Bool.xor_comm]
theorem f_law_shifts_right : Fun "_law_shifts_right" 215 := ⟨fun P => by k_is, fun P => by k_is⟩
theorem d_law_shifts (P : Params) : DefAt P 215 ["worth", "other", "size", "counts"] := .four (by kernel_rfl) fun _ _ _ _ => by kernel_rfl
theorem q_shifts {l r : List Bool} {n : Int} {cs : List Int} (h : (n = l.length ∧ n = r.length ∧ 2 ≤ n ∧ n ≤ 100) ∧ ∀ k ∈ cs, 1 ≤ k ∧ k ≤ 100) : Runs 215 ["worth", "other", "size", "counts"] [e_law_signs, e_shifted, e_law_meant, e_double_shifted] 10 [.bits l, .bits r, .int n, .ilst cs] (.bool true) := by
  intro P9 ns9 k9
  refine vc_cast (a :=
    (n = (↑l.length : Int) ∧ n ≤ (400 : Int)) ∧
    (n = (↑r.length : Int) ∧ n ≤ (400 : Int)) ∧
    (∀ (x : Int),
    x ∈ cs →
    ((0 : Int) ≤ (0 : Int) ∧ (0 : Int) < (↑l.length : Int)) ∧
    ((0 : Int) ≤ x ∧ x ≤ (5000 : Int)) ∧
    (List.replicate x.toNat (l.getD (Int.toNat (0 : Int)) Bool.false)).length + l.length ≤ (5000 : Nat) ∧
    ((0 : Int) ≤ x ∧ x ≤ (5000 : Int)) ∧
    l.length + (List.replicate x.toNat Bool.false).length ≤ (5000 : Nat) ∧
    (0 : Int) ≤ x ∧
    ∃ (z : Bool),
    ((Decidable.decide (x < n) = Bool.true →
    ((0 : Int) ≤ x - (1 : Int) ∧ x - (1 : Int) < (↑l.length : Int)) ∧ Mine.PV.txt [l.getD (x - (1 : Int)).toNat Bool.false] = Mine.PV.txt [z] ∧ k9 = k9) ∧
    (Decidable.decide (x < n) = Bool.false → Mine.PV.txt [Bool.false] = Mine.PV.txt [z] ∧ k9 = k9)) ∧
    ((0 : Int) ≤ x ∧ x ≤ (5000 : Int)) ∧
    (List.replicate x.toNat Bool.false).length + l.length ≤ (5000 : Nat) ∧
    ((0 : Int) ≤ n ∧ n ≤ (↑(List.replicate x.toNat Bool.false ++ l).length : Int)) ∧
    ∃ (z_1 : Bool),
    ((Decidable.decide (x < n) = Bool.true →
    ((0 : Int) ≤ n - x ∧ n - x < (↑l.length : Int)) ∧ Mine.PV.txt [l.getD (n - x).toNat Bool.false] = Mine.PV.txt [z_1] ∧ k9 = k9) ∧
    (Decidable.decide (x < n) = Bool.false → Mine.PV.txt [Bool.false] = Mine.PV.txt [z_1] ∧ k9 = k9)) ∧
    ((0 : Int) ≤ n ∧ n ≤ (↑(List.replicate x.toNat (l.getD (Int.toNat (0 : Int)) Bool.false) ++ l).length : Int)) ∧
    ((0 : Int) ≤ n ∧ n < (↑(List.replicate x.toNat (l.getD (Int.toNat (0 : Int)) Bool.false) ++ l).length : Int)) ∧
    ((((n = (↑l.length : Int) ∧ (2 : Int) ≤ n ∧ n ≤ (200 : Int)) ∧ (1 : Int) ≤ x ∧ x ≤ (200 : Int)) ∧
    True ∧
    Mine.V (List.drop x.toNat (l ++ List.replicate x.toNat Bool.false)) = Mine.V (List.drop x.toNat (l ++ List.replicate x.toNat Bool.false)) ∧
    Mine.B (if x < n then l.getD (x - (1 : Int)).toNat Bool.false else Bool.false) = Mine.B z ∧
    (Decidable.decide (x = (1 : Int)) = Bool.true →
    ((0 : Int) ≤ (0 : Int) ∧ (0 : Int) < (↑(List.drop x.toNat (l ++ List.replicate x.toNat Bool.false)).length : Int)) ∧
    ((0 : Int) ≤ (0 : Int) ∧ (0 : Int) < (↑l.length : Int)) ∧
    Mine.B
    ((List.drop x.toNat (l ++ List.replicate x.toNat Bool.false)).getD (0 : Nat) Bool.false ^^
    if x < n then l.getD (x - (1 : Int)).toNat Bool.false else Bool.false) =
    Mine.B
    ((List.drop x.toNat (l ++ List.replicate x.toNat Bool.false)).getD (Int.toNat (0 : Int)) Bool.false ^^
    l.getD (Int.toNat (0 : Int)) Bool.false) ∧
    k9 = k9) ∧
    (Mine.PV.lst
    [Mine.PV.tup
    [Mine.PV.str (PySem.Str.ofString "shl"), Mine.PV.txt (List.drop x.toNat (l ++ List.replicate x.toNat Bool.false)), Mine.PV.txt [z]],
    Mine.PV.tup
    [Mine.PV.str (PySem.Str.ofString "shr"), Mine.PV.txt (List.take n.toNat (List.replicate x.toNat Bool.false ++ l)), Mine.PV.txt [z_1]],
    Mine.PV.tup
    [Mine.PV.str (PySem.Str.ofString "sar"),
    Mine.PV.txt (List.take n.toNat (List.replicate x.toNat (l.getD (Int.toNat (0 : Int)) Bool.false) ++ l)),
    Mine.PV.txt [(List.replicate x.toNat (l.getD (Int.toNat (0 : Int)) Bool.false) ++ l).getD n.toNat Bool.false]]] =
    Mine.PV.lst
    [Mine.PV.tup
    [Mine.PV.str (PySem.Str.ofString "shl"), Mine.PV.txt (List.drop x.toNat (l ++ List.replicate x.toNat Bool.false)), Mine.PV.txt [z]],
    Mine.PV.tup
    [Mine.PV.str (PySem.Str.ofString "shr"), Mine.PV.txt (List.take n.toNat (List.replicate x.toNat Bool.false ++ l)), Mine.PV.txt [z_1]],
    Mine.PV.tup
    [Mine.PV.str (PySem.Str.ofString "sar"),
    Mine.PV.txt (List.take n.toNat (List.replicate x.toNat (l.getD (Int.toNat (0 : Int)) Bool.false) ++ l)),
    Mine.PV.txt [(List.replicate x.toNat (l.getD (Int.toNat (0 : Int)) Bool.false) ++ l).getD n.toNat Bool.false]]] ∧
    Mine.PV.txt (List.replicate x.toNat (l.getD (Int.toNat (0 : Int)) Bool.false) ++ l) =
    Mine.PV.txt (List.replicate x.toNat (l.getD (Int.toNat (0 : Int)) Bool.false) ++ l) ∧
    x = x ∧
    Mine.PV.txt l = Mine.PV.txt l ∧
    Mine.PV.txt r = Mine.PV.txt r ∧ Mine.PV.ilst cs = Mine.PV.ilst cs ∧ n = n ∧ Mine.V r = Mine.V r ∧ Mine.V l = Mine.V l ∧ True) ∧
    k9 = k9) ∧
    (((n = (↑l.length : Int) ∧ (2 : Int) ≤ n ∧ n ≤ (200 : Int)) ∧ (1 : Int) ≤ x ∧ x ≤ (200 : Int)) ∧
    True ∧
    Mine.V (List.take n.toNat (List.replicate x.toNat Bool.false ++ l)) = Mine.V (List.take n.toNat (List.replicate x.toNat Bool.false ++ l)) ∧
    Mine.B (if x < n then l.getD (n - x).toNat Bool.false else Bool.false) = Mine.B z_1 ∧
    (Decidable.decide (x = (1 : Int)) = Bool.true →
    ((0 : Int) ≤ (0 : Int) ∧ (0 : Int) < (↑(List.take n.toNat (List.replicate x.toNat Bool.false ++ l)).length : Int)) ∧
    ((0 : Int) ≤ (0 : Int) ∧ (0 : Int) < (↑l.length : Int)) ∧
    Mine.B (l.getD (0 : Nat) Bool.false) =
    Mine.B
    ((List.take n.toNat (List.replicate x.toNat Bool.false ++ l)).getD (Int.toNat (0 : Int)) Bool.false ^^
    l.getD (Int.toNat (0 : Int)) Bool.false) ∧
    k9 = k9) ∧
    (Mine.PV.lst
    [Mine.PV.tup
    [Mine.PV.str (PySem.Str.ofString "shl"), Mine.PV.txt (List.drop x.toNat (l ++ List.replicate x.toNat Bool.false)), Mine.PV.txt [z]],
    Mine.PV.tup
    [Mine.PV.str (PySem.Str.ofString "shr"), Mine.PV.txt (List.take n.toNat (List.replicate x.toNat Bool.false ++ l)),
    Mine.PV.txt [z_1]],
    Mine.PV.tup
    [Mine.PV.str (PySem.Str.ofString "sar"),
    Mine.PV.txt (List.take n.toNat (List.replicate x.toNat (l.getD (Int.toNat (0 : Int)) Bool.false) ++ l)),
    Mine.PV.txt [(List.replicate x.toNat (l.getD (Int.toNat (0 : Int)) Bool.false) ++ l).getD n.toNat Bool.false]]] =
    Mine.PV.lst
    [Mine.PV.tup
    [Mine.PV.str (PySem.Str.ofString "shl"), Mine.PV.txt (List.drop x.toNat (l ++ List.replicate x.toNat Bool.false)), Mine.PV.txt [z]],
    Mine.PV.tup
    [Mine.PV.str (PySem.Str.ofString "shr"), Mine.PV.txt (List.take n.toNat (List.replicate x.toNat Bool.false ++ l)),
    Mine.PV.txt [z_1]],
    Mine.PV.tup
    [Mine.PV.str (PySem.Str.ofString "sar"),
    Mine.PV.txt (List.take n.toNat (List.replicate x.toNat (l.getD (Int.toNat (0 : Int)) Bool.false) ++ l)),
    Mine.PV.txt [(List.replicate x.toNat (l.getD (Int.toNat (0 : Int)) Bool.false) ++ l).getD n.toNat Bool.false]]] ∧
    Mine.PV.txt (List.replicate x.toNat (l.getD (Int.toNat (0 : Int)) Bool.false) ++ l) =
    Mine.PV.txt (List.replicate x.toNat (l.getD (Int.toNat (0 : Int)) Bool.false) ++ l) ∧
    x = x ∧
    Mine.PV.txt l = Mine.PV.txt l ∧
    Mine.PV.txt r = Mine.PV.txt r ∧ Mine.PV.ilst cs = Mine.PV.ilst cs ∧ n = n ∧ Mine.V r = Mine.V r ∧ Mine.V l = Mine.V l ∧ True) ∧
    k9 = k9) ∧
    (((n = (↑l.length : Int) ∧ (2 : Int) ≤ n ∧ n ≤ (200 : Int)) ∧ (1 : Int) ≤ x ∧ x ≤ (200 : Int)) ∧
    True ∧
    Mine.V (List.take n.toNat (List.replicate x.toNat (l.getD (0 : Nat) Bool.false) ++ l)) =
    Mine.V (List.take n.toNat (List.replicate x.toNat (l.getD (Int.toNat (0 : Int)) Bool.false) ++ l)) ∧
    Mine.B ((List.replicate x.toNat (l.getD (0 : Nat) Bool.false) ++ l).getD n.toNat Bool.false) =
    Mine.B ((List.replicate x.toNat (l.getD (Int.toNat (0 : Int)) Bool.false) ++ l).getD n.toNat Bool.false) ∧
    (Decidable.decide (x = (1 : Int)) = Bool.true →
    ((0 : Int) ≤ (0 : Int) ∧
    (0 : Int) < (↑(List.take n.toNat (List.replicate x.toNat (l.getD (Int.toNat (0 : Int)) Bool.false) ++ l)).length : Int)) ∧
    ((0 : Int) ≤ (0 : Int) ∧ (0 : Int) < (↑l.length : Int)) ∧
    (0 : Int) =
    Mine.B
    ((List.take n.toNat (List.replicate x.toNat (l.getD (Int.toNat (0 : Int)) Bool.false) ++ l)).getD (Int.toNat (0 : Int))
    Bool.false ^^
    l.getD (Int.toNat (0 : Int)) Bool.false) ∧
    k9 = k9) ∧
    (Mine.PV.lst
    [Mine.PV.tup
    [Mine.PV.str (PySem.Str.ofString "shl"), Mine.PV.txt (List.drop x.toNat (l ++ List.replicate x.toNat Bool.false)),
    Mine.PV.txt [z]],
    Mine.PV.tup
    [Mine.PV.str (PySem.Str.ofString "shr"), Mine.PV.txt (List.take n.toNat (List.replicate x.toNat Bool.false ++ l)),
    Mine.PV.txt [z_1]],
    Mine.PV.tup
    [Mine.PV.str (PySem.Str.ofString "sar"),
    Mine.PV.txt (List.take n.toNat (List.replicate x.toNat (l.getD (Int.toNat (0 : Int)) Bool.false) ++ l)),
    Mine.PV.txt [(List.replicate x.toNat (l.getD (Int.toNat (0 : Int)) Bool.false) ++ l).getD n.toNat Bool.false]]] =
    Mine.PV.lst
    [Mine.PV.tup
    [Mine.PV.str (PySem.Str.ofString "shl"), Mine.PV.txt (List.drop x.toNat (l ++ List.replicate x.toNat Bool.false)),
    Mine.PV.txt [z]],
    Mine.PV.tup
    [Mine.PV.str (PySem.Str.ofString "shr"), Mine.PV.txt (List.take n.toNat (List.replicate x.toNat Bool.false ++ l)),
    Mine.PV.txt [z_1]],
    Mine.PV.tup
    [Mine.PV.str (PySem.Str.ofString "sar"),
    Mine.PV.txt (List.take n.toNat (List.replicate x.toNat (l.getD (Int.toNat (0 : Int)) Bool.false) ++ l)),
    Mine.PV.txt [(List.replicate x.toNat (l.getD (Int.toNat (0 : Int)) Bool.false) ++ l).getD n.toNat Bool.false]]] ∧
    Mine.PV.txt (List.replicate x.toNat (l.getD (Int.toNat (0 : Int)) Bool.false) ++ l) =
    Mine.PV.txt (List.replicate x.toNat (l.getD (Int.toNat (0 : Int)) Bool.false) ++ l) ∧
    x = x ∧
    Mine.PV.txt l = Mine.PV.txt l ∧
    Mine.PV.txt r = Mine.PV.txt r ∧ Mine.PV.ilst cs = Mine.PV.ilst cs ∧ n = n ∧ Mine.V r = Mine.V r ∧ Mine.V l = Mine.V l ∧ True) ∧
    k9 = k9) ∧
    True) ∧
    Mine.Br (Decidable.decide (n < x))
    (True ∧
    Mine.Br (Decidable.decide (n < x))
    (True ∧
    Mine.Br (Decidable.decide (n < x))
    ((Mine.PV.txt l = Mine.PV.txt l ∧
    Mine.PV.txt r = Mine.PV.txt r ∧ Mine.PV.ilst cs = Mine.PV.ilst cs ∧ n = n ∧ Mine.V r = Mine.V r ∧ Mine.V l = Mine.V l ∧ True) ∧
    k9 = k9)
    (l.length + r.length ≤ (5000 : Nat) ∧
    ((0 : Int) ≤ x ∧ x ≤ x + n ∧ x + n ≤ (↑(l ++ r).length : Int)) ∧
    r.length + l.length ≤ (5000 : Nat) ∧
    ((0 : Int) ≤ n - x ∧ n - x ≤ n + n - x ∧ n + n - x ≤ (↑(r ++ l).length : Int)) ∧
    True ∧
    ((0 : Int) ≤ x - (1 : Int) ∧ x - (1 : Int) < (↑l.length : Int)) ∧
    ((0 : Int) ≤ (0 : Int) ∧ (0 : Int) < (↑(List.take (x + n - x).toNat (List.drop x.toNat (l ++ r))).length : Int)) ∧
    ((0 : Int) ≤ (0 : Int) ∧ (0 : Int) < (↑l.length : Int)) ∧ False))
    (((n = (↑l.length : Int) ∧ n = (↑r.length : Int) ∧ (2 : Int) ≤ n ∧ n ≤ (200 : Int)) ∧ (1 : Int) ≤ x ∧ x ≤ n) ∧
    Mine.Br (Decidable.decide (n < x)) False
    (l.length + r.length ≤ (5000 : Nat) ∧
    ((0 : Int) ≤ x ∧ x ≤ x + n ∧ x + n ≤ (↑(l ++ r).length : Int)) ∧
    r.length + l.length ≤ (5000 : Nat) ∧
    ((0 : Int) ≤ n - x ∧ n - x ≤ n + n - x ∧ n + n - x ≤ (↑(r ++ l).length : Int)) ∧
    True ∧
    ((0 : Int) ≤ x - (1 : Int) ∧ x - (1 : Int) < (↑l.length : Int)) ∧
    ((0 : Int) ≤ (0 : Int) ∧ (0 : Int) < (↑(List.take (x + n - x).toNat (List.drop x.toNat (l ++ r))).length : Int)) ∧
    ((0 : Int) ≤ (0 : Int) ∧ (0 : Int) < (↑l.length : Int)) ∧ False)))
    (((n = (↑l.length : Int) ∧ n = (↑r.length : Int) ∧ (2 : Int) ≤ n ∧ n ≤ (200 : Int)) ∧ (1 : Int) ≤ x ∧ x ≤ n) ∧
    Mine.Br (Decidable.decide (n < x))
    (True ∧
    Mine.Br (Decidable.decide (n < x)) False
    (l.length + r.length ≤ (5000 : Nat) ∧
    ((0 : Int) ≤ x ∧ x ≤ x + n ∧ x + n ≤ (↑(l ++ r).length : Int)) ∧
    r.length + l.length ≤ (5000 : Nat) ∧
    ((0 : Int) ≤ n - x ∧ n - x ≤ n + n - x ∧ n + n - x ≤ (↑(r ++ l).length : Int)) ∧
    True ∧
    ((0 : Int) ≤ x - (1 : Int) ∧ x - (1 : Int) < (↑l.length : Int)) ∧
    ((0 : Int) ≤ (0 : Int) ∧ (0 : Int) < (↑(List.take (x + n - x).toNat (List.drop x.toNat (l ++ r))).length : Int)) ∧
    ((0 : Int) ≤ (0 : Int) ∧ (0 : Int) < (↑l.length : Int)) ∧
    Mine.V (List.take (x + n - x).toNat (List.drop x.toNat (l ++ r))) =
    Mine.V (List.take (x + n - x).toNat (List.drop x.toNat (l ++ r))) ∧
    Mine.B (l.getD (x - (1 : Int)).toNat Bool.false) = Mine.B (l.getD (x - (1 : Int)).toNat Bool.false) ∧
    Mine.B ((List.take (x + n - x).toNat (List.drop x.toNat (l ++ r))).getD (0 : Nat) Bool.false ^^ l.getD (0 : Nat) Bool.false) =
    Mine.B
    ((List.take (x + n - x).toNat (List.drop x.toNat (l ++ r))).getD (Int.toNat (0 : Int)) Bool.false ^^
    l.getD (Int.toNat (0 : Int)) Bool.false) ∧
    True ∧
    ((0 : Int) ≤ n - x ∧ n - x < (↑l.length : Int)) ∧
    ((0 : Int) ≤ (0 : Int) ∧
    (0 : Int) < (↑(List.take (n + n - x - (n - x)).toNat (List.drop (n - x).toNat (r ++ l))).length : Int)) ∧
    ((0 : Int) ≤ (0 : Int) ∧ (0 : Int) < (↑l.length : Int)) ∧ False))
    (((n = (↑l.length : Int) ∧ n = (↑r.length : Int) ∧ (2 : Int) ≤ n ∧ n ≤ (200 : Int)) ∧ (1 : Int) ≤ x ∧ x ≤ n) ∧
    Mine.Br (Decidable.decide (n < x)) False
    (l.length + r.length ≤ (5000 : Nat) ∧
    ((0 : Int) ≤ x ∧ x ≤ x + n ∧ x + n ≤ (↑(l ++ r).length : Int)) ∧
    r.length + l.length ≤ (5000 : Nat) ∧
    ((0 : Int) ≤ n - x ∧ n - x ≤ n + n - x ∧ n + n - x ≤ (↑(r ++ l).length : Int)) ∧
    True ∧
    ((0 : Int) ≤ x - (1 : Int) ∧ x - (1 : Int) < (↑l.length : Int)) ∧
    ((0 : Int) ≤ (0 : Int) ∧ (0 : Int) < (↑(List.take (x + n - x).toNat (List.drop x.toNat (l ++ r))).length : Int)) ∧
    ((0 : Int) ≤ (0 : Int) ∧ (0 : Int) < (↑l.length : Int)) ∧
    Mine.V (List.take (x + n - x).toNat (List.drop x.toNat (l ++ r))) =
    Mine.V (List.take (x + n - x).toNat (List.drop x.toNat (l ++ r))) ∧
    Mine.B (l.getD (x - (1 : Int)).toNat Bool.false) = Mine.B (l.getD (x - (1 : Int)).toNat Bool.false) ∧
    Mine.B ((List.take (x + n - x).toNat (List.drop x.toNat (l ++ r))).getD (0 : Nat) Bool.false ^^ l.getD (0 : Nat) Bool.false) =
    Mine.B
    ((List.take (x + n - x).toNat (List.drop x.toNat (l ++ r))).getD (Int.toNat (0 : Int)) Bool.false ^^
    l.getD (Int.toNat (0 : Int)) Bool.false) ∧
    True ∧
    ((0 : Int) ≤ n - x ∧ n - x < (↑l.length : Int)) ∧
    ((0 : Int) ≤ (0 : Int) ∧
    (0 : Int) < (↑(List.take (n + n - x - (n - x)).toNat (List.drop (n - x).toNat (r ++ l))).length : Int)) ∧
    ((0 : Int) ≤ (0 : Int) ∧ (0 : Int) < (↑l.length : Int)) ∧
    Mine.V (List.take (n + n - x - (n - x)).toNat (List.drop (n - x).toNat (r ++ l))) =
    Mine.V (List.take (n + n - x - (n - x)).toNat (List.drop (n - x).toNat (r ++ l))) ∧
    Mine.B (l.getD (n - x).toNat Bool.false) = Mine.B (l.getD (n - x).toNat Bool.false) ∧
    Mine.B
    ((List.take (n + n - x - (n - x)).toNat (List.drop (n - x).toNat (r ++ l))).getD (0 : Nat) Bool.false ^^
    l.getD (0 : Nat) Bool.false) =
    Mine.B
    ((List.take (n + n - x - (n - x)).toNat (List.drop (n - x).toNat (r ++ l))).getD (Int.toNat (0 : Int))
    Bool.false ^^
    l.getD (Int.toNat (0 : Int)) Bool.false) ∧
    (Mine.PV.txt l = Mine.PV.txt l ∧
    Mine.PV.txt r = Mine.PV.txt r ∧
    Mine.PV.ilst cs = Mine.PV.ilst cs ∧ n = n ∧ Mine.V r = Mine.V r ∧ Mine.V l = Mine.V l ∧ True) ∧
    k9 = k9)))) ∧
    Mine.PV.bool Bool.true = Mine.PV.bool Bool.true ∧ k9 = k9) (by kernel_rfl) ?_
  obtain ⟨⟨hn, hr, h2, h3⟩, hv⟩ := h
  have hl0 : 0 ≤ (0 : Int) ∧ 0 < (l.length : Int) := by omega
  refine ⟨⟨hn, by omega⟩, ⟨hr, by omega⟩, fun x hx => ?_, rfl, rfl⟩
  obtain ⟨hk1, hk2⟩ := hv x hx
  have b5 : 0 ≤ x ∧ x ≤ 5000 := by omega
  have gx : (n = (l.length : Int) ∧ 2 ≤ n ∧ n ≤ 200) ∧ 1 ≤ x ∧ x ≤ 200 := ⟨⟨hn, h2, by omega⟩, hk1, by omega⟩
  have rl : ∀ b, (List.replicate x.toNat b ++ l).length = x.toNat + l.length := fun b => by rw [List.length_append, List.length_replicate]
  have s0 : ∀ b, (List.replicate x.toNat b).length + l.length ≤ 5000 := fun b => by rw [← List.length_append, rl]; omega
  have s1 : ∀ b, 0 ≤ n ∧ n < ((List.replicate x.toNat b ++ l).length : Int) := fun b => by rw [rl]; omega
  have s2 : ∀ b, 0 ≤ n ∧ n ≤ ((List.replicate x.toNat b ++ l).length : Int) := fun b => ⟨(s1 b).1, Int.le_of_lt (s1 b).2⟩
  have p1 : 0 ≤ (0 : Int) ∧ 0 < ((List.drop x.toNat (l ++ List.replicate x.toNat false)).length : Int) := by rw [shl_len hn]; omega
  have p2 : ∀ b, 0 ≤ (0 : Int) ∧ 0 < ((List.take n.toNat (List.replicate x.toNat b ++ l)).length : Int) := fun b => by rw [List.length_take, rl]; omega
  refine ⟨hl0, b5, s0 _, b5, by rw [Nat.add_comm]; exact s0 _, b5.1, (if x < n then l.getD (x - 1).toNat false else false), ⟨fun e => ⟨by have := of_decide_eq_true e; omega, by rw [if_pos (of_decide_eq_true e)], rfl⟩, fun e => ⟨by rw [if_neg (of_decide_eq_false e)], rfl⟩⟩, b5, s0 _, s2 _,
    (if x < n then l.getD (n - x).toNat false else false), ⟨fun e => ⟨by have := of_decide_eq_true e; omega, by rw [if_pos (of_decide_eq_true e)], rfl⟩, fun e => ⟨by rw [if_neg (of_decide_eq_false e)], rfl⟩⟩, s2 _, s1 _,
    ⟨⟨gx, trivial, rfl, rfl, fun e => ⟨p1, hl0, ?_, rfl⟩, ⟨rfl, rfl, rfl, rfl, rfl, rfl, rfl, rfl, rfl, trivial⟩, rfl⟩, ⟨gx, trivial, rfl, rfl, fun e => ⟨p2 _, hl0, ?_, rfl⟩, ⟨rfl, rfl, rfl, rfl, rfl, rfl, rfl, rfl, rfl, trivial⟩, rfl⟩, ⟨gx, trivial, rfl, rfl, fun e => ⟨p2 _, hl0, ?_, rfl⟩, ⟨rfl, rfl, rfl, rfl, rfl, rfl, rfl, rfl, rfl, trivial⟩, rfl⟩, trivial⟩,
    Br.of (fun e => ⟨trivial, Br.of (fun _ => ⟨trivial, Br.of (fun _ => ⟨⟨rfl, rfl, rfl, rfl, rfl, rfl, trivial⟩, rfl⟩) fun e' => absurd (of_decide_eq_true e) (of_decide_eq_false e')⟩) fun e' => absurd (of_decide_eq_true e) (of_decide_eq_false e')⟩) fun e => ?_⟩
  · obtain rfl := of_decide_eq_true e
    rw [if_pos (by omega)]; rfl
  · obtain rfl := of_decide_eq_true e
    rw [take_head h2, Bool.false_xor]; rfl
  · obtain rfl := of_decide_eq_true e
    rw [take_head h2, show l.getD (Int.toNat 0) false = l.getD 0 false from rfl, Bool.xor_self]; rfl
  · have hx2 := of_decide_eq_false e
    have gd : (n = (l.length : Int) ∧ n = (r.length : Int) ∧ 2 ≤ n ∧ n ≤ 200) ∧ 1 ≤ x ∧ x ≤ n := ⟨⟨hn, hr, h2, by omega⟩, hk1, by omega⟩
    have no : ∀ {P : Prop}, decide (n < x) = true → P := fun e' => absurd (of_decide_eq_true e') hx2
    have a1 : 0 ≤ x ∧ x ≤ x + n ∧ x + n ≤ ((l ++ r).length : Int) := by rw [List.length_append]; omega
    have a2 : 0 ≤ n - x ∧ n - x ≤ n + n - x ∧ n + n - x ≤ ((r ++ l).length : Int) := by rw [List.length_append]; omega
    have a3 : ((List.take (x + n - x).toNat (List.drop x.toNat (l ++ r))).length : Int) = n := by
      rw [List.length_take, List.length_drop, List.length_append]; omega
    have a4 : ((List.take (n + n - x - (n - x)).toNat (List.drop (n - x).toNat (r ++ l))).length : Int) = n := by
      rw [List.length_take, List.length_drop, List.length_append]; omega
    rw [a3, a4]
    exact ⟨gd, Br.of no fun _ => ⟨gd, Br.of no fun _ => ⟨by omega, a1, by omega, a2, trivial, by omega, by omega, hl0, rfl, rfl, rfl, trivial, by omega, by omega, hl0, rfl, rfl, rfl, ⟨rfl, rfl, rfl, rfl, rfl, rfl, trivial⟩, rfl⟩⟩⟩
theorem f_law_products_right : Fun "_law_products_right" 236 := ⟨fun P => by k_is, fun P => by k_is⟩
theorem d_law_products (P : Params) : DefAt P 236 ["one", "other", "size"] := .three (by kernel_rfl) fun _ _ _ => by kernel_rfl
theorem q_products {x y n : Int} (h : (2 ≤ n ∧ n ≤ 100) ∧ (0 ≤ x ∧ x < 2 ^ n.toNat) ∧ 0 ≤ y ∧ y < 2 ^ n.toNat) : Runs 236 ["one", "other", "size"] [e_law_by_halves, e_product, e_law_minus] 10 [.int x, .int y, .int n] (.bool true) := by
  intro P9 ns9 k9
  refine vc_cast (a :=
    (((0 : Int) ≤ n ∧ n ≤ (400 : Int)) ∧ PySem.Builtin.Int.intBits x ≤ (1000 : Nat) ∧ PySem.Builtin.Int.intBits y ≤ (1000 : Nat)) ∧
    (((1 : Int) ≤ n ∧ n ≤ (200 : Int)) ∧ PySem.Builtin.Int.intBits x ≤ (1000 : Nat) ∧ PySem.Builtin.Int.intBits y ≤ (1000 : Nat)) ∧
    ((0 : Int) ≤ n ∧ n ≤ (1000 : Int) ∧ PySem.Builtin.Int.intBits (2 : Int) ≤ (100 : Nat)) ∧
    (0 : Int) < (2 : Int) ^ n.toNat ∧
    ((0 : Int) ≤ n ∧ n ≤ (1000 : Int) ∧ PySem.Builtin.Int.intBits (2 : Int) ≤ (100 : Nat)) ∧
    ((0 : Int) < (2 : Int) ^ n.toNat ∧ PySem.Builtin.Int.intBits ((2 : Int) ^ n.toNat) ≤ (8000 : Nat)) ∧
    ((0 : Int) ≤ n ∧ n ≤ (1000 : Int) ∧ PySem.Builtin.Int.intBits (2 : Int) ≤ (100 : Nat)) ∧
    x * y % (2 : Int) ^ n.toNat = x * y % (2 : Int) ^ n.toNat ∧
    x * y / (2 : Int) ^ n.toNat % (2 : Int) ^ n.toNat = x * y / (2 : Int) ^ n.toNat ∧
    (if x * y / (2 : Int) ^ n.toNat = (0 : Int) then (0 : Int) else (1 : Int)) = Mine.B (Decidable.decide ((2 : Int) ^ n.toNat ≤ x * y)) ∧
    (((1 : Int) ≤ n ∧ n ≤ (400 : Int)) ∧ (0 : Int) ≤ x ∧ x < (2 : Int) ^ n.toNat) ∧
    (((1 : Int) ≤ n ∧ n ≤ (400 : Int)) ∧ (0 : Int) ≤ y ∧ y < (2 : Int) ^ n.toNat) ∧
    (((0 : Int) ≤ n ∧ n ≤ (400 : Int)) ∧
    PySem.Builtin.Int.intBits (if Mine.sgn x n < (0 : Int) then -Mine.sgn x n else Mine.sgn x n) ≤ (1000 : Nat) ∧
    PySem.Builtin.Int.intBits (if Mine.sgn y n < (0 : Int) then -Mine.sgn y n else Mine.sgn y n) ≤ (1000 : Nat)) ∧
    ∃ (z : Int),
    (((Decidable.decide (Mine.sgn x n < (0 : Int)) != Decidable.decide (Mine.sgn y n < (0 : Int))) = Bool.true →
    ((0 : Int) - (if Mine.sgn x n < (0 : Int) then -Mine.sgn x n else Mine.sgn x n) * if Mine.sgn y n < (0 : Int) then -Mine.sgn y n else Mine.sgn y n) = z ∧ k9 = k9) ∧
    ((Decidable.decide (Mine.sgn x n < (0 : Int)) != Decidable.decide (Mine.sgn y n < (0 : Int))) = Bool.false →
    ((if Mine.sgn x n < (0 : Int) then -Mine.sgn x n else Mine.sgn x n) * if Mine.sgn y n < (0 : Int) then -Mine.sgn y n else Mine.sgn y n) = z ∧ k9 = k9)) ∧
    ((0 : Int) ≤ n ∧ n ≤ (1000 : Int) ∧ PySem.Builtin.Int.intBits (2 : Int) ≤ (100 : Nat)) ∧
    (0 : Int) < (2 : Int) ^ n.toNat ∧
    ((1 : Int) ≤ n ∧ n ≤ (200 : Int)) ∧
    ((0 : Int) ≤ n ∧ n ≤ (1000 : Int) ∧ PySem.Builtin.Int.intBits (2 : Int) ≤ (100 : Nat)) ∧
    ((0 : Int) < (2 : Int) ^ n.toNat ∧ PySem.Builtin.Int.intBits ((2 : Int) ^ n.toNat) ≤ (8000 : Nat)) ∧
    ((0 : Int) ≤ n ∧ n ≤ (1000 : Int) ∧ PySem.Builtin.Int.intBits (2 : Int) ≤ (100 : Nat)) ∧
    (0 : Int) < (2 : Int) ^ n.toNat ∧
    (((1 : Int) ≤ n ∧ n ≤ (400 : Int)) ∧ (0 : Int) ≤ z % (2 : Int) ^ n.toNat ∧ z % (2 : Int) ^ n.toNat < (2 : Int) ^ n.toNat) ∧
    Mine.sgn x n * Mine.sgn y n % (2 : Int) ^ n.toNat = z % (2 : Int) ^ n.toNat ∧
    Mine.sgn x n * Mine.sgn y n / (2 : Int) ^ n.toNat % (2 : Int) ^ n.toNat = z / (2 : Int) ^ n.toNat % (2 : Int) ^ n.toNat ∧
    (if -(2 : Int) ^ (n - (1 : Int)).toNat ≤ Mine.sgn x n * Mine.sgn y n ∧ Mine.sgn x n * Mine.sgn y n < (2 : Int) ^ (n - (1 : Int)).toNat then (0 : Int)
    else (1 : Int)) =
    Mine.B !Decidable.decide (Mine.sgn (z % (2 : Int) ^ n.toNat) n = z) ∧
    Mine.PV.bool Bool.true = Mine.PV.bool Bool.true ∧ k9 = k9) (by kernel_rfl) ?_
  obtain ⟨⟨h2, h3⟩, hx, hy⟩ := h
  have hp := kbt_pos n.toNat
  have b0 : 0 ≤ n ∧ n ≤ 400 := by omega
  have b1 : 1 ≤ n ∧ n ≤ 200 := by omega
  have b2 : 1 ≤ n ∧ n ≤ 400 := by omega
  have b3 : 0 ≤ n ∧ n ≤ 1000 ∧ Builtin.Int.intBits (2 : Int) ≤ 100 := ⟨b0.1, by omega, by decide⟩
  have hbx : Builtin.Int.intBits x ≤ 1000 := Nat.le_trans (bits_lt hx.1 hx.2) (by omega)
  have hby : Builtin.Int.intBits y ≤ 1000 := Nat.le_trans (bits_lt hy.1 hy.2) (by omega)
  have hp2 : 0 < (2 : Int) ^ n.toNat ∧ Builtin.Int.intBits ((2 : Int) ^ n.toNat) ≤ 8000 := ⟨hp, Nat.le_trans (bits_pow2 (by omega)) (by decide)⟩
  have s1 := bits_sgn (x := x) b0
  have s2 := bits_sgn (x := y) b0
  have ab : ∀ {z : Int}, Builtin.Int.intBits z ≤ 1000 → Builtin.Int.intBits (if z < 0 then -z else z) ≤ 1000 := fun {z} h => by
    split
    · exact PyProof.Rows.bits_neg h
    · exact h
  have e := signed_mul (sgn x n) (sgn y n)
  have q3 := Int.emod_nonneg (sgn x n * sgn y n) (Int.ne_of_gt hp)
  have q4 := Int.emod_lt_of_pos (sgn x n * sgn y n) hp
  have eb := sgn_back (w := sgn x n * sgn y n) (n := n) (by omega)
  refine ⟨⟨b0, hbx, hby⟩, ⟨b1, hbx, hby⟩, b3, hp, b3, hp2, b3, rfl, high_eq hx hy, wide_eq (mul_lt_pow hx hy).1 hp, ⟨b2, hx⟩, ⟨b2, hy⟩, ⟨b0, ab s1, ab s2⟩, sgn x n * sgn y n, ⟨fun e1 => ⟨?_, rfl⟩, fun e1 => ⟨?_, rfl⟩⟩, b3, hp, b1, b3, hp2, b3, hp, ⟨b2, q3, q4⟩, rfl, rfl, ?_, rfl, rfl⟩
  · rw [if_pos e1] at e; exact e
  · rw [if_neg (by rw [e1]; exact Bool.false_ne_true)] at e; exact e
  · by_cases h : sgn (sgn x n * sgn y n % 2 ^ n.toNat) n = sgn x n * sgn y n
    · rw [if_pos (eb.mp h), h]; simp [B]
    · rw [if_neg (fun h2 => h (eb.mpr h2)), decide_eq_false h]; rfl
theorem as_bits {x n : Int} (h0 : 0 ≤ n) (hx : 0 ≤ x ∧ x < 2 ^ n.toNat) : ∃ l, x = V l ∧ n = l.length := ⟨bits n.toNat x.toNat, (V_bits hx.1 hx.2).symm, by rw [bits_length]; omega⟩
theorem as_sign {x : Int} (h : 0 ≤ x ∧ x < 2) : ∃ b, x = B b := by
  have : x = 0 ∨ x = 1 := by omega
  rcases this with rfl | rfl
  · exact ⟨false, rfl⟩
  · exact ⟨true, rfl⟩
theorem T_shift : AllOk [e_law_signs, e_shifted, e_law_meant, e_double_shifted] := .cons k_law_signs (.cons k_shifted (.cons k_law_meant (.cons k_double_shifted .nil)))
theorem T_prod : AllOk [e_law_by_halves, e_product, e_law_minus] := .cons k_law_by_halves (.cons k_product (.cons k_law_minus .nil))
theorem bits_fit {z n : Int} (h : -(2 ^ (n - 1).toNat) ≤ z ∧ z < 2 ^ (n - 1).toNat) (hn : n ≤ 1000) : Builtin.Int.intBits z ≤ 100000 := by
  have h1 := kbt_cast (n - 1).toNat
  exact Nat.le_trans ((intBits_le_iff (m := (n - 1).toNat + 1)).mpr (by rw [Nat.pow_succ]; omega)) (by omega)
noncomputable def e_law_turns_right : Ent := ⟨"_law_turns_right", 208, 11, aI fun x => aI fun y => aI fun n => aN fun cs => aE ((2 ≤ n ∧ n ≤ 100) ∧ (0 ≤ x ∧ x < 2 ^ n.toNat) ∧ (0 ≤ y ∧ y < 2) ∧ (0 < cs.length ∧ cs.length ≤ 1000) ∧ cs.getD 0 0 = 1 ∧ ∀ k ∈ cs, 1 ≤ k ∧ k ≤ 100) (.bool true)⟩
theorem k_law_turns_right : EntOk e_law_turns_right := .of f_law_turns_right (Ok.aI fun x => Ok.aI fun y => Ok.aI fun n => Ok.aN fun cs => Ok.to fun h => by
  obtain ⟨h0, hx, hy, h4, h5⟩ := h
  obtain ⟨l, rfl, hn⟩ := as_bits (by omega) hx
  obtain ⟨b, rfl⟩ := as_sign hy
  exact ⟨[.bits l, .sgn b, .int n, .ilst cs], ⟨rfl, rfl, rfl, rfl, trivial⟩, Ok.aE d_law_turns T_turn rfl rfl fun _ => q_turns ⟨⟨hn, h0⟩, h4, h5⟩⟩)
noncomputable def e_law_shifts_right : Ent := ⟨"_law_shifts_right", 215, 11, aI fun x => aI fun y => aI fun n => aN fun cs => aE ((2 ≤ n ∧ n ≤ 100) ∧ (0 ≤ x ∧ x < 2 ^ n.toNat) ∧ (0 ≤ y ∧ y < 2 ^ n.toNat) ∧ ∀ k ∈ cs, 1 ≤ k ∧ k ≤ 100) (.bool true)⟩
theorem k_law_shifts_right : EntOk e_law_shifts_right := .of f_law_shifts_right (Ok.aI fun x => Ok.aI fun y => Ok.aI fun n => Ok.aN fun cs => Ok.to fun h => by
  obtain ⟨h0, hx, hy, h4⟩ := h
  obtain ⟨l, rfl, hn⟩ := as_bits (by omega) hx
  obtain ⟨r, rfl, hr⟩ := as_bits (by omega) hy
  exact ⟨[.bits l, .bits r, .int n, .ilst cs], ⟨rfl, rfl, rfl, rfl, trivial⟩, Ok.aE d_law_shifts T_shift rfl rfl fun _ => q_shifts ⟨⟨hn, hr, h0⟩, h4⟩⟩)
noncomputable def e_law_products_right : Ent := ⟨"_law_products_right", 236, 11, aI fun x => aI fun y => aI fun n => aE ((2 ≤ n ∧ n ≤ 100) ∧ (0 ≤ x ∧ x < 2 ^ n.toNat) ∧ 0 ≤ y ∧ y < 2 ^ n.toNat) (.bool true)⟩
theorem k_law_products_right : EntOk e_law_products_right := .of f_law_products_right (Ok.aI fun x => Ok.aI fun y => Ok.aI fun n => Ok.aE d_law_products T_prod rfl rfl q_products)
theorem f_quotient : Fun "quotient" 166 := ⟨fun P => by k_is, fun P => by k_is⟩
theorem d_quotient (P : Params) : DefAt P 166 ["number", "divisor", "size", "is_signed"] := .four (by kernel_rfl) fun _ _ _ _ => by kernel_rfl
theorem q_quU {x y n : Int} (h : ((1 ≤ n ∧ n ≤ 200) ∧ 0 < y) ∧ Builtin.Int.intBits y ≤ 1000 ∧ x / y / 2 ^ n.toNat = 0) : Runs 166 ["number", "divisor", "size", "is_signed"] [e_signed, e_fits_signed, e_wrap] 9 [.int x, .int y, .int n, .bool false] (.tup [.int (x / y), .int (x % y)]) := by
  intro P9 ns9 k9
  refine vc_cast (a :=
    Mine.Br (Decidable.decide (y = (0 : Int))) False
    (((0 : Int) < y ∧ PySem.Builtin.Int.intBits y ≤ (8000 : Nat)) ∧
    (0 : Int) ≤ n ∧
    Mine.Br (!Decidable.decide (x / y / (2 : Int) ^ n.toNat = (0 : Int))) False
    (((0 : Int) < y ∧ PySem.Builtin.Int.intBits y ≤ (8000 : Nat)) ∧ (0 : Int) < y ∧ (x / y = x / y ∧ x % y = x % y ∧ True) ∧ k9 = k9))) (by kernel_rfl) ?_
  exact Br.of (fun e => absurd (of_decide_eq_true e) (Int.ne_of_gt h.1.2)) fun _ => ⟨⟨h.1.2, Nat.le_trans h.2.1 (by decide)⟩, by omega, Br.of (fun e => by simp [h.2.2] at e) fun _ => ⟨⟨h.1.2, Nat.le_trans h.2.1 (by decide)⟩, h.1.2, ⟨rfl, rfl, trivial⟩, rfl⟩⟩
theorem q_quS {x y n : Int} (h : ((1 ≤ n ∧ n ≤ 100) ∧ y ≠ 0 ∧ sgn y n ≠ 0) ∧ -(2 ^ (n - 1).toNat) ≤ qf (sgn x (2 * n)) (sgn y n) ∧ qf (sgn x (2 * n)) (sgn y n) < 2 ^ (n - 1).toNat) : Runs 166 ["number", "divisor", "size", "is_signed"] [e_signed, e_fits_signed, e_wrap] 9 [.int x, .int y, .int n, .bool true] (.tup [.int (qf (sgn x (2 * n)) (sgn y n) % 2 ^ n.toNat), .int ((sgn x (2 * n) - qf (sgn x (2 * n)) (sgn y n) * sgn y n) % 2 ^ n.toNat)]) := by
  intro P9 ns9 k9
  refine vc_cast (a :=
    Mine.Br (Decidable.decide (y = (0 : Int))) False
    ((PySem.Builtin.Int.intBits (2 : Int) ≤ (100000 : Nat) ∧ PySem.Builtin.Int.intBits n ≤ (100000 : Nat)) ∧
    ((1 : Int) ≤ (2 : Int) * n ∧ (2 : Int) * n ≤ (400 : Int)) ∧
    ((1 : Int) ≤ n ∧ n ≤ (400 : Int)) ∧
    (((0 : Int) < if Mine.sgn y n < (0 : Int) then -Mine.sgn y n else Mine.sgn y n) ∧ PySem.Builtin.Int.intBits (if Mine.sgn y n < (0 : Int) then -Mine.sgn y n else Mine.sgn y n) ≤ (8000 : Nat)) ∧
    Mine.Br (Decidable.decide (Mine.sgn x ((2 : Int) * n) < (0 : Int)) != Decidable.decide (Mine.sgn y n < (0 : Int)))
    (((1 : Int) ≤ n ∧ n ≤ (400 : Int)) ∧
    Mine.Br
    (!(Decidable.decide
    (-(2 : Int) ^ (n - (1 : Int)).toNat ≤
    -((if Mine.sgn x ((2 : Int) * n) < (0 : Int) then -Mine.sgn x ((2 : Int) * n) else Mine.sgn x ((2 : Int) * n)) /
    if Mine.sgn y n < (0 : Int) then -Mine.sgn y n else Mine.sgn y n)) &&
    Decidable.decide
    (-((if Mine.sgn x ((2 : Int) * n) < (0 : Int) then -Mine.sgn x ((2 : Int) * n) else Mine.sgn x ((2 : Int) * n)) /
    if Mine.sgn y n < (0 : Int) then -Mine.sgn y n else Mine.sgn y n) <
    (2 : Int) ^ (n - (1 : Int)).toNat)))
    False
    (((0 : Int) ≤ n ∧ n ≤ (400 : Int)) ∧
    (PySem.Builtin.Int.intBits
    (-((if Mine.sgn x ((2 : Int) * n) < (0 : Int) then -Mine.sgn x ((2 : Int) * n) else Mine.sgn x ((2 : Int) * n)) /
    if Mine.sgn y n < (0 : Int) then -Mine.sgn y n else Mine.sgn y n)) ≤
    (100000 : Nat) ∧
    PySem.Builtin.Int.intBits (Mine.sgn y n) ≤ (100000 : Nat)) ∧
    ((0 : Int) ≤ n ∧ n ≤ (400 : Int)) ∧
    (-((if Mine.sgn x ((2 : Int) * n) < (0 : Int) then -Mine.sgn x ((2 : Int) * n) else Mine.sgn x ((2 : Int) * n)) /
    if Mine.sgn y n < (0 : Int) then -Mine.sgn y n else Mine.sgn y n) %
    (2 : Int) ^ n.toNat =
    Mine.qf (Mine.sgn x ((2 : Int) * n)) (Mine.sgn y n) % (2 : Int) ^ n.toNat ∧
    (Mine.sgn x ((2 : Int) * n) -
    -((if Mine.sgn x ((2 : Int) * n) < (0 : Int) then -Mine.sgn x ((2 : Int) * n) else Mine.sgn x ((2 : Int) * n)) /
    if Mine.sgn y n < (0 : Int) then -Mine.sgn y n else Mine.sgn y n) *
    Mine.sgn y n) %
    (2 : Int) ^ n.toNat =
    (Mine.sgn x ((2 : Int) * n) - Mine.qf (Mine.sgn x ((2 : Int) * n)) (Mine.sgn y n) * Mine.sgn y n) % (2 : Int) ^ n.toNat ∧
    True) ∧
    k9 = k9))
    (((1 : Int) ≤ n ∧ n ≤ (400 : Int)) ∧
    Mine.Br
    (!(Decidable.decide
    (-(2 : Int) ^ (n - (1 : Int)).toNat ≤
    (if Mine.sgn x ((2 : Int) * n) < (0 : Int) then -Mine.sgn x ((2 : Int) * n) else Mine.sgn x ((2 : Int) * n)) /
    if Mine.sgn y n < (0 : Int) then -Mine.sgn y n else Mine.sgn y n) &&
    Decidable.decide
    (((if Mine.sgn x ((2 : Int) * n) < (0 : Int) then -Mine.sgn x ((2 : Int) * n) else Mine.sgn x ((2 : Int) * n)) /
    if Mine.sgn y n < (0 : Int) then -Mine.sgn y n else Mine.sgn y n) <
    (2 : Int) ^ (n - (1 : Int)).toNat)))
    False
    (((0 : Int) ≤ n ∧ n ≤ (400 : Int)) ∧
    (PySem.Builtin.Int.intBits
    ((if Mine.sgn x ((2 : Int) * n) < (0 : Int) then -Mine.sgn x ((2 : Int) * n) else Mine.sgn x ((2 : Int) * n)) /
    if Mine.sgn y n < (0 : Int) then -Mine.sgn y n else Mine.sgn y n) ≤
    (100000 : Nat) ∧
    PySem.Builtin.Int.intBits (Mine.sgn y n) ≤ (100000 : Nat)) ∧
    ((0 : Int) ≤ n ∧ n ≤ (400 : Int)) ∧
    (((if Mine.sgn x ((2 : Int) * n) < (0 : Int) then -Mine.sgn x ((2 : Int) * n) else Mine.sgn x ((2 : Int) * n)) /
    if Mine.sgn y n < (0 : Int) then -Mine.sgn y n else Mine.sgn y n) %
    (2 : Int) ^ n.toNat =
    Mine.qf (Mine.sgn x ((2 : Int) * n)) (Mine.sgn y n) % (2 : Int) ^ n.toNat ∧
    (Mine.sgn x ((2 : Int) * n) -
    ((if Mine.sgn x ((2 : Int) * n) < (0 : Int) then -Mine.sgn x ((2 : Int) * n) else Mine.sgn x ((2 : Int) * n)) /
    if Mine.sgn y n < (0 : Int) then -Mine.sgn y n else Mine.sgn y n) *
    Mine.sgn y n) %
    (2 : Int) ^ n.toNat =
    (Mine.sgn x ((2 : Int) * n) - Mine.qf (Mine.sgn x ((2 : Int) * n)) (Mine.sgn y n) * Mine.sgn y n) % (2 : Int) ^ n.toNat ∧
    True) ∧
    k9 = k9)))) (by kernel_rfl) ?_
  obtain ⟨⟨⟨h1, h2⟩, hy, hp⟩, hf⟩ := h
  have b0 : 0 ≤ n ∧ n ≤ 400 := by omega
  have b1 : 1 ≤ n ∧ n ≤ 400 := by omega
  have hb : Builtin.Int.intBits (sgn y n) ≤ 1000 := bits_sgn b0
  have ha : (0 < if sgn y n < 0 then -sgn y n else sgn y n) ∧ Builtin.Int.intBits (if sgn y n < 0 then -sgn y n else sgn y n) ≤ 8000 := by
    split
    · exact ⟨by omega, Nat.le_trans (PyProof.Rows.bits_neg hb) (by decide)⟩
    · exact ⟨by omega, Nat.le_trans hb (by decide)⟩
  have hn : Builtin.Int.intBits n ≤ 100000 := Nat.le_trans (bits_lt (k := 7) b0.1 (by show n < 128; omega)) (by decide)
  have hq := bits_fit hf (by omega)
  have ht : ∀ {P : Prop}, (!(decide (-2 ^ (n - 1).toNat ≤ qf (sgn x (2 * n)) (sgn y n)) && decide (qf (sgn x (2 * n)) (sgn y n) < 2 ^ (n - 1).toNat))) = true → P := fun e => by rw [decide_eq_true hf.1, decide_eq_true hf.2] at e; cases e
  refine Br.of (fun e => absurd (of_decide_eq_true e) hy) fun _ => ⟨⟨by decide, hn⟩, by omega, b1, ha, Br.of (fun e1 => ?_) fun e1 => ?_⟩
  · rw [qf_t e1]
    exact ⟨b1, Br.of ht fun _ => ⟨b0, ⟨hq, Nat.le_trans hb (by decide)⟩, b0, ⟨rfl, rfl, trivial⟩, rfl⟩⟩
  · rw [qf_f e1]
    exact ⟨b1, Br.of ht fun _ => ⟨b0, ⟨hq, Nat.le_trans hb (by decide)⟩, b0, ⟨rfl, rfl, trivial⟩, rfl⟩⟩
theorem q_qu0 {x y n : Int} {b : Bool} (h : y = 0) : Raises 166 ["number", "divisor", "size", "is_signed"] [e_signed, e_fits_signed, e_wrap] 9 [.int x, .int y, .int n, .bool b] := by
  intro P9 ns9 k9
  refine vc_cast (a :=
    Mine.Br (Decidable.decide (y = (0 : Int))) (k9 = k9)
    (Mine.Br (!b)
    (((0 : Int) < y ∧ PySem.Builtin.Int.intBits y ≤ (8000 : Nat)) ∧
    (0 : Int) ≤ n ∧ Mine.Br (!Decidable.decide (x / y / (2 : Int) ^ n.toNat = (0 : Int))) (k9 = k9) (((0 : Int) < y ∧ PySem.Builtin.Int.intBits y ≤ (8000 : Nat)) ∧ (0 : Int) < y ∧ False))
    ((PySem.Builtin.Int.intBits (2 : Int) ≤ (100000 : Nat) ∧ PySem.Builtin.Int.intBits n ≤ (100000 : Nat)) ∧
    ((1 : Int) ≤ (2 : Int) * n ∧ (2 : Int) * n ≤ (400 : Int)) ∧
    ((1 : Int) ≤ n ∧ n ≤ (400 : Int)) ∧
    (((0 : Int) < if Mine.sgn y n < (0 : Int) then -Mine.sgn y n else Mine.sgn y n) ∧
    PySem.Builtin.Int.intBits (if Mine.sgn y n < (0 : Int) then -Mine.sgn y n else Mine.sgn y n) ≤ (8000 : Nat)) ∧
    Mine.Br (Decidable.decide (Mine.sgn x ((2 : Int) * n) < (0 : Int)) != Decidable.decide (Mine.sgn y n < (0 : Int)))
    (((1 : Int) ≤ n ∧ n ≤ (400 : Int)) ∧
    Mine.Br
    (!(Decidable.decide
    (-(2 : Int) ^ (n - (1 : Int)).toNat ≤
    -((if Mine.sgn x ((2 : Int) * n) < (0 : Int) then -Mine.sgn x ((2 : Int) * n) else Mine.sgn x ((2 : Int) * n)) /
    if Mine.sgn y n < (0 : Int) then -Mine.sgn y n else Mine.sgn y n)) &&
    Decidable.decide
    (-((if Mine.sgn x ((2 : Int) * n) < (0 : Int) then -Mine.sgn x ((2 : Int) * n) else Mine.sgn x ((2 : Int) * n)) /
    if Mine.sgn y n < (0 : Int) then -Mine.sgn y n else Mine.sgn y n) <
    (2 : Int) ^ (n - (1 : Int)).toNat)))
    (k9 = k9)
    (((0 : Int) ≤ n ∧ n ≤ (400 : Int)) ∧
    (PySem.Builtin.Int.intBits
    (-((if Mine.sgn x ((2 : Int) * n) < (0 : Int) then -Mine.sgn x ((2 : Int) * n) else Mine.sgn x ((2 : Int) * n)) /
    if Mine.sgn y n < (0 : Int) then -Mine.sgn y n else Mine.sgn y n)) ≤
    (100000 : Nat) ∧
    PySem.Builtin.Int.intBits (Mine.sgn y n) ≤ (100000 : Nat)) ∧
    ((0 : Int) ≤ n ∧ n ≤ (400 : Int)) ∧ False))
    (((1 : Int) ≤ n ∧ n ≤ (400 : Int)) ∧
    Mine.Br
    (!(Decidable.decide
    (-(2 : Int) ^ (n - (1 : Int)).toNat ≤
    (if Mine.sgn x ((2 : Int) * n) < (0 : Int) then -Mine.sgn x ((2 : Int) * n) else Mine.sgn x ((2 : Int) * n)) /
    if Mine.sgn y n < (0 : Int) then -Mine.sgn y n else Mine.sgn y n) &&
    Decidable.decide
    (((if Mine.sgn x ((2 : Int) * n) < (0 : Int) then -Mine.sgn x ((2 : Int) * n) else Mine.sgn x ((2 : Int) * n)) /
    if Mine.sgn y n < (0 : Int) then -Mine.sgn y n else Mine.sgn y n) <
    (2 : Int) ^ (n - (1 : Int)).toNat)))
    (k9 = k9)
    (((0 : Int) ≤ n ∧ n ≤ (400 : Int)) ∧
    (PySem.Builtin.Int.intBits
    ((if Mine.sgn x ((2 : Int) * n) < (0 : Int) then -Mine.sgn x ((2 : Int) * n) else Mine.sgn x ((2 : Int) * n)) /
    if Mine.sgn y n < (0 : Int) then -Mine.sgn y n else Mine.sgn y n) ≤
    (100000 : Nat) ∧
    PySem.Builtin.Int.intBits (Mine.sgn y n) ≤ (100000 : Nat)) ∧
    ((0 : Int) ≤ n ∧ n ≤ (400 : Int)) ∧ False))))) (by kernel_rfl) ?_
  exact Br.of (fun _ => rfl) fun e => absurd h (of_decide_eq_false e)
theorem q_quUR {x y n : Int} (h : ((1 ≤ n ∧ n ≤ 200) ∧ 0 < y) ∧ Builtin.Int.intBits y ≤ 1000 ∧ x / y / 2 ^ n.toNat ≠ 0) : Raises 166 ["number", "divisor", "size", "is_signed"] [e_signed, e_fits_signed, e_wrap] 9 [.int x, .int y, .int n, .bool false] := by
  intro P9 ns9 k9
  refine vc_cast (a :=
    Mine.Br (Decidable.decide (y = (0 : Int))) (k9 = k9)
    (((0 : Int) < y ∧ PySem.Builtin.Int.intBits y ≤ (8000 : Nat)) ∧
    (0 : Int) ≤ n ∧ Mine.Br (!Decidable.decide (x / y / (2 : Int) ^ n.toNat = (0 : Int))) (k9 = k9) (((0 : Int) < y ∧ PySem.Builtin.Int.intBits y ≤ (8000 : Nat)) ∧ (0 : Int) < y ∧ False))) (by kernel_rfl) ?_
  exact Br.of (fun _ => rfl) fun _ => ⟨⟨h.1.2, Nat.le_trans h.2.1 (by decide)⟩, by omega, Br.of (fun _ => rfl) fun e => by simp [h.2.2] at e⟩
theorem q_quSR {x y n : Int} (h : ((1 ≤ n ∧ n ≤ 100) ∧ y ≠ 0 ∧ sgn y n ≠ 0) ∧ ¬(-(2 ^ (n - 1).toNat) ≤ qf (sgn x (2 * n)) (sgn y n) ∧ qf (sgn x (2 * n)) (sgn y n) < 2 ^ (n - 1).toNat)) : Raises 166 ["number", "divisor", "size", "is_signed"] [e_signed, e_fits_signed, e_wrap] 9 [.int x, .int y, .int n, .bool true] := by
  intro P9 ns9 k9
  refine vc_cast (a :=
    Mine.Br (Decidable.decide (y = (0 : Int))) (k9 = k9)
    ((PySem.Builtin.Int.intBits (2 : Int) ≤ (100000 : Nat) ∧ PySem.Builtin.Int.intBits n ≤ (100000 : Nat)) ∧
    ((1 : Int) ≤ (2 : Int) * n ∧ (2 : Int) * n ≤ (400 : Int)) ∧
    ((1 : Int) ≤ n ∧ n ≤ (400 : Int)) ∧
    (((0 : Int) < if Mine.sgn y n < (0 : Int) then -Mine.sgn y n else Mine.sgn y n) ∧ PySem.Builtin.Int.intBits (if Mine.sgn y n < (0 : Int) then -Mine.sgn y n else Mine.sgn y n) ≤ (8000 : Nat)) ∧
    Mine.Br (Decidable.decide (Mine.sgn x ((2 : Int) * n) < (0 : Int)) != Decidable.decide (Mine.sgn y n < (0 : Int)))
    (((1 : Int) ≤ n ∧ n ≤ (400 : Int)) ∧
    Mine.Br
    (!(Decidable.decide
    (-(2 : Int) ^ (n - (1 : Int)).toNat ≤
    -((if Mine.sgn x ((2 : Int) * n) < (0 : Int) then -Mine.sgn x ((2 : Int) * n) else Mine.sgn x ((2 : Int) * n)) /
    if Mine.sgn y n < (0 : Int) then -Mine.sgn y n else Mine.sgn y n)) &&
    Decidable.decide
    (-((if Mine.sgn x ((2 : Int) * n) < (0 : Int) then -Mine.sgn x ((2 : Int) * n) else Mine.sgn x ((2 : Int) * n)) /
    if Mine.sgn y n < (0 : Int) then -Mine.sgn y n else Mine.sgn y n) <
    (2 : Int) ^ (n - (1 : Int)).toNat)))
    (k9 = k9)
    (((0 : Int) ≤ n ∧ n ≤ (400 : Int)) ∧
    (PySem.Builtin.Int.intBits
    (-((if Mine.sgn x ((2 : Int) * n) < (0 : Int) then -Mine.sgn x ((2 : Int) * n) else Mine.sgn x ((2 : Int) * n)) /
    if Mine.sgn y n < (0 : Int) then -Mine.sgn y n else Mine.sgn y n)) ≤
    (100000 : Nat) ∧
    PySem.Builtin.Int.intBits (Mine.sgn y n) ≤ (100000 : Nat)) ∧
    ((0 : Int) ≤ n ∧ n ≤ (400 : Int)) ∧ False))
    (((1 : Int) ≤ n ∧ n ≤ (400 : Int)) ∧
    Mine.Br
    (!(Decidable.decide
    (-(2 : Int) ^ (n - (1 : Int)).toNat ≤
    (if Mine.sgn x ((2 : Int) * n) < (0 : Int) then -Mine.sgn x ((2 : Int) * n) else Mine.sgn x ((2 : Int) * n)) /
    if Mine.sgn y n < (0 : Int) then -Mine.sgn y n else Mine.sgn y n) &&
    Decidable.decide
    (((if Mine.sgn x ((2 : Int) * n) < (0 : Int) then -Mine.sgn x ((2 : Int) * n) else Mine.sgn x ((2 : Int) * n)) /
    if Mine.sgn y n < (0 : Int) then -Mine.sgn y n else Mine.sgn y n) <
    (2 : Int) ^ (n - (1 : Int)).toNat)))
    (k9 = k9)
    (((0 : Int) ≤ n ∧ n ≤ (400 : Int)) ∧
    (PySem.Builtin.Int.intBits
    ((if Mine.sgn x ((2 : Int) * n) < (0 : Int) then -Mine.sgn x ((2 : Int) * n) else Mine.sgn x ((2 : Int) * n)) /
    if Mine.sgn y n < (0 : Int) then -Mine.sgn y n else Mine.sgn y n) ≤
    (100000 : Nat) ∧
    PySem.Builtin.Int.intBits (Mine.sgn y n) ≤ (100000 : Nat)) ∧
    ((0 : Int) ≤ n ∧ n ≤ (400 : Int)) ∧ False)))) (by kernel_rfl) ?_
  obtain ⟨⟨⟨h1, h2⟩, hy, hp⟩, hf⟩ := h
  have b0 : 0 ≤ n ∧ n ≤ 400 := by omega
  have b1 : 1 ≤ n ∧ n ≤ 400 := by omega
  have hb : Builtin.Int.intBits (sgn y n) ≤ 1000 := bits_sgn b0
  have ha : (0 < if sgn y n < 0 then -sgn y n else sgn y n) ∧ Builtin.Int.intBits (if sgn y n < 0 then -sgn y n else sgn y n) ≤ 8000 := by
    split
    · exact ⟨by omega, Nat.le_trans (PyProof.Rows.bits_neg hb) (by decide)⟩
    · exact ⟨by omega, Nat.le_trans hb (by decide)⟩
  have hn : Builtin.Int.intBits n ≤ 100000 := Nat.le_trans (bits_lt (k := 7) b0.1 (by show n < 128; omega)) (by decide)
  have ht : ∀ {P : Prop}, (!(decide (-2 ^ (n - 1).toNat ≤ qf (sgn x (2 * n)) (sgn y n)) && decide (qf (sgn x (2 * n)) (sgn y n) < 2 ^ (n - 1).toNat))) = false → P := fun e => absurd (by rw [Bool.not_eq_false', Bool.and_eq_true, decide_eq_true_eq, decide_eq_true_eq] at e; exact e) hf
  refine Br.of (fun _ => rfl) fun _ => ⟨⟨by decide, hn⟩, by omega, b1, ha, Br.of (fun e1 => ?_) fun e1 => ?_⟩
  · rw [qf_t e1]
    exact ⟨b1, Br.of (fun _ => rfl) ht⟩
  · rw [qf_f e1]
    exact ⟨b1, Br.of (fun _ => rfl) ht⟩
theorem f_law_cell : Fun "_law_cell" 187 := ⟨fun P => by k_is, fun P => by k_is⟩
theorem d_law_cell (P : Params) : DefAt P 187 ["pen", "many"] := .two (by kernel_rfl) fun _ _ => by kernel_rfl
theorem q_cell {m : Int} {P : Params} {ns : List Int} {n : Nat} (h : (ns.length ≤ 63 ∧ n ≤ 100) ∧ 0 < m) : WB [] ns (scAt P 187) 6 noL 40 60 (bodyAt P 187) ([("pen" : Str), "many"].zip [PV.pen, .int m]).reverse n (fun p k => ∃ x, (p.toI = some x ∧ 0 ≤ x ∧ x < m) ∧ k = n + 1) (fun _ => False) (fun _ _ => False) (fun _ _ => False) := by
  refine vc_cast (a :=
    (↑n : Int) + (1 : Int) = (↑(n + (1 : Nat)) : Int) ∧
    ns.length ≤ (1000 : Nat) ∧
    Mine.Br (Decidable.decide ((↑n : Int) < (↑ns.length : Int)))
    (((0 : Int) ≤ (↑n : Int) ∧ (↑n : Int) < (↑ns.length : Int) ∧ ns.length ≤ (1000 : Nat)) ∧
    (0 : Int) < m ∧ ∃ (x : Int), ((Mine.PV.int (ns.getD (↑n : Int).toNat (0 : Int) % m)).toI = Option.some x ∧ (0 : Int) ≤ x ∧ x < m) ∧ n + (1 : Nat) = n + (1 : Nat))
    (Mine.Br (Decidable.decide ((0 : Int) < (↑ns.length : Int)))
    (ns.length ≤ (1000 : Nat) ∧
    (0 : Int) < (↑ns.length : Int) ∧
    ((0 : Int) ≤ (↑n : Int) % (↑ns.length : Int) ∧ (↑n : Int) % (↑ns.length : Int) < (↑ns.length : Int) ∧ ns.length ≤ (1000 : Nat)) ∧
    (0 : Int) < (1000003 : Int) ∧
    (PySem.Builtin.Int.intBits (48271 : Int) ≤ (100000 : Nat) ∧ PySem.Builtin.Int.intBits (↑n : Int) ≤ (100000 : Nat)) ∧
    ((0 : Int) ≤ (5 : Int) ∧
    (5 : Int) ≤ (1000 : Int) ∧ PySem.Builtin.Int.intBits (ns.getD ((↑n : Int) % (↑ns.length : Int)).toNat (0 : Int) % (1000003 : Int) + (48271 : Int) * (↑n : Int)) ≤ (100 : Nat)) ∧
    ((0 : Int) < (977 : Int) ∧ PySem.Builtin.Int.intBits (977 : Int) ≤ (8000 : Nat)) ∧
    (0 : Int) < (2147483647 : Int) ∧
    (0 : Int) < (1000003 : Int) ∧
    (PySem.Builtin.Int.intBits
    ((ns.getD ((↑n : Int) % (↑ns.length : Int)).toNat (0 : Int) % (1000003 : Int) + (48271 : Int) * (↑n : Int)) ^ Int.toNat (5 : Int) / (977 : Int) %
    (2147483647 : Int)) ≤
    (100000 : Nat) ∧
    PySem.Builtin.Int.intBits
    ((ns.getD ((↑n : Int) % (↑ns.length : Int)).toNat (0 : Int) % (1000003 : Int) + (48271 : Int) * (↑n : Int)) ^ Int.toNat (5 : Int) / (977 : Int) % (1000003 : Int) +
    (1 : Int)) ≤
    (100000 : Nat)) ∧
    (PySem.Builtin.Int.intBits (↑n : Int) ≤ (100000 : Nat) ∧ PySem.Builtin.Int.intBits (↑n : Int) ≤ (100000 : Nat)) ∧
    (PySem.Builtin.Int.intBits
    ((ns.getD ((↑n : Int) % (↑ns.length : Int)).toNat (0 : Int) % (1000003 : Int) + (48271 : Int) * (↑n : Int)) ^ Int.toNat (5 : Int) / (977 : Int) %
    (2147483647 : Int) *
    ((ns.getD ((↑n : Int) % (↑ns.length : Int)).toNat (0 : Int) % (1000003 : Int) + (48271 : Int) * (↑n : Int)) ^ Int.toNat (5 : Int) / (977 : Int) %
    (1000003 : Int) +
    (1 : Int))) ≤
    (100000 : Nat) ∧
    PySem.Builtin.Int.intBits ((↑n : Int) * (↑n : Int) + (65537 : Int)) ≤ (100000 : Nat)) ∧
    (0 : Int) < (18446744073709551557 : Int) ∧
    (0 : Int) < m ∧
    ∃ (x : Int),
    ((Mine.PV.int
    ((ns.getD ((↑n : Int) % (↑ns.length : Int)).toNat (0 : Int) % (1000003 : Int) + (48271 : Int) * (↑n : Int)) ^ Int.toNat (5 : Int) / (977 : Int) %
    (2147483647 : Int) *
    ((ns.getD ((↑n : Int) % (↑ns.length : Int)).toNat (0 : Int) % (1000003 : Int) + (48271 : Int) * (↑n : Int)) ^ Int.toNat (5 : Int) /
    (977 : Int) %
    (1000003 : Int) +
    (1 : Int)) *
    ((↑n : Int) * (↑n : Int) + (65537 : Int)) %
    (18446744073709551557 : Int) %
    m)).toI =
    Option.some x ∧
    (0 : Int) ≤ x ∧ x < m) ∧
    n + (1 : Nat) = n + (1 : Nat))
    ((PySem.Builtin.Int.intBits (48271 : Int) ≤ (100000 : Nat) ∧ PySem.Builtin.Int.intBits (↑n : Int) ≤ (100000 : Nat)) ∧
    ((0 : Int) ≤ (5 : Int) ∧ (5 : Int) ≤ (1000 : Int) ∧ PySem.Builtin.Int.intBits ((41 : Int) + (48271 : Int) * (↑n : Int)) ≤ (100 : Nat)) ∧
    ((0 : Int) < (977 : Int) ∧ PySem.Builtin.Int.intBits (977 : Int) ≤ (8000 : Nat)) ∧
    (0 : Int) < (2147483647 : Int) ∧
    (0 : Int) < (1000003 : Int) ∧
    (PySem.Builtin.Int.intBits (((41 : Int) + (48271 : Int) * (↑n : Int)) ^ Int.toNat (5 : Int) / (977 : Int) % (2147483647 : Int)) ≤ (100000 : Nat) ∧
    PySem.Builtin.Int.intBits (((41 : Int) + (48271 : Int) * (↑n : Int)) ^ Int.toNat (5 : Int) / (977 : Int) % (1000003 : Int) + (1 : Int)) ≤ (100000 : Nat)) ∧
    (PySem.Builtin.Int.intBits (↑n : Int) ≤ (100000 : Nat) ∧ PySem.Builtin.Int.intBits (↑n : Int) ≤ (100000 : Nat)) ∧
    (PySem.Builtin.Int.intBits
    (((41 : Int) + (48271 : Int) * (↑n : Int)) ^ Int.toNat (5 : Int) / (977 : Int) % (2147483647 : Int) *
    (((41 : Int) + (48271 : Int) * (↑n : Int)) ^ Int.toNat (5 : Int) / (977 : Int) % (1000003 : Int) + (1 : Int))) ≤
    (100000 : Nat) ∧
    PySem.Builtin.Int.intBits ((↑n : Int) * (↑n : Int) + (65537 : Int)) ≤ (100000 : Nat)) ∧
    (0 : Int) < (18446744073709551557 : Int) ∧
    (0 : Int) < m ∧
    ∃ (x : Int),
    ((Mine.PV.int
    (((41 : Int) + (48271 : Int) * (↑n : Int)) ^ Int.toNat (5 : Int) / (977 : Int) % (2147483647 : Int) *
    (((41 : Int) + (48271 : Int) * (↑n : Int)) ^ Int.toNat (5 : Int) / (977 : Int) % (1000003 : Int) + (1 : Int)) *
    ((↑n : Int) * (↑n : Int) + (65537 : Int)) %
    (18446744073709551557 : Int) %
    m)).toI =
    Option.some x ∧
    (0 : Int) ≤ x ∧ x < m) ∧
    n + (1 : Nat) = n + (1 : Nat)))) (by kernel_rfl) ?_
  obtain ⟨⟨hl, h1⟩, hm⟩ := h
  have b7 : Builtin.Int.intBits (n : Int) ≤ 7 := bits_lt (by omega) (by show (n : Int) < 128; omega)
  have bn : Builtin.Int.intBits (n : Int) ≤ 100000 := Nat.le_trans b7 (by decide)
  have m1 : ∀ z : Int, Builtin.Int.intBits (z % 2147483647) ≤ 31 := fun z => bits_lt (Int.emod_nonneg _ (by decide)) (Int.lt_of_lt_of_le (Int.emod_lt_of_pos _ (by decide)) (by decide))
  have m2 : ∀ z : Int, Builtin.Int.intBits (z % 1000003) ≤ 20 := fun z => bits_lt (Int.emod_nonneg _ (by decide)) (Int.lt_of_lt_of_le (Int.emod_lt_of_pos _ (by decide)) (by decide))
  have m3 : ∀ z : Int, Builtin.Int.intBits (z % 1000003 + 1) ≤ 21 := fun z => PyProof.Rows.bits_add (m2 z) (show Builtin.Int.intBits (1 : Int) ≤ 1 by decide)
  have up : ∀ {z : Int} {k : Nat}, Builtin.Int.intBits z ≤ k → Nat.ble k 100000 = true → Builtin.Int.intBits z ≤ 100000 := fun h e => Nat.le_trans h (Nat.le_of_ble_eq_true e)
  have mb : ∀ {b : Int}, Builtin.Int.intBits b ≤ 20 → Builtin.Int.intBits (b + 48271 * (n : Int)) ≤ 100 := fun h => Nat.le_trans (PyProof.Rows.bits_add h (PyProof.Rows.bits_mul (show Builtin.Int.intBits (48271 : Int) ≤ 16 by decide) b7)) (by decide)
  have nn := up (PyProof.Rows.bits_add (PyProof.Rows.bits_mul b7 b7) (show Builtin.Int.intBits (65537 : Int) ≤ 17 by decide)) rfl
  have fin : ∀ z : Int, ∃ x : Int, ((PV.int (z % m)).toI = some x ∧ 0 ≤ x ∧ x < m) ∧ n + 1 = n + 1 := fun z => ⟨_, ⟨rfl, Int.emod_nonneg _ (Int.ne_of_gt hm), Int.emod_lt_of_pos _ hm⟩, rfl⟩
  have e48 : Builtin.Int.intBits (48271 : Int) ≤ 100000 := by decide
  have e9 : 0 < (977 : Int) ∧ Builtin.Int.intBits (977 : Int) ≤ 8000 := by decide
  refine ⟨rfl, by omega, Br.of (fun e => ?_) fun _ => Br.of (fun e => ?_) fun _ => ?_⟩
  · exact ⟨⟨by omega, of_decide_eq_true e, by omega⟩, hm, fin _⟩
  · have e := of_decide_eq_true e
    exact ⟨by omega, e, ⟨Int.emod_nonneg _ (Int.ne_of_gt e), Int.emod_lt_of_pos _ e, by omega⟩, by decide, ⟨e48, bn⟩, ⟨by decide, by decide, mb (m2 _)⟩, e9, by decide, by decide, ⟨up (m1 _) rfl, up (m3 _) rfl⟩, ⟨bn, bn⟩, ⟨up (PyProof.Rows.bits_mul (m1 _) (m3 _)) rfl, nn⟩, by decide, hm, fin _⟩
  · exact ⟨⟨e48, bn⟩, ⟨by decide, by decide, mb (by decide)⟩, e9, by decide, by decide, ⟨up (m1 _) rfl, up (m3 _) rfl⟩, ⟨bn, bn⟩, ⟨up (PyProof.Rows.bits_mul (m1 _) (m3 _)) rfl, nn⟩, by decide, hm, fin _⟩
noncomputable def cellS : Spec := fun ps n K => match ps with
  | [.pen, q] => match q.toI with
    | some m => (0 < m ∧ n ≤ 100) ∧ ∀ x, 0 ≤ x → x < m → K (.int x) (n + 1)
    | none => False
  | _ => False
theorem cells_le {sc : Scope} {r : Nat} {c : Cx sc r} : (cellsOf c.pen).length ≤ 63 := by
  cases h : c.pen with
  | none => exact Nat.zero_le _
  | some p => exact p.hi.length ▸ p.hl
noncomputable def e_law_cell : Ent := ⟨"_law_cell", 187, 7, cellS⟩
theorem k_law_cell : EntOk e_law_cell := .of f_law_cell fun c hr ps n K hS => by
  unfold cellS at hS
  split at hS
  · split at hS
    · rename_i m e
      intro s mm a vs Q E F N R b
      have R' : Reps c.P a vs [.pen, .int m] := by
        obtain ⟨x, y, rfl, r1, r2⟩ := R.two
        obtain ⟨t, rfl⟩ := r2.i e
        exact .cons r1 (.cons (.int rfl) .nil)
      refine call_of (d_law_cell _) (fun _ _ => AllOk.nil.tok) (fun _ _ => noL_ok) hr (by decide) rfl (q_cell ⟨⟨cells_le, hS.1.2⟩, hS.1.1⟩) F N R' (fun v h' tk' b' p k' F' N' u Rv hk => ?_) fun _ h => h.elim
      obtain ⟨x, ⟨h1, h2, h3⟩, rfl⟩ := hk
      obtain ⟨t, rfl⟩ := Rv.i h1
      exact b _ h' tk' b' (.int x) _ F' N' u (.int rfl) (hS.2 x h2 h3)
    · exact hS.elim
  · exact hS.elim
section
set_option genSizeOf false
set_option genInjectivity false
/-! the def that tries -/
noncomputable def tryOf (b : List Stmt) : Option (Stmt × ExceptHandler × List Stmt) := match b with
  | st :: rest => match st with
    | .Try bd hs o f _ => match o with
      | [] => match f with
        | [] => match bd with
          | [a] => match hs with
            | [h] => some (a, h, rest)
            | _ => none
          | _ => none
        | _ => none
      | _ => none
    | _ => none
  | [] => none
noncomputable def asgOf : Stmt → Option (Str × Expr)
  | .Assign ts e _ => match ts with
    | [t] => match nmOf t with
      | some x => some (x, e)
      | none => none
    | _ => none
  | _ => none
noncomputable def callOf : Expr → Option (Str × List Str)
  | .Call f args [] _ => match nmOf f with
    | some f => match nmsOf args with
      | some xs => some (f, xs)
      | none => none
    | none => none
  | _ => none
noncomputable def attOf : Expr → Option (Str × Str)
  | .Attribute o at' _ => match nmOf o with
    | some x => some (x, at')
    | none => none
  | _ => none
noncomputable def handOf : ExceptHandler → Option (Str × Str × Stmt)
  | .ExceptHandler t n b _ => match t with
    | some t => match n with
      | some n => match b with
        | [st] => match nmOf t with
          | some x => some (x, n, st)
          | none => none
        | _ => none
      | none => none
    | none => none
theorem tryOf_shape {b : List Stmt} {a : Stmt} {h : ExceptHandler} {rest : List Stmt} (e : tryOf b = some (a, h, rest)) : ∃ p, b = .Try [a] [h] [] [] p :: rest := by
  unfold tryOf at e
  repeat' split at e
  all_goals first | (cases e; done) | skip
  cases e
  exact ⟨_, rfl⟩
theorem asgOf_shape {st : Stmt} {x : Str} {e : Expr} (h : asgOf st = some (x, e)) : ∃ px p, st = .Assign [.Name x px] e p := by
  unfold asgOf at h
  split at h
  · split at h
    · split at h
      · rename_i hn
        cases h
        obtain ⟨p, rfl⟩ := nmOf_shape hn
        exact ⟨_, _, rfl⟩
      · cases h
    · cases h
  · cases h
theorem callOf_shape {e : Expr} {f : Str} {xs : List Str} (h : callOf e = some (f, xs)) : ∃ pf args p, e = .Call (.Name f pf) args [] p ∧ nmsOf args = some xs := by
  unfold callOf at h
  split at h
  · split at h
    · rename_i hn
      split at h
      · rename_i hs
        cases h
        obtain ⟨p, rfl⟩ := nmOf_shape hn
        exact ⟨_, _, _, rfl, hs⟩
      · cases h
    · cases h
  · cases h
theorem attOf_shape {e : Expr} {f x : Str} (h : attOf e = some (f, x)) : ∃ pf p, e = .Attribute (.Name f pf) x p := by
  unfold attOf at h
  split at h
  · split at h
    · rename_i hn
      cases h
      obtain ⟨p, rfl⟩ := nmOf_shape hn
      exact ⟨_, _, rfl⟩
    · cases h
  · cases h
theorem handOf_shape {e : ExceptHandler} {x n : Str} {st : Stmt} (h : handOf e = some (x, n, st)) : ∃ px p, e = .ExceptHandler (some (.Name x px)) (some n) [st] p := by
  unfold handOf at h
  split at h
  split at h
  · split at h
    · split at h
      · split at h
        · rename_i hn
          cases h
          obtain ⟨p, rfl⟩ := nmOf_shape hn
          exact ⟨_, _, rfl⟩
        · cases h
      · cases h
    · cases h
  · cases h
/-- told = f(xs), or what the error says -/
noncomputable def tryQ (b : List Stmt) (told f err cls : Str) (xs : List Str) : Bool := match tryOf b with
  | some (a, h, _) => match asgOf a with
    | some (x, e) => match callOf e with
      | some (g, ys) => match handOf h with
        | some (c, n, st) => match asgOf st with
          | some (y, e2) => match attOf e2 with
            | some (z, w) => x == told && g == f && ys == xs && c == cls && n == err && y == told && z == err && w == Str.ofString "what"
            | none => false
          | none => false
        | none => false
      | none => false
    | none => false
  | none => false
theorem tryQ_shape {b : List Stmt} {told f err cls : Str} {xs : List Str} (h : tryQ b told f err cls xs = true) : ∃ px pf args pc pa np py pz pat pas ph pt, nmsOf args = some xs ∧
    b = .Try [.Assign [.Name told px] (.Call (.Name f pf) args [] pc) pa] [.ExceptHandler (some (.Name cls np)) (some err) [.Assign [.Name told py] (.Attribute (.Name err pz) (Str.ofString "what") pat) pas] ph] [] [] pt :: b.tail := by
  unfold tryQ at h
  split at h
  · rename_i h1
    split at h
    · rename_i h2
      split at h
      · rename_i h3
        split at h
        · rename_i h4
          split at h
          · rename_i h5
            split at h
            · rename_i h6
              simp only [Bool.and_eq_true, beq_iff_eq] at h
              obtain ⟨⟨⟨⟨⟨⟨⟨rfl, rfl⟩, rfl⟩, rfl⟩, rfl⟩, rfl⟩, rfl⟩, rfl⟩ := h
              obtain ⟨_, rfl⟩ := tryOf_shape h1
              obtain ⟨_, _, rfl⟩ := asgOf_shape h2
              obtain ⟨_, _, _, rfl, hn⟩ := callOf_shape h3
              obtain ⟨_, _, rfl⟩ := handOf_shape h4
              obtain ⟨_, _, rfl⟩ := asgOf_shape h5
              obtain ⟨_, _, rfl⟩ := attOf_shape h6
              exact ⟨_, _, _, _, _, _, _, _, _, _, _, _, hn, rfl⟩
            · cases h
          · cases h
        · cases h
      · cases h
    · cases h
  · cases h
theorem Cx.S.skip {sc r} {c : Cx sc r} {m m' : Str → Option Value} {σ : Sig} {a : Led} {x : Str} (S : c.S m a σ) (hx : σ.lookup x = none) (h : ∀ y, y ≠ x → m' y = m y) : c.S m' a σ := fun y q e => by
  obtain ⟨d, w, Rw, sw⟩ := S y q e
  refine ⟨d, w, Rw, sw.imp (fun z => ⟨z.1, (h y fun e' => ?_).trans z.2⟩) id⟩
  rw [e', hx] at e
  cases e
noncomputable def looks (σ : Sig) : List Str → Option (List PV)
  | [] => some []
  | x :: xs => match σ.lookup x with
    | some p => match looks σ xs with
      | some ps => some (p :: ps)
      | none => none
    | none => none
theorem nms_cons {e : Expr} {es : List Expr} {xs : List Str} (h : nmsOf (e :: es) = some xs) : ∃ x p l, e = .Name x p ∧ nmsOf es = some l ∧ xs = x :: l := by
  unfold nmsOf at h
  split at h
  · rename_i hn
    split at h
    · rename_i hs
      cases h
      obtain ⟨p, rfl⟩ := nmOf_shape hn
      exact ⟨_, _, _, rfl, hs, rfl⟩
    · cases h
  · cases h
theorem nms_star {es : List Expr} : ∀ {xs : List Str}, nmsOf es = some xs → es.any starred = false := by
  induction es with
  | nil => exact fun _ => rfl
  | cons e es ih =>
    intro xs h
    obtain ⟨x, p, l, rfl, h1, rfl⟩ := nms_cons h
    exact ih h1
theorem nms_args {T : List Ent} {ns : List Int} {sc : Scope} {r : Nat} {σ : Sig} {n : Nat} {es : List Expr} : ∀ {xs : List Str} {ps : List PV} {K : List PV → Nat → Prop}, nmsOf es = some xs → looks σ xs = some ps → K ps n → argsW (W T ns sc r 1).1 es σ n K := by
  induction es with
  | nil =>
    intro xs ps K h1 h2 h3
    cases h1
    cases h2
    exact h3
  | cons e es ih =>
    intro xs ps K h h2 h3
    obtain ⟨x, p, l, rfl, h1, rfl⟩ := nms_cons h
    unfold looks at h2
    split at h2
    · rename_i q hq
      split at h2
      · rename_i qs hqs
        cases h2
        show (match σ.lookup x with
          | some p => argsW (W T ns sc r 1).1 es σ n fun ps n => K (p :: ps) n
          | none => False)
        rw [hq]
        exact ih h1 hqs h3
      · cases h2
    · cases h2
theorem d_law_divided (P : Params) : DefAt P 243 ["number", "divisor", "size", "is_signed"] := .four (by kernel_rfl) fun _ _ _ _ => by kernel_rfl
theorem me_at (P : Params) : nsIn (Mine.hd.heap_1 P) mainGlobals (Str.ofString "MachineError") = some (some (.ref 52)) := by k_is
theorem me_base (P : Params) : ktsIn (Mine.hd.heap_1 P) 52 "BaseException" = true := by kts_isx
theorem me_what (P : Params) : findIn (Mine.hd.heap_1 P) (.ref 52) (Str.ofString "what") = some none := by k_is
noncomputable abbrev qN : List Str := ["number", "divisor", "size", "is_signed"]
theorem divided_ok {sc : Scope} {r : Nat} {c : Cx sc r} (hr : 12 ≤ r) (ho : c.outer = []) (hcl : c.cl = []) (XB : (Mine.hd.heap_1 c.w.params).In c.base) (TB : Top Mine.hd.view_39 LO c.mean c.mg c.mb c.base) {x y z : Int} {bo : Bool} {n : Nat} {told : PV} {K : KV} {X : Nat → Prop} {TD : List Ent} (hTD : AllOk TD)
    (hq : ∀ P ns, WB [e_signed, e_fits_signed, e_wrap] ns (scAt P 166) 9 noL 40 60 (bodyAt P 166) (qN.zip [.int x, .int y, .int z, .bool bo]).reverse n K X (fun _ _ => False) (fun _ _ => False))
    (hK : ∀ p k, K p k → p.to told ∧ k = n) (hX : ∀ k, X k → told = .str (Str.ofString "divide") ∧ k = n)
    (hrest : ∀ P ns, WB TD ns (scAt P 243) 11 noL 40 60 (bodyAt P 243).tail (("told", told) :: (qN.zip [.int x, .int y, .int z, .bool bo]).reverse) n (fun p k => p.to (.bool true) ∧ k = n) (fun _ => False) (fun _ _ => False) (fun _ _ => False)) :
    CallW c 243 [.int x, .int y, .int z, .bool bo] n (fun p k => p = .bool true ∧ k = n) := by
  obtain ⟨w, mean, mg, mb, dp, un, gd, cn, ad, ccd, cl, outer, A₀, base, h₀, L, pen, BL, X0, TP, hk, hd, hu⟩ := c
  dsimp only at ho hcl XB TB
  subst ho; subst hcl
  intro s m a vs Q E F N R back
  let c : Cx sc r := ⟨w, mean, mg, mb, dp, un, gd, cn, ad, ccd, [], [], A₀, base, h₀, L, pen, BL, X0, TP, hk, hd, hu⟩
  have D := d_law_divided w.params
  obtain ⟨⟨⟨oc, od, osl, hob⟩, hfn⟩, hcd, hxs, f1, f2, f3, f4⟩ := D.at'
  have hlv : vs.length = 4 := R.len
  have hloc : ∀ y ∈ qN, okN (scAt w.params 243) y = true := fun y hy => List.all_eq_true.mp hxs y hy
  have hbind : BindsTo s (fnAt w.params 243) ⟨vs, []⟩ (qN.zip vs) := .of_eq (D.bind vs hlv)
  rw [hfn] at hbind
  refine wpAny_call (code_defS0 (A₀ := A₀) BL F X0 N.N TP rfl hob hcd (by show dp < _; omega) hbind (fun y hy => (okN_l (hloc _ (List.of_mem_zip (a := y.1) (b := y.2) hy).1)).1) ?_ hk f1 f2 f3 f4)
  intro g L' h₁ FG F' N' B' X' T' D'
  let c' : Cx (scAt w.params 243) 11 := ⟨w, mean, mg, mb, dp + 1, un + 3, gd, (fnAt w.params 243).qualname, 243, (fnAt w.params 243).code, [], [c.env], c.A, base, g, L', pen, B', X', T', f3, (by show dp + 1 + 11 < _; omega), (by show un + 3 + 8 * 11 + 64 < _; omega)⟩
  have hσ : looks (qN.zip [PV.int x, .int y, .int z, .bool bo]).reverse qN = some [.int x, .int y, .int z, .bool bo] := rfl
  have S' : c'.S (fun y => (qN.zip vs).reverse.lookup y) a (qN.zip [PV.int x, .int y, .int z, .bool bo]).reverse := fun y p e => by
    obtain ⟨v, h1, h2, h3⟩ := (Prs.zip (xs := qN) R).look e
    have h4 := okN_l (hloc _ (zip_names h3))
    exact ⟨h4.2, v, h2, .inl ⟨h4.1, h1⟩⟩
  have ht : ∀ P, tryQ (bodyAt P 243) "told" "quotient" "error" "MachineError" qN = true := fun P => by kernel_rfl
  have l1 : ∀ P, (scAt P 243).names.lookup ("quotient" : Str) = some .globalImplicit := fun P => by kernel_rfl
  have l2 : ∀ P, (scAt P 243).names.lookup ("MachineError" : Str) = some .globalImplicit := fun P => by kernel_rfl
  have l3 : ∀ P, okN (scAt P 243) "told" = true := fun P => by kernel_rfl
  have l4 : ∀ P, okN (scAt P 243) "error" = true := fun P => by kernel_rfl
  obtain ⟨px, pf, args, pc, pa, np, py, pz, pat, pas, ph, pt, hn, hb⟩ := tryQ_shape (ht w.params)
  show wpAny c'.M c'.A (execs (bodyAt w.params 243) c'.env) _ _ _
  rw [hb]
  obtain _ | ⟨e0, es⟩ := args
  · cases hn
  have hst := nms_star hn
  have hst' := Bool.or_eq_false_iff.mp (show (starred e0 || es.any starred) = false from hst)
  have hE : SE c' (W TD (cellsOf pen) (scAt w.params 243) 11 1).1 := fun h => (W_ok (c := c') (Tb := TD) (ns := cellsOf pen) hTD.tok (fun p e => by rw [show pen = some p from e]; rfl) 1).1 h
  refine wpAny_execs_cons (wpAny_Try_except (wpAny_execs_cons (wpAny_Assign_Name (Call_ (nameX_K (v := .ref 166) F' X' (topRead_of T') (f_quotient.at' _) ?_ f3 (l1 w.params) (by decide))) (swaps_of rfl))))
  refine callWith_K X' (f_quotient.keep _) (argsW_ok hE hst (nms_args hn hσ (K := fun ps k => ps = [.int x, .int y, .int z, .bool bo] ∧ k = n) ⟨rfl, rfl⟩) _ _ _ a _ _ F' ⟨N', N.pok⟩ S' fun vs1 g1 tk b ps n1 F1 N1 u R hl h1 => ⟨X'.keeps F1.keep, ?_⟩) (starEach_cons hst'.1) (plain_any hst'.2)
  obtain ⟨rfl, rfl⟩ := h1
  have hbk : ∀ g7 (B7 : Below c.A base [c.env] g7) X7 T7, SB (c := (⟨w, mean, mg, mb, dp + 1, un + 3, gd, (fnAt w.params 243).qualname, 243, (fnAt w.params 243).code, [], [c.env], c.A, base, g7, L', pen, B7, X7, T7, f3, c'.hd, c'.hu⟩ : Cx (scAt w.params 243) 11)) (WB TD (cellsOf pen) (scAt w.params 243) 11 noL 40 60) := fun g7 B7 X7 T7 {_ _ _ _ _ _ _} h => WB_ok noL_ok (by decide) hTD.tok (fun p e => by rw [show pen = some p from e]; rfl) 40 60 h
  refine call_of (c := c') (d_quotient _) (fun _ _ => (AllOk.cons k_signed (.cons k_fits_signed (.cons k_wrap .nil))).tok) (fun _ _ => noL_ok) (by decide) (by decide) rfl (hq _ _) F1 N1 R (fun v h2 tk2 b2 p k2 F2 N2 u2 R2 hk2 => ?_) (fun k2 hX2 e Dz tz G h2 tk2 hs1 u1 hs2 u2' tt b2 RX pk u2 FG2 US => ?_)
  · obtain ⟨hp, rfl⟩ := hK _ _ hk2
    refine set_one (l3 w.params) F2 N2 (S'.up (u.trans u2)) (to_rep hp R2) fun h3 tk3 m3 F3 N3 S3 => ?_
    refine wpAny_execs_nil (wpAny_execs_nil ?_)
    refine hbk g B' X' T' (hrest _ _) _ m3 b2 _ _ F3 N3 S3 ⟨fun v h4 tk4 m4 b4 p4 k4 F4 N4 u4 R4 hk4 => ?_, fun _ _ _ _ _ _ _ _ _ _ h => h.elim, fun _ _ _ _ _ _ _ _ _ _ h => h.elim, fun _ h => h.elim⟩
    obtain ⟨hp4, rfl⟩ := hk4
    exact leaveS0_ F4 N4.N KtsTurn.refl fun F5 N5 => back v h4 tk4 b4 (.bool true) _ F5 ⟨N5, N4.pok⟩ (u.trans (u2.trans u4)) (to_rep hp4 R4) ⟨rfl, rfl⟩
  · obtain ⟨rfl, rfl⟩ := hX _ hX2
    refine exc_caught RX FG2 B' US XB TB D' (me_at w.params) (me_base w.params) ?_ f3 (okN_l (l4 w.params)).1 (l2 w.params) (by decide)
    intro h7 g7 oe7 tk7 KT7 F7 N7 hc7 hd7 hn7 B7 X7 T7 D7
    refine wpAny_execs_cons (wpAny_Assign_Name (Attribute_Name_ (nameX_L F7 (if_pos rfl) ?_ f3 (okN_l (l4 w.params)).1 (by decide))) (swaps_of rfl))
    refine exc_get F7 X7 N7 (.head _) hc7 hd7 hn7 (.tail _ (.head _)) (me_what w.params) rfl (by k_handed) ?_
    refine stN F7 N7 (fun h8 F8 N8 => ?_) f3 (okN_l (l3 w.params)).1
    refine wpAny_execs_nil (name_goes_keeps F8 N8 (fun h9 v9 F9 N9 => ?_) f3 (okN_l (l4 w.params)).1)
    let c7 : Cx (scAt w.params 243) 11 := ⟨w, mean, mg, mb, dp + 1, un + 3, gd, (fnAt w.params 243).qualname, 243, (fnAt w.params 243).code, [], [c.env], c.A, base, g7, L', pen, B7, X7, T7, f3, c'.hd, c'.hu⟩
    have uu : Up c.P b2 ((e, oe7) :: (Dz, dictOf [⟨hs1, .str (Str.ofString "what") u1, .str (Str.ofString "divide") tt⟩, ⟨hs2, .str (Str.ofString "at") u2', .none⟩] 2) :: (tz, { cls := .type "tuple", data := .seq #[.str (Str.ofString "divide") tt] }) :: b2) := .of fun q hq => .tail _ (.tail _ (.tail _ hq))
    have S1 : c7.S (fun y => (qN.zip vs).reverse.lookup y) _ _ := Cx.S.up (c := c7) S' ((u.trans u2).trans uu)
    have S2 := (S1.skip (x := "error") rfl (m' := fun y => if y = Str.ofString "error" then some (.ref e) else (qN.zip vs).reverse.lookup y) fun y hy => if_neg hy)
    have S3 := S2.set (x := "told") (p := .str (Str.ofString "divide")) (v := .str (Str.ofString "divide") tt) (okN_l (l3 w.params)).2 (okN_l (l3 w.params)).1 (.str rfl trivial) (m' := fun y => if y = Str.ofString "told" then some (.str (Str.ofString "divide") tt) else if y = Str.ofString "error" then some (.ref e) else (qN.zip vs).reverse.lookup y) (if_pos rfl) (fun y hy => if_neg fun e => by subst e; simp at hy)
    have S4 := (S3.skip (x := "error") rfl (m' := fun x => if x = Str.ofString "error" then v9 else if x = Str.ofString "told" then some (.str (Str.ofString "divide") tt) else if x = Str.ofString "error" then some (.ref e) else (qN.zip vs).reverse.lookup x) fun y hy => if_neg hy)
    refine hbk g7 B7 X7 T7 (hrest _ _) _ _ _ _ _ F9 ⟨N9, pk.sub fun q hq => .tail _ (.tail _ (.tail _ hq))⟩ S4 ⟨fun v h4 tk4 m4 b4 p4 k4 F4 N4 u4 R4 hk4 => ?_, fun _ _ _ _ _ _ _ _ _ _ h => h.elim, fun _ _ _ _ _ _ _ _ _ _ h => h.elim, fun _ h => h.elim⟩
    obtain ⟨hp4, rfl⟩ := hk4
    exact leaveS0_ F4 N4.N KT7 fun F5 N5 => back v h4 tk4 b4 (.bool true) _ F5 ⟨N5, N4.pok⟩ (((u.trans u2).trans uu).trans u4) (to_rep hp4 R4) ⟨rfl, rfl⟩
end

theorem f_law_divided_right : Fun "_law_divided_right" 243 := ⟨fun P => by k_is, fun P => by k_is⟩
theorem Br.t {b : Bool} {X Y : Prop} (h : b = true) (x : X) : Br b X Y := by rw [h]; exact x
theorem Br.f {b : Bool} {X Y : Prop} (h : b = false) (x : Y) : Br b X Y := by rw [h]; exact x
theorem bits_two {k : Nat} (h : k ≤ 1000) : Builtin.Int.intBits ((2 : Int) ^ k) ≤ 100000 := by
  have := kbt_pos k
  exact Nat.le_trans (bits_lt (k := k + 1) (by omega) (by rw [Int.pow_succ]; omega)) (by omega)
theorem sgn_ne {y n : Int} (h1 : 1 ≤ n) (hy : 0 < y ∧ y < 2 ^ n.toNat) : sgn y n ≠ 0 := by
  unfold sgn
  rw [Int.emod_eq_of_lt (by omega) hy.2]
  split <;> omega
theorem bits_mod {x : Int} (h : Builtin.Int.intBits x ≤ 1000) : Builtin.Int.intBits (if x < 0 then -x else x) ≤ 100000 := by
  split
  · exact Nat.le_trans (PyProof.Rows.bits_neg h) (by decide)
  · exact Nat.le_trans h (by decide)
theorem bits_bound {k : Nat} (b : Bool) (h : k ≤ 1000) : Builtin.Int.intBits ((2 : Int) ^ k + B b) ≤ 100000 := by
  have := kbt_pos k
  have : 0 ≤ B b ∧ B b ≤ 1 := by cases b <;> decide
  exact Nat.le_trans (bits_lt (k := k + 2) (by omega) (by rw [Int.pow_succ, Int.pow_succ]; omega)) (by omega)
theorem v_dvUN {x y n : Int} {P : Params} {ns : List Int} {k : Nat} (h : (2 ≤ n ∧ n ≤ 100) ∧ (0 ≤ x ∧ x < 2 ^ (2 * n).toNat) ∧ (0 < y ∧ y < 2 ^ n.toNat) ∧ x < y * 2 ^ n.toNat) : WB [e_law_minus] ns (scAt P 243) 11 noL 40 60 (bodyAt P 243).tail (("told", .tup [.int (x / y), .int (x % y)]) :: (qN.zip [PV.int x, .int y, .int n, .bool false]).reverse) k (fun p k' => p.to (.bool true) ∧ k' = k) (fun _ => False) (fun _ _ => False) (fun _ _ => False) := by
  refine vc_cast (a :=
    ((0 : Int) ≤ n ∧ n ≤ (1000 : Int) ∧ PySem.Builtin.Int.intBits (2 : Int) ≤ (100 : Nat)) ∧
    Mine.Br (Decidable.decide (y = (0 : Int))) (Mine.PV.bool Bool.false = Mine.PV.bool Bool.true ∧ k = k)
    ((PySem.Builtin.Int.intBits (if y < (0 : Int) then -y else y) ≤ (100000 : Nat) ∧ PySem.Builtin.Int.intBits ((2 : Int) ^ n.toNat) ≤ (100000 : Nat)) ∧
    Mine.Br (Decidable.decide ((if y < (0 : Int) then -y else y) * (2 : Int) ^ n.toNat ≤ if x < (0 : Int) then -x else x)) (Mine.PV.bool Bool.false = Mine.PV.bool Bool.true ∧ k = k)
    (Mine.Br (Decidable.decide ((0 : Int) ≤ x / y))
    (((0 : Int) ≤ n ∧ n ≤ (1000 : Int) ∧ PySem.Builtin.Int.intBits (2 : Int) ≤ (100 : Nat)) ∧
    Mine.Br (Decidable.decide (x / y < (2 : Int) ^ n.toNat))
    (Mine.Br (Decidable.decide ((0 : Int) ≤ x % y))
    (((0 : Int) ≤ n ∧ n ≤ (1000 : Int) ∧ PySem.Builtin.Int.intBits (2 : Int) ≤ (100 : Nat)) ∧
    Mine.Br (Decidable.decide (x % y < (2 : Int) ^ n.toNat))
    ((PySem.Builtin.Int.intBits (x / y) ≤ (100000 : Nat) ∧ PySem.Builtin.Int.intBits y ≤ (100000 : Nat)) ∧
    Mine.Br (Decidable.decide (x / y * y + x % y = x))
    (Mine.Br (Decidable.decide ((if x % y < (0 : Int) then -(x % y) else x % y) < if y < (0 : Int) then -y else y))
    (Mine.Br (Decidable.decide (x % y = (0 : Int))) (Mine.PV.bool Bool.true = Mine.PV.bool Bool.true ∧ k = k)
    (Mine.PV.bool (Decidable.decide (x % y < (0 : Int)) == Decidable.decide (x < (0 : Int))) = Mine.PV.bool Bool.true ∧ k = k))
    (Mine.PV.bool Bool.false = Mine.PV.bool Bool.true ∧ k = k))
    (Mine.PV.bool Bool.false = Mine.PV.bool Bool.true ∧ k = k))
    False)
    False)
    False)
    False))) (by kernel_rfl) ?_
  obtain ⟨h0, hx, hy, hq⟩ := h
  have hp := kbt_pos n.toNat
  have e1 := Int.ediv_nonneg hx.1 (show 0 ≤ y by omega)
  have e2 : x / y < 2 ^ n.toNat := Int.ediv_lt_of_lt_mul hy.1 (by rw [Int.mul_comm]; exact hq)
  have e3 := Int.emod_nonneg x (show y ≠ 0 by omega)
  have e4 := Int.emod_lt_of_pos x hy.1
  have e5 := Int.mul_ediv_add_emod x y
  have e6 := Int.mul_comm y (x / y)
  have nn : 0 ≤ n ∧ n ≤ 1000 ∧ Builtin.Int.intBits (2 : Int) ≤ 100 := ⟨by omega, by omega, by decide⟩
  have b1 : Builtin.Int.intBits y ≤ 100000 := Nat.le_trans (bits_lt (by omega) hy.2) (by omega)
  have b2 : Builtin.Int.intBits (x / y) ≤ 100000 := Nat.le_trans (bits_lt e1 e2) (by omega)
  rw [if_neg (show ¬y < 0 by omega), if_neg (show ¬x < 0 by omega), if_neg (show ¬x % y < 0 by omega)]
  exact ⟨nn, Br.f (decide_eq_false (by omega)) ⟨⟨b1, bits_two (by omega)⟩, Br.f (decide_eq_false (by omega)) (Br.t (decide_eq_true e1) ⟨nn, Br.t (decide_eq_true e2) (Br.t (decide_eq_true e3) ⟨nn, Br.t (decide_eq_true (by omega)) ⟨⟨b2, b1⟩, Br.t (decide_eq_true (by omega)) (Br.t (decide_eq_true e4) (Br.of (fun _ => ⟨rfl, rfl⟩) fun _ => ⟨by rw [decide_eq_false (by omega), decide_eq_false (by omega)]; rfl, rfl⟩))⟩⟩)⟩)⟩⟩
theorem v_dvUR {x y n : Int} {P : Params} {ns : List Int} {k : Nat} (h : (2 ≤ n ∧ n ≤ 100) ∧ (0 ≤ x ∧ x < 2 ^ (2 * n).toNat) ∧ (0 ≤ y ∧ y < 2 ^ n.toNat) ∧ ¬(0 < y ∧ x < y * 2 ^ n.toNat)) : WB [e_law_minus] ns (scAt P 243) 11 noL 40 60 (bodyAt P 243).tail (("told", .str (Str.ofString "divide")) :: (qN.zip [PV.int x, .int y, .int n, .bool false]).reverse) k (fun p k' => p.to (.bool true) ∧ k' = k) (fun _ => False) (fun _ _ => False) (fun _ _ => False) := by
  refine vc_cast (a :=
    ((0 : Int) ≤ n ∧ n ≤ (1000 : Int) ∧ PySem.Builtin.Int.intBits (2 : Int) ≤ (100 : Nat)) ∧
    Mine.Br (Decidable.decide (y = (0 : Int))) (Mine.PV.bool ((PySem.Str.ofString "divide").cps.toList == (PySem.Str.ofString "divide").cps.toList) = Mine.PV.bool Bool.true ∧ k = k)
    ((PySem.Builtin.Int.intBits (if y < (0 : Int) then -y else y) ≤ (100000 : Nat) ∧ PySem.Builtin.Int.intBits ((2 : Int) ^ n.toNat) ≤ (100000 : Nat)) ∧
    Mine.Br (Decidable.decide ((if y < (0 : Int) then -y else y) * (2 : Int) ^ n.toNat ≤ if x < (0 : Int) then -x else x))
    (Mine.PV.bool ((PySem.Str.ofString "divide").cps.toList == (PySem.Str.ofString "divide").cps.toList) = Mine.PV.bool Bool.true ∧ k = k) False)) (by kernel_rfl) ?_
  obtain ⟨h0, hx, hy, hq⟩ := h
  have nn : 0 ≤ n ∧ n ≤ 1000 ∧ Builtin.Int.intBits (2 : Int) ≤ 100 := ⟨by omega, by omega, by decide⟩
  have b1 : Builtin.Int.intBits y ≤ 100000 := Nat.le_trans (bits_lt hy.1 hy.2) (by omega)
  rw [if_neg (show ¬y < 0 by omega), if_neg (show ¬x < 0 by omega)]
  exact ⟨nn, Br.of (fun _ => ⟨congrArg PV.bool (beq_self_eq_true _), rfl⟩) fun e => ⟨⟨b1, bits_two (by omega)⟩, Br.t (decide_eq_true (by have := of_decide_eq_false e; omega)) ⟨congrArg PV.bool (beq_self_eq_true _), rfl⟩⟩⟩
theorem v_dvSN {x y n q r : Int} {P : Params} {ns : List Int} {k : Nat} (h : (2 ≤ n ∧ n ≤ 100) ∧ (0 ≤ x ∧ x < 2 ^ (2 * n).toNat) ∧ (0 < y ∧ y < 2 ^ n.toNat) ∧ (-(2 ^ (n - 1).toNat) ≤ qf (sgn x (2 * n)) (sgn y n) ∧ qf (sgn x (2 * n)) (sgn y n) < 2 ^ (n - 1).toNat)) : WB [e_law_minus] ns (scAt P 243) 11 noL 40 60 (bodyAt P 243).tail (("told", .tup [.int (qf (sgn x (2 * n)) (sgn y n) % 2 ^ n.toNat), .int ((sgn x (2 * n) - qf (sgn x (2 * n)) (sgn y n) * sgn y n) % 2 ^ n.toNat)]) :: (qN.zip [PV.int x, .int y, .int n, .bool true]).reverse) k (fun p k' => p.to (.bool true) ∧ k' = k) (fun _ => False) (fun _ _ => False) (fun _ _ => False) := by
  refine vc_cast (a :=
    (PySem.Builtin.Int.intBits (2 : Int) ≤ (100000 : Nat) ∧ PySem.Builtin.Int.intBits n ≤ (100000 : Nat)) ∧
    (((1 : Int) ≤ (2 : Int) * n ∧ (2 : Int) * n ≤ (400 : Int)) ∧ (0 : Int) ≤ x ∧ x < (2 : Int) ^ ((2 : Int) * n).toNat) ∧
    (((1 : Int) ≤ n ∧ n ≤ (400 : Int)) ∧ (0 : Int) ≤ y ∧ y < (2 : Int) ^ n.toNat) ∧
    ((0 : Int) ≤ n - (1 : Int) ∧ n - (1 : Int) ≤ (1000 : Int) ∧ PySem.Builtin.Int.intBits (2 : Int) ≤ (100 : Nat)) ∧
    Mine.Br (Decidable.decide (Mine.sgn y n = (0 : Int))) (Mine.PV.bool Bool.false = Mine.PV.bool Bool.true ∧ k = k)
    ((PySem.Builtin.Int.intBits (if Mine.sgn y n < (0 : Int) then -Mine.sgn y n else Mine.sgn y n) ≤ (100000 : Nat) ∧
    PySem.Builtin.Int.intBits ((2 : Int) ^ (n - (1 : Int)).toNat + Mine.B (Decidable.decide (Mine.sgn x ((2 : Int) * n) < (0 : Int)) != Decidable.decide (Mine.sgn y n < (0 : Int)))) ≤
    (100000 : Nat)) ∧
    Mine.Br
    (Decidable.decide
    ((if Mine.sgn y n < (0 : Int) then -Mine.sgn y n else Mine.sgn y n) *
    ((2 : Int) ^ (n - (1 : Int)).toNat + Mine.B (Decidable.decide (Mine.sgn x ((2 : Int) * n) < (0 : Int)) != Decidable.decide (Mine.sgn y n < (0 : Int)))) ≤
    if Mine.sgn x ((2 : Int) * n) < (0 : Int) then -Mine.sgn x ((2 : Int) * n) else Mine.sgn x ((2 : Int) * n)))
    (Mine.PV.bool Bool.false = Mine.PV.bool Bool.true ∧ k = k)
    (Mine.Br (Decidable.decide ((0 : Int) ≤ Mine.qf (Mine.sgn x ((2 : Int) * n)) (Mine.sgn y n) % (2 : Int) ^ n.toNat))
    (((0 : Int) ≤ n ∧ n ≤ (1000 : Int) ∧ PySem.Builtin.Int.intBits (2 : Int) ≤ (100 : Nat)) ∧
    Mine.Br (Decidable.decide (Mine.qf (Mine.sgn x ((2 : Int) * n)) (Mine.sgn y n) % (2 : Int) ^ n.toNat < (2 : Int) ^ n.toNat))
    (Mine.Br (Decidable.decide ((0 : Int) ≤ (Mine.sgn x ((2 : Int) * n) - Mine.qf (Mine.sgn x ((2 : Int) * n)) (Mine.sgn y n) * Mine.sgn y n) % (2 : Int) ^ n.toNat))
    (((0 : Int) ≤ n ∧ n ≤ (1000 : Int) ∧ PySem.Builtin.Int.intBits (2 : Int) ≤ (100 : Nat)) ∧
    Mine.Br (Decidable.decide ((Mine.sgn x ((2 : Int) * n) - Mine.qf (Mine.sgn x ((2 : Int) * n)) (Mine.sgn y n) * Mine.sgn y n) % (2 : Int) ^ n.toNat < (2 : Int) ^ n.toNat))
    ((((1 : Int) ≤ n ∧ n ≤ (400 : Int)) ∧
    (0 : Int) ≤ Mine.qf (Mine.sgn x ((2 : Int) * n)) (Mine.sgn y n) % (2 : Int) ^ n.toNat ∧
    Mine.qf (Mine.sgn x ((2 : Int) * n)) (Mine.sgn y n) % (2 : Int) ^ n.toNat < (2 : Int) ^ n.toNat) ∧
    (((1 : Int) ≤ n ∧ n ≤ (400 : Int)) ∧
    (0 : Int) ≤ (Mine.sgn x ((2 : Int) * n) - Mine.qf (Mine.sgn x ((2 : Int) * n)) (Mine.sgn y n) * Mine.sgn y n) % (2 : Int) ^ n.toNat ∧
    (Mine.sgn x ((2 : Int) * n) - Mine.qf (Mine.sgn x ((2 : Int) * n)) (Mine.sgn y n) * Mine.sgn y n) % (2 : Int) ^ n.toNat < (2 : Int) ^ n.toNat) ∧
    (PySem.Builtin.Int.intBits (Mine.sgn (Mine.qf (Mine.sgn x ((2 : Int) * n)) (Mine.sgn y n) % (2 : Int) ^ n.toNat) n) ≤ (100000 : Nat) ∧
    PySem.Builtin.Int.intBits (Mine.sgn y n) ≤ (100000 : Nat)) ∧
    Mine.Br
    (Decidable.decide
    (Mine.sgn (Mine.qf (Mine.sgn x ((2 : Int) * n)) (Mine.sgn y n) % (2 : Int) ^ n.toNat) n * Mine.sgn y n +
    Mine.sgn ((Mine.sgn x ((2 : Int) * n) - Mine.qf (Mine.sgn x ((2 : Int) * n)) (Mine.sgn y n) * Mine.sgn y n) % (2 : Int) ^ n.toNat) n =
    Mine.sgn x ((2 : Int) * n)))
    (Mine.Br
    (Decidable.decide
    ((if Mine.sgn ((Mine.sgn x ((2 : Int) * n) - Mine.qf (Mine.sgn x ((2 : Int) * n)) (Mine.sgn y n) * Mine.sgn y n) % (2 : Int) ^ n.toNat) n < (0 : Int) then
    -Mine.sgn ((Mine.sgn x ((2 : Int) * n) - Mine.qf (Mine.sgn x ((2 : Int) * n)) (Mine.sgn y n) * Mine.sgn y n) % (2 : Int) ^ n.toNat) n
    else Mine.sgn ((Mine.sgn x ((2 : Int) * n) - Mine.qf (Mine.sgn x ((2 : Int) * n)) (Mine.sgn y n) * Mine.sgn y n) % (2 : Int) ^ n.toNat) n) <
    if Mine.sgn y n < (0 : Int) then -Mine.sgn y n else Mine.sgn y n))
    (Mine.Br
    (Decidable.decide
    (Mine.sgn ((Mine.sgn x ((2 : Int) * n) - Mine.qf (Mine.sgn x ((2 : Int) * n)) (Mine.sgn y n) * Mine.sgn y n) % (2 : Int) ^ n.toNat) n = (0 : Int)))
    (Mine.PV.bool Bool.true = Mine.PV.bool Bool.true ∧ k = k)
    (Mine.PV.bool
    (Decidable.decide
    (Mine.sgn ((Mine.sgn x ((2 : Int) * n) - Mine.qf (Mine.sgn x ((2 : Int) * n)) (Mine.sgn y n) * Mine.sgn y n) % (2 : Int) ^ n.toNat) n < (0 : Int)) ==
    Decidable.decide (Mine.sgn x ((2 : Int) * n) < (0 : Int))) =
    Mine.PV.bool Bool.true ∧
    k = k))
    (Mine.PV.bool Bool.false = Mine.PV.bool Bool.true ∧ k = k))
    (Mine.PV.bool Bool.false = Mine.PV.bool Bool.true ∧ k = k))
    False)
    False)
    False)
    False))) (by kernel_rfl) ?_
  obtain ⟨h0, hx, hy, hf⟩ := h
  have b0 : Builtin.Int.intBits (2 : Int) ≤ 100000 ∧ Builtin.Int.intBits n ≤ 100000 := ⟨by decide, Nat.le_trans (bits_lt (k := 7) (by omega) (by show n < 128; omega)) (by decide)⟩
  have nn : 0 ≤ n ∧ n ≤ 1000 ∧ Builtin.Int.intBits (2 : Int) ≤ 100 := ⟨by omega, by omega, by decide⟩
  have n1 : 0 ≤ n - 1 ∧ n - 1 ≤ 1000 ∧ Builtin.Int.intBits (2 : Int) ≤ 100 := ⟨by omega, by omega, by decide⟩
  have m1 : ((1 ≤ 2 * n ∧ 2 * n ≤ 400) ∧ 0 ≤ x ∧ x < 2 ^ (2 * n).toNat) := ⟨by omega, hx⟩
  have m2 : ((1 ≤ n ∧ n ≤ 400) ∧ 0 ≤ y ∧ y < 2 ^ n.toNat) := ⟨by omega, by omega⟩
  have bp := bits_mod (bits_sgn (x := y) (n := n) (by omega))
  have bb := bits_bound (decide (sgn x (2 * n) < 0) != decide (sgn y n < 0)) (k := (n - 1).toNat) (by omega)
  have hp : sgn y n ≠ 0 := sgn_ne (by omega) hy
  have hpp := kbt_pos n.toNat
  have sp := qf_split (w := sgn x (2 * n)) hp
  have ff := (qf_fits (w := sgn x (2 * n)) (kbt_pos (n - 1).toNat) hp).mp hf
  have pb := sgn_bounds (x := y) (n := n) (by omega)
  have hF := (sgn_back (w := qf (sgn x (2 * n)) (sgn y n)) (n := n) (by omega)).mpr hf
  have hR : sgn ((sgn x (2 * n) - qf (sgn x (2 * n)) (sgn y n) * sgn y n) % 2 ^ n.toNat) n = sgn x (2 * n) - qf (sgn x (2 * n)) (sgn y n) * sgn y n := (sgn_back (by omega)).mpr (by have h1 := sp.1; split at h1 <;> split at h1 <;> omega)
  have q0 := Int.emod_nonneg (qf (sgn x (2 * n)) (sgn y n)) (show (2 : Int) ^ n.toNat ≠ 0 by omega)
  have q1 := Int.emod_lt_of_pos (qf (sgn x (2 * n)) (sgn y n)) hpp
  have q2 := Int.emod_nonneg (sgn x (2 * n) - qf (sgn x (2 * n)) (sgn y n) * sgn y n) (show (2 : Int) ^ n.toNat ≠ 0 by omega)
  have q3 := Int.emod_lt_of_pos (sgn x (2 * n) - qf (sgn x (2 * n)) (sgn y n) * sgn y n) hpp
  have bq : Builtin.Int.intBits (sgn (qf (sgn x (2 * n)) (sgn y n) % 2 ^ n.toNat) n) ≤ 100000 := Nat.le_trans (bits_sgn (by omega)) (by decide)
  have by' : Builtin.Int.intBits (sgn y n) ≤ 100000 := Nat.le_trans (bits_sgn (by omega)) (by decide)
  rw [hF] at bq ⊢
  rw [hR]
  refine ⟨b0, m1, m2, n1, Br.f (decide_eq_false hp) ⟨⟨bp, bb⟩, Br.f (decide_eq_false (by omega)) (Br.t (decide_eq_true q0) ⟨nn, Br.t (decide_eq_true q1) (Br.t (decide_eq_true q2) ⟨nn, Br.t (decide_eq_true q3) ⟨⟨by omega, q0, q1⟩, ⟨by omega, q2, q3⟩, ⟨bq, by'⟩, Br.t (decide_eq_true (by omega)) (Br.t (decide_eq_true sp.1) (Br.of (fun _ => ⟨rfl, rfl⟩) fun e => ⟨?_, rfl⟩))⟩⟩)⟩)⟩⟩
  rcases sp.2 with h | h
  · exact absurd h (of_decide_eq_false e)
  · rw [h, beq_self_eq_true]
theorem v_dvSR {x y n : Int} {P : Params} {ns : List Int} {k : Nat} (h : (2 ≤ n ∧ n ≤ 100) ∧ (0 ≤ x ∧ x < 2 ^ (2 * n).toNat) ∧ (0 ≤ y ∧ y < 2 ^ n.toNat) ∧ ¬(0 < y ∧ (-(2 ^ (n - 1).toNat) ≤ qf (sgn x (2 * n)) (sgn y n) ∧ qf (sgn x (2 * n)) (sgn y n) < 2 ^ (n - 1).toNat))) : WB [e_law_minus] ns (scAt P 243) 11 noL 40 60 (bodyAt P 243).tail (("told", .str (Str.ofString "divide")) :: (qN.zip [PV.int x, .int y, .int n, .bool true]).reverse) k (fun p k' => p.to (.bool true) ∧ k' = k) (fun _ => False) (fun _ _ => False) (fun _ _ => False) := by
  refine vc_cast (a :=
    (PySem.Builtin.Int.intBits (2 : Int) ≤ (100000 : Nat) ∧ PySem.Builtin.Int.intBits n ≤ (100000 : Nat)) ∧
    (((1 : Int) ≤ (2 : Int) * n ∧ (2 : Int) * n ≤ (400 : Int)) ∧ (0 : Int) ≤ x ∧ x < (2 : Int) ^ ((2 : Int) * n).toNat) ∧
    (((1 : Int) ≤ n ∧ n ≤ (400 : Int)) ∧ (0 : Int) ≤ y ∧ y < (2 : Int) ^ n.toNat) ∧
    ((0 : Int) ≤ n - (1 : Int) ∧ n - (1 : Int) ≤ (1000 : Int) ∧ PySem.Builtin.Int.intBits (2 : Int) ≤ (100 : Nat)) ∧
    Mine.Br (Decidable.decide (Mine.sgn y n = (0 : Int))) (Mine.PV.bool ((PySem.Str.ofString "divide").cps.toList == (PySem.Str.ofString "divide").cps.toList) = Mine.PV.bool Bool.true ∧ k = k)
    ((PySem.Builtin.Int.intBits (if Mine.sgn y n < (0 : Int) then -Mine.sgn y n else Mine.sgn y n) ≤ (100000 : Nat) ∧
    PySem.Builtin.Int.intBits ((2 : Int) ^ (n - (1 : Int)).toNat + Mine.B (Decidable.decide (Mine.sgn x ((2 : Int) * n) < (0 : Int)) != Decidable.decide (Mine.sgn y n < (0 : Int)))) ≤
    (100000 : Nat)) ∧
    Mine.Br
    (Decidable.decide
    ((if Mine.sgn y n < (0 : Int) then -Mine.sgn y n else Mine.sgn y n) *
    ((2 : Int) ^ (n - (1 : Int)).toNat + Mine.B (Decidable.decide (Mine.sgn x ((2 : Int) * n) < (0 : Int)) != Decidable.decide (Mine.sgn y n < (0 : Int)))) ≤
    if Mine.sgn x ((2 : Int) * n) < (0 : Int) then -Mine.sgn x ((2 : Int) * n) else Mine.sgn x ((2 : Int) * n)))
    (Mine.PV.bool ((PySem.Str.ofString "divide").cps.toList == (PySem.Str.ofString "divide").cps.toList) = Mine.PV.bool Bool.true ∧ k = k) False)) (by kernel_rfl) ?_
  obtain ⟨h0, hx, hy, hq⟩ := h
  have b0 : Builtin.Int.intBits (2 : Int) ≤ 100000 ∧ Builtin.Int.intBits n ≤ 100000 := ⟨by decide, Nat.le_trans (bits_lt (k := 7) (by omega) (by show n < 128; omega)) (by decide)⟩
  have nn : 0 ≤ n ∧ n ≤ 1000 ∧ Builtin.Int.intBits (2 : Int) ≤ 100 := ⟨by omega, by omega, by decide⟩
  have n1 : 0 ≤ n - 1 ∧ n - 1 ≤ 1000 ∧ Builtin.Int.intBits (2 : Int) ≤ 100 := ⟨by omega, by omega, by decide⟩
  have m1 : ((1 ≤ 2 * n ∧ 2 * n ≤ 400) ∧ 0 ≤ x ∧ x < 2 ^ (2 * n).toNat) := ⟨by omega, hx⟩
  have m2 : ((1 ≤ n ∧ n ≤ 400) ∧ 0 ≤ y ∧ y < 2 ^ n.toNat) := ⟨by omega, by omega⟩
  have bp := bits_mod (bits_sgn (x := y) (n := n) (by omega))
  have bb := bits_bound (decide (sgn x (2 * n) < 0) != decide (sgn y n < 0)) (k := (n - 1).toNat) (by omega)
  refine ⟨b0, m1, m2, n1, Br.of (fun _ => ⟨congrArg PV.bool (beq_self_eq_true _), rfl⟩) fun e => ⟨⟨bp, bb⟩, Br.t (decide_eq_true (Int.not_lt.mp fun h => hq ⟨?_, (qf_fits (kbt_pos (n - 1).toNat) (of_decide_eq_false e)).mpr h⟩)) ⟨congrArg PV.bool (beq_self_eq_true _), rfl⟩⟩⟩
  rcases Int.lt_or_eq_of_le hy.1 with h | h
  · exact h
  · refine absurd ?_ (of_decide_eq_false e)
    have := kbt_pos (n - 1).toNat
    subst h
    unfold sgn
    rw [Int.zero_emod, if_neg (by omega)]
theorem aI_inv {g : Int → Spec} {ps : List PV} {n : Nat} {K : KV} (h : aI g ps n K) : ∃ p x l, ps = p :: l ∧ p.toI = some x ∧ g x l n K := by
  unfold aI at h
  split at h
  · split at h
    · exact ⟨_, _, _, rfl, by assumption, h⟩
    · exact h.elim
  · exact h.elim
theorem aZ_inv {g : Bool → Spec} {ps : List PV} {n : Nat} {K : KV} (h : aZ g ps n K) : ∃ x l, ps = .bool x :: l ∧ g x l n K := by
  unfold aZ at h
  split at h
  · exact ⟨_, _, rfl, h⟩
  · exact h.elim
theorem aE_inv {R : Prop} {q : PV} {ps : List PV} {n : Nat} {K : KV} (h : aE R q ps n K) : ps = [] ∧ R ∧ K q n := by
  unfold aE at h
  split at h
  · exact ⟨rfl, h⟩
  · exact h.elim
noncomputable def e_law_divided : Ent := ⟨"_law_divided_right", 243, 12, aI fun x => aI fun y => aI fun n => aZ fun _ => aE ((2 ≤ n ∧ n ≤ 100) ∧ (0 ≤ x ∧ x < 2 ^ (2 * n).toNat) ∧ 0 ≤ y ∧ y < 2 ^ n.toNat) (.bool true)⟩
theorem k_law_divided {sc : Scope} {r : Nat} {c : Cx sc r} (hr : 12 ≤ r) (ho : c.outer = []) (hcl : c.cl = []) (XB : (Mine.hd.heap_1 c.w.params).In c.base) (TB : Top Mine.hd.view_39 LO c.mean c.mg c.mb c.base) (ps : List PV) (n : Nat) (K : KV) (hS : e_law_divided.spec ps n K) : CallW c 243 ps n K := by
  obtain ⟨p1, x, l1, rfl, e1, hS⟩ := aI_inv hS
  obtain ⟨p2, y, l2, rfl, e2, hS⟩ := aI_inv hS
  obtain ⟨p3, z, l3, rfl, e3, hS⟩ := aI_inv hS
  obtain ⟨b, l4, rfl, hS⟩ := aZ_inv hS
  obtain ⟨rfl, ⟨h0, hx, hy⟩, hk⟩ := aE_inv hS
  have key : CallW c 243 [.int x, .int y, .int z, .bool b] n (fun p k => p = .bool true ∧ k = n) := by
    have hT : AllOk [e_law_minus] := .cons k_law_minus .nil
    have hy2 : Builtin.Int.intBits y ≤ 1000 := Nat.le_trans (bits_lt hy.1 hy.2) (by omega)
    have hp := kbt_pos z.toNat
    cases b with
    | false =>
      by_cases hz : y = 0
      · exact divided_ok hr ho hcl XB TB hT (fun P ns => q_qu0 hz P ns n) (fun _ _ h => h.elim) (fun _ h => ⟨rfl, h⟩) fun P ns => v_dvUR ⟨h0, hx, hy, by omega⟩
      · by_cases hq : x < y * 2 ^ z.toNat
        · exact divided_ok hr ho hcl XB TB hT (fun P ns => q_quU ⟨⟨by omega, by omega⟩, hy2, Int.ediv_eq_zero_of_lt (Int.ediv_nonneg hx.1 (by omega)) (Int.ediv_lt_of_lt_mul (by omega) (by rw [Int.mul_comm]; exact hq))⟩ P ns n) (fun _ _ h => h) (fun _ h => h.elim) fun P ns => v_dvUN ⟨h0, hx, by omega, hq⟩
        · refine divided_ok hr ho hcl XB TB hT (fun P ns => q_quUR ⟨⟨by omega, by omega⟩, hy2, ?_⟩ P ns n) (fun _ _ h => h.elim) (fun _ h => ⟨rfl, h⟩) fun P ns => v_dvUR ⟨h0, hx, hy, by omega⟩
          have h1 : 2 ^ z.toNat ≤ x / y := (Int.le_ediv_iff_mul_le (by omega)).mpr (by rw [Int.mul_comm]; omega)
          have h2 : 1 ≤ x / y / 2 ^ z.toNat := (Int.le_ediv_iff_mul_le hp).mpr (by omega)
          omega
    | true =>
      by_cases hz : y = 0
      · exact divided_ok hr ho hcl XB TB hT (fun P ns => q_qu0 hz P ns n) (fun _ _ h => h.elim) (fun _ h => ⟨rfl, h⟩) fun P ns => v_dvSR ⟨h0, hx, hy, by omega⟩
      · have hne := sgn_ne (n := z) (by omega) ⟨show 0 < y by omega, hy.2⟩
        by_cases hf : -(2 ^ (z - 1).toNat) ≤ qf (sgn x (2 * z)) (sgn y z) ∧ qf (sgn x (2 * z)) (sgn y z) < 2 ^ (z - 1).toNat
        · exact divided_ok hr ho hcl XB TB hT (fun P ns => q_quS ⟨⟨by omega, hz, hne⟩, hf⟩ P ns n) (fun _ _ h => h) (fun _ h => h.elim) fun P ns => v_dvSN (q := 0) (r := 0) ⟨h0, hx, by omega, hf⟩
        · exact divided_ok hr ho hcl XB TB hT (fun P ns => q_quSR ⟨⟨by omega, hz, hne⟩, hf⟩ P ns n) (fun _ _ h => h.elim) (fun _ h => ⟨rfl, h⟩) fun P ns => v_dvSR ⟨h0, hx, hy, fun h => hf h.2⟩
  intro s m a vs Q E F N R bk
  refine key s m a vs Q E F N ?_ fun v h' tk' b' p k' F' N' u R' hk' => ?_
  · cases R with | cons r1 R => cases R with | cons r2 R => cases R with | cons r3 R =>
    obtain ⟨t1, rfl⟩ := r1.i e1
    obtain ⟨t2, rfl⟩ := r2.i e2
    obtain ⟨t3, rfl⟩ := r3.i e3
    exact .cons (.int rfl) (.cons (.int rfl) (.cons (.int rfl) R))
  · obtain ⟨rfl, rfl⟩ := hk'
    exact bk v h' tk' b' _ _ F' N' u R' hk
noncomputable def e_law_scans : Ent := ⟨"_law_scans_right", 248, 14, aI fun x => aI fun n => aN fun cs => aE ((2 ≤ n ∧ n ≤ 100) ∧ (0 ≤ x ∧ x < 2 ^ n.toNat) ∧ ∀ c ∈ cs, 0 ≤ c ∧ c < n) (.bool true)⟩
noncomputable abbrev TL : List Ent := [e_law_cell, e_law_turns_right, e_law_shifts_right, e_law_products_right, e_law_minus, e_law_divided, e_masked_count, e_law_scans]
theorem pow4_eq {n : Int} (h : 0 ≤ n) : (4 : Int) ^ n.toNat = 2 ^ (2 * n).toNat := by
  rw [show (2 * n).toNat = 2 * n.toNat by omega, Int.pow_mul]
  rfl
theorem pow4_pos {k : Nat} : (0 : Int) < 4 ^ k := Int.pow_pos (by decide)
theorem mod4_lt {x n : Int} (h : 0 ≤ n) : 0 ≤ x % 4 ^ n.toNat ∧ x % 4 ^ n.toNat < 2 ^ (2 * n).toNat := by
  rw [← pow4_eq h]
  exact ⟨Int.emod_nonneg _ (by have := pow4_pos (k := n.toNat); omega), Int.emod_lt_of_pos _ pow4_pos⟩
theorem pow_wide {x n : Int} (h : 0 ≤ n) (hx : 0 ≤ x ∧ x < 2 ^ n.toNat) : 0 ≤ x ∧ x < 2 ^ (2 * n).toNat := by
  refine ⟨hx.1, Int.lt_of_lt_of_le hx.2 ?_⟩
  rw [← kbt_cast, ← kbt_cast]
  exact Int.ofNat_le.mpr (Nat.pow_le_pow_right (by decide) (by omega))
theorem v_law {P : Params} {ns : List Int} (h : ns.length ≤ 40) : WB TL ns (scAt P 253) 20 noL 40 60 (bodyAt P 253).tail [("pen", .pen)] 0 (fun p _ => p.to (.bool true)) (fun _ => False) (fun _ _ => False) (fun _ _ => False) := by
  refine vc_cast (a :=
    ((0 : Int) < (60 : Int) ∧ (0 : Nat) ≤ (100 : Nat)) ∧
    ∀ (x : Int),
    (0 : Int) ≤ x →
    x < (60 : Int) →
    ((0 : Int) < (5 : Int) ∧ (0 : Nat) + (1 : Nat) ≤ (100 : Nat)) ∧
    ∀ (x_1 : Int),
    (0 : Int) ≤ x_1 →
    x_1 < (5 : Int) →
    ∃ (I : Int → Prop),
    (((0 : Int) ≤ x_1 ∧
    x_1 < (↑[Mine.PV.int (8 : Int), Mine.PV.int (64 : Int), Mine.PV.int (32 : Int), Mine.PV.int (16 : Int), Mine.PV.int ((2 : Int) + x)].length : Int) ∧
    [Mine.PV.int (8 : Int), Mine.PV.int (64 : Int), Mine.PV.int (32 : Int), Mine.PV.int (16 : Int), Mine.PV.int ((2 : Int) + x)].length ≤ (1000 : Nat)) ∧
    ∀ (p : Mine.PV),
    p ∈ [Mine.PV.int (8 : Int), Mine.PV.int (64 : Int), Mine.PV.int (32 : Int), Mine.PV.int (16 : Int), Mine.PV.int ((2 : Int) + x)] → ∃ (x : Int), p.toI = Option.some x ∧ I x) ∧
    ∀ (x : Int),
    I x →
    ((0 : Int) ≤ x ∧ x ≤ (1000 : Int) ∧ PySem.Builtin.Int.intBits (2 : Int) ≤ (100 : Nat)) ∧
    ((0 : Int) < (2 : Int) ^ x.toNat ∧ (0 : Nat) + (1 : Nat) + (1 : Nat) ≤ (100 : Nat)) ∧
    ∀ (x_2 : Int),
    (0 : Int) ≤ x_2 →
    x_2 < (2 : Int) ^ x.toNat →
    ((0 : Int) ≤ x ∧ x ≤ (1000 : Int) ∧ PySem.Builtin.Int.intBits (2 : Int) ≤ (100 : Nat)) ∧
    ((0 : Int) < (2 : Int) ^ x.toNat ∧ (0 : Nat) + (1 : Nat) + (1 : Nat) + (1 : Nat) ≤ (100 : Nat)) ∧
    ∀ (x_3 : Int),
    (0 : Int) ≤ x_3 →
    x_3 < (2 : Int) ^ x.toNat →
    ((0 : Int) < (2 : Int) ∧ (0 : Nat) + (1 : Nat) + (1 : Nat) + (1 : Nat) + (1 : Nat) ≤ (100 : Nat)) ∧
    ∀ (x_4 : Int),
    (0 : Int) ≤ x_4 →
    x_4 < (2 : Int) →
    ((0 : Int) < (63 : Int) ∧ (0 : Nat) + (1 : Nat) + (1 : Nat) + (1 : Nat) + (1 : Nat) + (1 : Nat) ≤ (100 : Nat)) ∧
    ∀ (x_5 : Int),
    (0 : Int) ≤ x_5 →
    x_5 < (63 : Int) →
    (((2 : Int) ≤ x ∧ x ≤ (100 : Int)) ∧
    ((0 : Int) ≤ x_2 ∧ x_2 < (2 : Int) ^ x.toNat) ∧
    ((0 : Int) ≤ x_4 ∧ x_4 < (2 : Int)) ∧
    ((0 : Nat) < [(1 : Int), x - (1 : Int), x, x + (1 : Int), (1 : Int) + x_5].length ∧
    [(1 : Int), x - (1 : Int), x, x + (1 : Int), (1 : Int) + x_5].length ≤ (1000 : Nat)) ∧
    [(1 : Int), x - (1 : Int), x, x + (1 : Int), (1 : Int) + x_5].getD (0 : Nat) (0 : Int) = (1 : Int) ∧
    ∀ (k : Int), k ∈ [(1 : Int), x - (1 : Int), x, x + (1 : Int), (1 : Int) + x_5] → (1 : Int) ≤ k ∧ k ≤ (100 : Int)) ∧
    (((2 : Int) ≤ x ∧ x ≤ (100 : Int)) ∧
    ((0 : Int) ≤ x_2 ∧ x_2 < (2 : Int) ^ x.toNat) ∧
    ((0 : Int) ≤ x_3 ∧ x_3 < (2 : Int) ^ x.toNat) ∧
    ∀ (k : Int), k ∈ [(1 : Int), x - (1 : Int), x, x + (1 : Int), (1 : Int) + x_5] → (1 : Int) ≤ k ∧ k ≤ (100 : Int)) ∧
    (((2 : Int) ≤ x ∧ x ≤ (100 : Int)) ∧ ((0 : Int) ≤ x_2 ∧ x_2 < (2 : Int) ^ x.toNat) ∧ (0 : Int) ≤ x_3 ∧ x_3 < (2 : Int) ^ x.toNat) ∧
    ((0 : Int) ≤ x - (1 : Int) ∧ x - (1 : Int) ≤ (1000 : Int) ∧ PySem.Builtin.Int.intBits (2 : Int) ≤ (100 : Nat)) ∧
    (((2 : Int) ≤ x ∧ x ≤ (100 : Int)) ∧
    ((0 : Int) ≤ x_2 ∧ x_2 < (2 : Int) ^ x.toNat) ∧
    (0 : Int) ≤ (2 : Int) ^ (x - (1 : Int)).toNat ∧ (2 : Int) ^ (x - (1 : Int)).toNat < (2 : Int) ^ x.toNat) ∧
    ((0 : Int) ≤ x ∧ x ≤ (1000 : Int) ∧ PySem.Builtin.Int.intBits (2 : Int) ≤ (100 : Nat)) ∧
    ((0 : Int) ≤ x - (1 : Int) ∧ x - (1 : Int) ≤ (1000 : Int) ∧ PySem.Builtin.Int.intBits (2 : Int) ≤ (100 : Nat)) ∧
    ((0 : Int) ≤ x - (1 : Int) ∧ x - (1 : Int) ≤ (1000 : Int) ∧ PySem.Builtin.Int.intBits (2 : Int) ≤ (100 : Nat)) ∧
    ((0 : Int) ≤ x ∧ x ≤ (1000 : Int) ∧ PySem.Builtin.Int.intBits (2 : Int) ≤ (100 : Nat)) ∧
    ((0 : Int) < (2 : Int) ^ x.toNat ∧
    (0 : Nat) + (1 : Nat) + (1 : Nat) + (1 : Nat) + (1 : Nat) + (1 : Nat) + (1 : Nat) ≤ (100 : Nat)) ∧
    ∀ (x_6 : Int),
    (0 : Int) ≤ x_6 →
    x_6 < (2 : Int) ^ x.toNat →
    ((0 : Int) < (4 : Int) ∧
    (0 : Nat) + (1 : Nat) + (1 : Nat) + (1 : Nat) + (1 : Nat) + (1 : Nat) + (1 : Nat) + (1 : Nat) ≤ (100 : Nat)) ∧
    ∀ (x_7 : Int),
    (0 : Int) ≤ x_7 →
    x_7 < (4 : Int) →
    ∃ (I : Int → Prop),
    (((0 : Int) ≤ x_7 ∧
    x_7 <
    (↑[Mine.PV.int ((2 : Int) ^ x.toNat), Mine.PV.int ((2 : Int) ^ (x - (1 : Int)).toNat),
    Mine.PV.int ((2 : Int) ^ (x - (1 : Int)).toNat + (1 : Int)), Mine.PV.int x_6].length :
    Int) ∧
    [Mine.PV.int ((2 : Int) ^ x.toNat), Mine.PV.int ((2 : Int) ^ (x - (1 : Int)).toNat),
    Mine.PV.int ((2 : Int) ^ (x - (1 : Int)).toNat + (1 : Int)), Mine.PV.int x_6].length ≤
    (1000 : Nat)) ∧
    ∀ (p : Mine.PV),
    p ∈
    [Mine.PV.int ((2 : Int) ^ x.toNat), Mine.PV.int ((2 : Int) ^ (x - (1 : Int)).toNat),
    Mine.PV.int ((2 : Int) ^ (x - (1 : Int)).toNat + (1 : Int)), Mine.PV.int x_6] →
    ∃ (x : Int), p.toI = Option.some x ∧ I x) ∧
    ∀ (x_8 : Int),
    I x_8 →
    (PySem.Builtin.Int.intBits x_3 ≤ (100000 : Nat) ∧
    PySem.Builtin.Int.intBits x_8 ≤ (100000 : Nat)) ∧
    (PySem.Builtin.Int.intBits x_3 ≤ (100000 : Nat) ∧
    PySem.Builtin.Int.intBits x_8 ≤ (100000 : Nat)) ∧
    (PySem.Builtin.Int.intBits x_3 ≤ (100000 : Nat) ∧
    PySem.Builtin.Int.intBits x_8 ≤ (100000 : Nat)) ∧
    (PySem.Builtin.Int.intBits x_3 ≤ (100000 : Nat) ∧
    PySem.Builtin.Int.intBits x_8 ≤ (100000 : Nat)) ∧
    ((0 : Int) ≤ x ∧ x ≤ (1000 : Int) ∧ PySem.Builtin.Int.intBits (4 : Int) ≤ (100 : Nat)) ∧
    ((0 : Int) < (4 : Int) ^ x.toNat ∧
    (0 : Nat) + (1 : Nat) + (1 : Nat) + (1 : Nat) + (1 : Nat) + (1 : Nat) + (1 : Nat) +
    (1 : Nat) +
    (1 : Nat) ≤
    (100 : Nat)) ∧
    ∀ (x_9 : Int),
    (0 : Int) ≤ x_9 →
    x_9 < (4 : Int) ^ x.toNat →
    ((0 : Int) ≤ x ∧
    x ≤ (1000 : Int) ∧ PySem.Builtin.Int.intBits (4 : Int) ≤ (100 : Nat)) ∧
    (0 : Int) < (4 : Int) ^ x.toNat ∧
    (((2 : Int) ≤ x ∧ x ≤ (100 : Int)) ∧
    ((0 : Int) ≤ x_3 * x_8 % (4 : Int) ^ x.toNat ∧
    x_3 * x_8 % (4 : Int) ^ x.toNat <
    (2 : Int) ^ ((2 : Int) * x).toNat) ∧
    (0 : Int) ≤ x_3 ∧ x_3 < (2 : Int) ^ x.toNat) ∧
    ((0 : Int) ≤ x ∧
    x ≤ (1000 : Int) ∧
    PySem.Builtin.Int.intBits (4 : Int) ≤ (100 : Nat)) ∧
    (0 : Int) < (4 : Int) ^ x.toNat ∧
    (((2 : Int) ≤ x ∧ x ≤ (100 : Int)) ∧
    ((0 : Int) ≤ (x_3 * x_8 - (1 : Int)) % (4 : Int) ^ x.toNat ∧
    (x_3 * x_8 - (1 : Int)) % (4 : Int) ^ x.toNat <
    (2 : Int) ^ ((2 : Int) * x).toNat) ∧
    (0 : Int) ≤ x_3 ∧ x_3 < (2 : Int) ^ x.toNat) ∧
    ((0 : Int) ≤ x ∧
    x ≤ (1000 : Int) ∧
    PySem.Builtin.Int.intBits (4 : Int) ≤ (100 : Nat)) ∧
    (0 : Int) < (4 : Int) ^ x.toNat ∧
    (((2 : Int) ≤ x ∧ x ≤ (100 : Int)) ∧
    ((0 : Int) ≤ ((0 : Int) - x_3 * x_8) % (4 : Int) ^ x.toNat ∧
    ((0 : Int) - x_3 * x_8) % (4 : Int) ^ x.toNat <
    (2 : Int) ^ ((2 : Int) * x).toNat) ∧
    (0 : Int) ≤ x_3 ∧ x_3 < (2 : Int) ^ x.toNat) ∧
    ((0 : Int) ≤ x ∧
    x ≤ (1000 : Int) ∧
    PySem.Builtin.Int.intBits (4 : Int) ≤ (100 : Nat)) ∧
    (0 : Int) < (4 : Int) ^ x.toNat ∧
    (((2 : Int) ≤ x ∧ x ≤ (100 : Int)) ∧
    ((0 : Int) ≤ (x_3 - x_3 * x_8) % (4 : Int) ^ x.toNat ∧
    (x_3 - x_3 * x_8) % (4 : Int) ^ x.toNat <
    (2 : Int) ^ ((2 : Int) * x).toNat) ∧
    (0 : Int) ≤ x_3 ∧ x_3 < (2 : Int) ^ x.toNat) ∧
    ((0 : Int) ≤ x ∧
    x ≤ (1000 : Int) ∧
    PySem.Builtin.Int.intBits (4 : Int) ≤
    (100 : Nat)) ∧
    (0 : Int) < (4 : Int) ^ x.toNat ∧
    (((2 : Int) ≤ x ∧ x ≤ (100 : Int)) ∧
    ((0 : Int) ≤ x_9 % (4 : Int) ^ x.toNat ∧
    x_9 % (4 : Int) ^ x.toNat <
    (2 : Int) ^ ((2 : Int) * x).toNat) ∧
    (0 : Int) ≤ x_3 ∧ x_3 < (2 : Int) ^ x.toNat) ∧
    (((1 : Int) ≤ x ∧ x ≤ (400 : Int)) ∧
    (0 : Int) ≤ x_3 ∧ x_3 < (2 : Int) ^ x.toNat) ∧
    (PySem.Builtin.Int.intBits
    (if Mine.sgn x_3 x < (0 : Int) then
    -Mine.sgn x_3 x
    else Mine.sgn x_3 x) ≤
    (100000 : Nat) ∧
    PySem.Builtin.Int.intBits x_8 ≤
    (100000 : Nat)) ∧
    (PySem.Builtin.Int.intBits
    (if Mine.sgn x_3 x < (0 : Int) then
    -Mine.sgn x_3 x
    else Mine.sgn x_3 x) ≤
    (100000 : Nat) ∧
    PySem.Builtin.Int.intBits x_8 ≤
    (100000 : Nat)) ∧
    (PySem.Builtin.Int.intBits
    (if Mine.sgn x_3 x < (0 : Int) then
    -Mine.sgn x_3 x
    else Mine.sgn x_3 x) ≤
    (100000 : Nat) ∧
    PySem.Builtin.Int.intBits x_8 ≤
    (100000 : Nat)) ∧
    (PySem.Builtin.Int.intBits
    (if
    Mine.sgn x_3 x <
    (0 : Int) then
    -Mine.sgn x_3 x
    else Mine.sgn x_3 x) ≤
    (100000 : Nat) ∧
    PySem.Builtin.Int.intBits x_8 ≤
    (100000 : Nat)) ∧
    ((0 : Int) ≤ x ∧
    x ≤ (1000 : Int) ∧
    PySem.Builtin.Int.intBits
    (4 : Int) ≤
    (100 : Nat)) ∧
    ((0 : Int) < (4 : Int) ^ x.toNat ∧
    (0 : Nat) + (1 : Nat) +
    (1 : Nat) +
    (1 : Nat) +
    (1 : Nat) +
    (1 : Nat) +
    (1 : Nat) +
    (1 : Nat) +
    (1 : Nat) +
    (1 : Nat) ≤
    (100 : Nat)) ∧
    ∀ (x_10 : Int),
    (0 : Int) ≤ x_10 →
    x_10 < (4 : Int) ^ x.toNat →
    ((0 : Int) ≤ x ∧
    x ≤ (1000 : Int) ∧
    PySem.Builtin.Int.intBits
    (4 : Int) ≤
    (100 : Nat)) ∧
    (0 : Int) <
    (4 : Int) ^ x.toNat ∧
    (((2 : Int) ≤ x ∧
    x ≤ (100 : Int)) ∧
    ((0 : Int) ≤
    (if
    Mine.sgn
    x_3
    x <
    (0 :
    Int) then
    -Mine.sgn
    x_3 x
    else
    Mine.sgn
    x_3 x) *
    x_8 %
    (4 : Int) ^
    x.toNat ∧
    (if
    Mine.sgn
    x_3
    x <
    (0 :
    Int) then
    -Mine.sgn
    x_3 x
    else
    Mine.sgn
    x_3 x) *
    x_8 %
    (4 : Int) ^
    x.toNat <
    (2 : Int) ^
    ((2 : Int) *
    x).toNat) ∧
    (0 : Int) ≤ x_3 ∧
    x_3 <
    (2 : Int) ^
    x.toNat) ∧
    ((0 : Int) ≤ x ∧
    x ≤ (1000 : Int) ∧
    PySem.Builtin.Int.intBits
    (4 : Int) ≤
    (100 : Nat)) ∧
    (0 : Int) <
    (4 : Int) ^
    x.toNat ∧
    (((2 : Int) ≤ x ∧
    x ≤
    (100 :
    Int)) ∧
    ((0 : Int) ≤
    ((if
    Mine.sgn
    x_3
    x <
    (0 :
    Int) then
    -Mine.sgn
    x_3
    x
    else
    Mine.sgn
    x_3
    x) *
    x_8 -
    (1 :
    Int)) %
    (4 :
    Int) ^
    x.toNat ∧
    ((if
    Mine.sgn
    x_3
    x <
    (0 :
    Int) then
    -Mine.sgn
    x_3
    x
    else
    Mine.sgn
    x_3
    x) *
    x_8 -
    (1 :
    Int)) %
    (4 :
    Int) ^
    x.toNat <
    (2 :
    Int) ^
    ((2 :
    Int) *
    x).toNat) ∧
    (0 : Int) ≤
    x_3 ∧
    x_3 <
    (2 :
    Int) ^
    x.toNat) ∧
    ((0 : Int) ≤ x ∧
    x ≤
    (1000 :
    Int) ∧
    PySem.Builtin.Int.intBits
    (4 :
    Int) ≤
    (100 :
    Nat)) ∧
    (0 : Int) <
    (4 : Int) ^
    x.toNat ∧
    (((2 : Int) ≤
    x ∧
    x ≤
    (100 :
    Int)) ∧
    ((0 :
    Int) ≤
    ((0 :
    Int) -
    (if
    Mine.sgn
    x_3
    x <
    (0 :
    Int) then
    -Mine.sgn
    x_3
    x
    else
    Mine.sgn
    x_3
    x) *
    x_8) %
    (4 :
    Int) ^
    x.toNat ∧
    ((0 :
    Int) -
    (if
    Mine.sgn
    x_3
    x <
    (0 :
    Int) then
    -Mine.sgn
    x_3
    x
    else
    Mine.sgn
    x_3
    x) *
    x_8) %
    (4 :
    Int) ^
    x.toNat <
    (2 :
    Int) ^
    ((2 :
    Int) *
    x).toNat) ∧
    (0 :
    Int) ≤
    x_3 ∧
    x_3 <
    (2 :
    Int) ^
    x.toNat) ∧
    ((0 : Int) ≤
    x ∧
    x ≤
    (1000 :
    Int) ∧
    PySem.Builtin.Int.intBits
    (4 :
    Int) ≤
    (100 :
    Nat)) ∧
    (0 :
    Int) <
    (4 :
    Int) ^
    x.toNat ∧
    (((2 :
    Int) ≤
    x ∧
    x ≤
    (100 :
    Int)) ∧
    ((0 :
    Int) ≤
    ((if
    Mine.sgn
    x_3
    x <
    (0 :
    Int) then
    -Mine.sgn
    x_3
    x
    else
    Mine.sgn
    x_3
    x) -
    (if
    Mine.sgn
    x_3
    x <
    (0 :
    Int) then
    -Mine.sgn
    x_3
    x
    else
    Mine.sgn
    x_3
    x) *
    x_8) %
    (4 :
    Int) ^
    x.toNat ∧
    ((if
    Mine.sgn
    x_3
    x <
    (0 :
    Int) then
    -Mine.sgn
    x_3
    x
    else
    Mine.sgn
    x_3
    x) -
    (if
    Mine.sgn
    x_3
    x <
    (0 :
    Int) then
    -Mine.sgn
    x_3
    x
    else
    Mine.sgn
    x_3
    x) *
    x_8) %
    (4 :
    Int) ^
    x.toNat <
    (2 :
    Int) ^
    ((2 :
    Int) *
    x).toNat) ∧
    (0 :
    Int) ≤
    x_3 ∧
    x_3 <
    (2 :
    Int) ^
    x.toNat) ∧
    ((0 :
    Int) ≤
    x ∧
    x ≤
    (1000 :
    Int) ∧
    PySem.Builtin.Int.intBits
    (4 :
    Int) ≤
    (100 :
    Nat)) ∧
    (0 :
    Int) <
    (4 :
    Int) ^
    x.toNat ∧
    (((2 :
    Int) ≤
    x ∧
    x ≤
    (100 :
    Int)) ∧
    ((0 :
    Int) ≤
    x_10 %
    (4 :
    Int) ^
    x.toNat ∧
    x_10 %
    (4 :
    Int) ^
    x.toNat <
    (2 :
    Int) ^
    ((2 :
    Int) *
    x).toNat) ∧
    (0 :
    Int) ≤
    x_3 ∧
    x_3 <
    (2 :
    Int) ^
    x.toNat) ∧
    (((2 :
    Int) ≤
    x ∧
    x ≤
    (100 :
    Int)) ∧
    ((0 :
    Int) ≤
    x_2 ∧
    x_2 <
    (2 :
    Int) ^
    ((2 :
    Int) *
    x).toNat) ∧
    (0 :
    Int) ≤
    (0 :
    Int) ∧
    (0 :
    Int) <
    (2 :
    Int) ^
    x.toNat) ∧
    (((2 :
    Int) ≤
    x ∧
    x ≤
    (100 :
    Int)) ∧
    ((0 :
    Int) ≤
    x_2 ∧
    x_2 <
    (2 :
    Int) ^
    ((2 :
    Int) *
    x).toNat) ∧
    (0 :
    Int) ≤
    (0 :
    Int) ∧
    (0 :
    Int) <
    (2 :
    Int) ^
    x.toNat) ∧
    Mine.Br
    (Decidable.decide
    ((0 :
    Int) <
    (↑ns.length :
    Int)))
    (((0 :
    Int) ≤
    (0 :
    Int) ∧
    (0 :
    Int) <
    (↑ns.length :
    Int) ∧
    ns.length ≤
    (1000 :
    Nat)) ∧
    True ∧
    ∃
    (z
    :
    Int),
    ((Decidable.decide
    (x =
    (64 :
    Int)) =
    Bool.true →
    (64 :
    Int) =
    z ∧
    (0 :
    Nat) +
    (1 :
    Nat) +
    (1 :
    Nat) +
    (1 :
    Nat) +
    (1 :
    Nat) +
    (1 :
    Nat) +
    (1 :
    Nat) +
    (1 :
    Nat) +
    (1 :
    Nat) +
    (1 :
    Nat) +
    (1 :
    Nat) =
    (0 :
    Nat) +
    (1 :
    Nat) +
    (1 :
    Nat) +
    (1 :
    Nat) +
    (1 :
    Nat) +
    (1 :
    Nat) +
    (1 :
    Nat) +
    (1 :
    Nat) +
    (1 :
    Nat) +
    (1 :
    Nat) +
    (1 :
    Nat)) ∧
    (Decidable.decide
    (x =
    (64 :
    Int)) =
    Bool.false →
    (32 :
    Int) =
    z ∧
    (0 :
    Nat) +
    (1 :
    Nat) +
    (1 :
    Nat) +
    (1 :
    Nat) +
    (1 :
    Nat) +
    (1 :
    Nat) +
    (1 :
    Nat) +
    (1 :
    Nat) +
    (1 :
    Nat) +
    (1 :
    Nat) +
    (1 :
    Nat) =
    (0 :
    Nat) +
    (1 :
    Nat) +
    (1 :
    Nat) +
    (1 :
    Nat) +
    (1 :
    Nat) +
    (1 :
    Nat) +
    (1 :
    Nat) +
    (1 :
    Nat) +
    (1 :
    Nat) +
    (1 :
    Nat) +
    (1 :
    Nat))) ∧
    (0 :
    Int) <
    z ∧
    (ns.getD
    (Int.toNat
    (0 :
    Int))
    (0 :
    Int) %
    if
    x =
    (64 :
    Int) then
    (64 :
    Int)
    else
    (32 :
    Int)) =
    ns.getD
    (Int.toNat
    (0 :
    Int))
    (0 :
    Int) %
    z ∧
    ((0 :
    Int) <
    x ∧
    (0 :
    Nat) +
    (1 :
    Nat) +
    (1 :
    Nat) +
    (1 :
    Nat) +
    (1 :
    Nat) +
    (1 :
    Nat) +
    (1 :
    Nat) +
    (1 :
    Nat) +
    (1 :
    Nat) +
    (1 :
    Nat) +
    (1 :
    Nat) ≤
    (100 :
    Nat)) ∧
    ∀
    (x_11 :
    Int),
    (0 :
    Int) ≤
    x_11 →
    x_11 <
    x →
    (((2 :
    Int) ≤
    x ∧
    x ≤
    (100 :
    Int)) ∧
    ((0 :
    Int) ≤
    x_2 ∧
    x_2 <
    (2 :
    Int) ^
    x.toNat) ∧
    ∀
    (c :
    Int),
    c ∈
    [(0 :
    Int),
    x -
    (1 :
    Int),
    x_11] →
    (0 :
    Int) ≤
    c ∧
    c <
    x) ∧
    (((2 :
    Int) ≤
    x ∧
    x ≤
    (100 :
    Int)) ∧
    ((0 :
    Int) ≤
    (0 :
    Int) ∧
    (0 :
    Int) <
    (2 :
    Int) ^
    x.toNat) ∧
    ∀
    (c :
    Int),
    c ∈
    [(0 :
    Int)] →
    (0 :
    Int) ≤
    c ∧
    c <
    x) ∧
    Mine.PV.bool
    Bool.true =
    Mine.PV.bool
    Bool.true)
    (True ∧
    ∃
    (z
    :
    Int),
    ((Decidable.decide
    (x =
    (64 :
    Int)) =
    Bool.true →
    (64 :
    Int) =
    z ∧
    (0 :
    Nat) +
    (1 :
    Nat) +
    (1 :
    Nat) +
    (1 :
    Nat) +
    (1 :
    Nat) +
    (1 :
    Nat) +
    (1 :
    Nat) +
    (1 :
    Nat) +
    (1 :
    Nat) +
    (1 :
    Nat) +
    (1 :
    Nat) =
    (0 :
    Nat) +
    (1 :
    Nat) +
    (1 :
    Nat) +
    (1 :
    Nat) +
    (1 :
    Nat) +
    (1 :
    Nat) +
    (1 :
    Nat) +
    (1 :
    Nat) +
    (1 :
    Nat) +
    (1 :
    Nat) +
    (1 :
    Nat)) ∧
    (Decidable.decide
    (x =
    (64 :
    Int)) =
    Bool.false →
    (32 :
    Int) =
    z ∧
    (0 :
    Nat) +
    (1 :
    Nat) +
    (1 :
    Nat) +
    (1 :
    Nat) +
    (1 :
    Nat) +
    (1 :
    Nat) +
    (1 :
    Nat) +
    (1 :
    Nat) +
    (1 :
    Nat) +
    (1 :
    Nat) +
    (1 :
    Nat) =
    (0 :
    Nat) +
    (1 :
    Nat) +
    (1 :
    Nat) +
    (1 :
    Nat) +
    (1 :
    Nat) +
    (1 :
    Nat) +
    (1 :
    Nat) +
    (1 :
    Nat) +
    (1 :
    Nat) +
    (1 :
    Nat) +
    (1 :
    Nat))) ∧
    (0 :
    Int) <
    z ∧
    ((77 :
    Int) %
    if
    x =
    (64 :
    Int) then
    (64 :
    Int)
    else
    (32 :
    Int)) =
    (77 :
    Int) %
    z ∧
    ((0 :
    Int) <
    x ∧
    (0 :
    Nat) +
    (1 :
    Nat) +
    (1 :
    Nat) +
    (1 :
    Nat) +
    (1 :
    Nat) +
    (1 :
    Nat) +
    (1 :
    Nat) +
    (1 :
    Nat) +
    (1 :
    Nat) +
    (1 :
    Nat) +
    (1 :
    Nat) ≤
    (100 :
    Nat)) ∧
    ∀
    (x_11 :
    Int),
    (0 :
    Int) ≤
    x_11 →
    x_11 <
    x →
    (((2 :
    Int) ≤
    x ∧
    x ≤
    (100 :
    Int)) ∧
    ((0 :
    Int) ≤
    x_2 ∧
    x_2 <
    (2 :
    Int) ^
    x.toNat) ∧
    ∀
    (c :
    Int),
    c ∈
    [(0 :
    Int),
    x -
    (1 :
    Int),
    x_11] →
    (0 :
    Int) ≤
    c ∧
    c <
    x) ∧
    (((2 :
    Int) ≤
    x ∧
    x ≤
    (100 :
    Int)) ∧
    ((0 :
    Int) ≤
    (0 :
    Int) ∧
    (0 :
    Int) <
    (2 :
    Int) ^
    x.toNat) ∧
    ∀
    (c :
    Int),
    c ∈
    [(0 :
    Int)] →
    (0 :
    Int) ≤
    c ∧
    c <
    x) ∧
    Mine.PV.bool
    Bool.true =
    Mine.PV.bool
    Bool.true)) (by kernel_rfl) ?_
  have c0 : ∀ {m : Int} {k : Nat}, 0 < m → Nat.ble k 100 = true → 0 < m ∧ k ≤ 100 := fun h e => ⟨h, Nat.le_of_ble_eq_true e⟩
  refine ⟨by decide, fun x hx0 hx1 => ⟨by decide, fun k hk0 hk1 => ⟨fun n => 2 ≤ n ∧ n ≤ 64, ⟨⟨hk0, hk1, Nat.le_of_ble_eq_true rfl⟩, fun p hp => ?_⟩, fun n hn => ?_⟩⟩⟩
  · simp only [List.mem_cons, List.not_mem_nil, or_false] at hp
    rcases hp with rfl | rfl | rfl | rfl | rfl <;> exact ⟨_, rfl, by show 2 ≤ _ ∧ _ ≤ 64; omega⟩
  dsimp only at hn
  have hn2 : 2 ≤ n ∧ n ≤ 100 := by omega
  have h2 := kbt_pos n.toNat
  have h1 := kbt_pos (n - 1).toNat
  have e1 := pow_sub_one (n := n) (by omega)
  have h4 := pow4_pos (k := n.toNat)
  have p2 : 0 ≤ n ∧ n ≤ 1000 ∧ Builtin.Int.intBits (2 : Int) ≤ 100 := ⟨by omega, by omega, by decide⟩
  have p1 : 0 ≤ n - 1 ∧ n - 1 ≤ 1000 ∧ Builtin.Int.intBits (2 : Int) ≤ 100 := ⟨by omega, by omega, by decide⟩
  have p4 : 0 ≤ n ∧ n ≤ 1000 ∧ Builtin.Int.intBits (4 : Int) ≤ 100 := ⟨by omega, by omega, by decide⟩
  refine ⟨p2, c0 h2 rfl, fun a ha0 ha1 => ⟨p2, c0 h2 rfl, fun o ho0 ho1 => ⟨c0 (by decide) rfl, fun c hc0 hc1 => ⟨c0 (by decide) rfl, fun d hd0 hd1 => ?_⟩⟩⟩⟩
  have hc : ∀ k, k ∈ [1, n - 1, n, n + 1, 1 + d] → 1 ≤ k ∧ k ≤ 100 := fun k hk => by
    simp only [List.mem_cons, List.not_mem_nil, or_false] at hk
    rcases hk with rfl | rfl | rfl | rfl | rfl <;> omega
  have ba : Builtin.Int.intBits o ≤ 100000 := Nat.le_trans (bits_lt ho0 ho1) (by omega)
  refine ⟨⟨hn2, ⟨ha0, ha1⟩, ⟨hc0, hc1⟩, ⟨Nat.succ_pos _, Nat.le_of_ble_eq_true rfl⟩, rfl, hc⟩, ⟨hn2, ⟨ha0, ha1⟩, ⟨ho0, ho1⟩, hc⟩, ⟨hn2, ⟨ha0, ha1⟩, ho0, ho1⟩, p1, ⟨hn2, ⟨ha0, ha1⟩, by omega, by omega⟩, p2, p1, p1, p2, c0 h2 rfl, fun e he0 he1 => ⟨c0 (by decide) rfl, fun g hg0 hg1 => ⟨fun z => 0 ≤ z ∧ z ≤ 2 ^ n.toNat, ⟨⟨hg0, hg1, Nat.le_of_ble_eq_true rfl⟩, fun p hp => ?_⟩, fun w hw => ?_⟩⟩⟩
  · simp only [List.mem_cons, List.not_mem_nil, or_false] at hp
    rcases hp with rfl | rfl | rfl | rfl <;> exact ⟨_, rfl, by show 0 ≤ _ ∧ _ ≤ _; omega⟩
  dsimp only at hw
  have bw : Builtin.Int.intBits w ≤ 100000 := Nat.le_trans (bits_lt (k := n.toNat + 1) hw.1 (by rw [Int.pow_succ]; omega)) (by omega)
  have bs : Builtin.Int.intBits (if sgn o n < 0 then -sgn o n else sgn o n) ≤ 100000 := bits_mod (bits_sgn (by omega))
  have D : ∀ z : Int, (2 ≤ n ∧ n ≤ 100) ∧ (0 ≤ z % 4 ^ n.toNat ∧ z % 4 ^ n.toNat < 2 ^ (2 * n).toNat) ∧ 0 ≤ o ∧ o < 2 ^ n.toNat := fun z => ⟨hn2, mod4_lt (by omega), ho0, ho1⟩
  have D0 : (2 ≤ n ∧ n ≤ 100) ∧ (0 ≤ a ∧ a < 2 ^ (2 * n).toNat) ∧ (0 : Int) ≤ 0 ∧ (0 : Int) < 2 ^ n.toNat := ⟨hn2, pow_wide (by omega) ⟨ha0, ha1⟩, Int.le_refl _, h2⟩
  have bb := And.intro ba bw
  have bc := And.intro bs bw
  refine ⟨bb, bb, bb, bb, p4, c0 h4 rfl, fun y hy0 hy1 => ⟨p4, h4, D _, p4, h4, D _, p4, h4, D _, p4, h4, D _, p4, h4, D _, ⟨by omega, ho0, ho1⟩, bc, bc, bc, bc, p4, c0 h4 rfl, fun q hq0 hq1 => ⟨p4, h4, D _, p4, h4, D _, p4, h4, D _, p4, h4, D _, p4, h4, D _, D0, D0, Br.of (fun e => ⟨⟨Int.le_refl _, of_decide_eq_true e, Nat.le_trans h (by decide)⟩, trivial, ?_⟩) fun _ => ⟨trivial, ?_⟩⟩⟩⟩
  all_goals
    refine ⟨if n = 64 then 64 else 32, ⟨fun e => ⟨(if_pos (of_decide_eq_true e)).symm, rfl⟩, fun e => ⟨(if_neg (of_decide_eq_false e)).symm, rfl⟩⟩, by split <;> decide, rfl, c0 (by omega) rfl, fun u hu0 hu1 => ⟨⟨hn2, ⟨ha0, ha1⟩, fun k hk => ?_⟩, ⟨hn2, ⟨Int.le_refl _, h2⟩, fun k hk => ?_⟩, rfl⟩⟩
    · simp only [List.mem_cons, List.not_mem_nil, or_false] at hk
      rcases hk with rfl | rfl | rfl <;> omega
    · simp only [List.mem_cons, List.not_mem_nil, or_false] at hk
      subst hk
      omega
theorem v_scans {l : List Bool} {ks : List Int} {n : Int} {P : Params} {ns : List Int} {k : Nat} (h : (n = l.length ∧ 2 ≤ n ∧ n ≤ 100) ∧ ∀ c ∈ ks, 0 ≤ c ∧ c < n) : WB [e_with_bit, e_law_meant] ns (scAt P 248) 13 noL 40 60 ((bodyAt P 248).drop 5) [("spots", .ilst ks), ("text", .txt l), ("size", .int n), ("worth", .bits l)] k (fun p k' => p.to (.bool true) ∧ k' = k) (fun _ => False) (fun _ _ => False) (fun _ _ => False) := by
  refine vc_cast (a :=
    (∀ (x : Int),
    x ∈ ks →
    ((0 : Int) ≤ n - (1 : Int) - x ∧ n - (1 : Int) - x < (↑l.length : Int)) ∧
    ((((2 : Nat) ≤ l.length ∧ l.length ≤ (200 : Nat) ∧ (0 : Int) ≤ x ∧ x < (↑l.length : Int)) ∧
    ((0 : Int) ≤ n - (1 : Int) - x ∧ n - (1 : Int) - x ≤ (↑l.length : Int)) ∧
    (List.take (n - (1 : Int) - x).toNat l).length + [Bool.true].length ≤ (5000 : Nat) ∧
    (0 : Int) ≤ n - (1 : Int) - x + (1 : Int) ∧
    (List.take (n - (1 : Int) - x).toNat l ++ [Bool.true]).length + (List.drop (n - (1 : Int) - x + (1 : Int)).toNat l).length ≤ (5000 : Nat) ∧
    True ∧
    Mine.V (List.take ((↑l.length : Int) - (1 : Int) - x).toNat l ++ Bool.true :: List.drop (((↑l.length : Int) - (1 : Int) - x).toNat + (1 : Nat)) l) =
    Mine.V (List.take (n - (1 : Int) - x).toNat l ++ [Bool.true] ++ List.drop (n - (1 : Int) - x + (1 : Int)).toNat l) ∧
    (Mine.PV.txt [!l.getD (n - (1 : Int) - x).toNat Bool.false] = Mine.PV.txt [!l.getD (n - (1 : Int) - x).toNat Bool.false] ∧
    n - (1 : Int) - x = n - (1 : Int) - x ∧ x = x ∧ Mine.PV.ilst ks = Mine.PV.ilst ks ∧ Mine.PV.txt l = Mine.PV.txt l ∧ n = n ∧ Mine.V l = Mine.V l ∧ True) ∧
    k = k) ∧
    (((2 : Nat) ≤ l.length ∧ l.length ≤ (200 : Nat) ∧ (0 : Int) ≤ x ∧ x < (↑l.length : Int)) ∧
    ((0 : Int) ≤ n - (1 : Int) - x ∧ n - (1 : Int) - x ≤ (↑l.length : Int)) ∧
    (List.take (n - (1 : Int) - x).toNat l).length + [Bool.false].length ≤ (5000 : Nat) ∧
    (0 : Int) ≤ n - (1 : Int) - x + (1 : Int) ∧
    (List.take (n - (1 : Int) - x).toNat l ++ [Bool.false]).length + (List.drop (n - (1 : Int) - x + (1 : Int)).toNat l).length ≤ (5000 : Nat) ∧
    True ∧
    Mine.V (List.take ((↑l.length : Int) - (1 : Int) - x).toNat l ++ Bool.false :: List.drop (((↑l.length : Int) - (1 : Int) - x).toNat + (1 : Nat)) l) =
    Mine.V (List.take (n - (1 : Int) - x).toNat l ++ [Bool.false] ++ List.drop (n - (1 : Int) - x + (1 : Int)).toNat l) ∧
    (Mine.PV.txt [!l.getD (n - (1 : Int) - x).toNat Bool.false] = Mine.PV.txt [!l.getD (n - (1 : Int) - x).toNat Bool.false] ∧
    n - (1 : Int) - x = n - (1 : Int) - x ∧ x = x ∧ Mine.PV.ilst ks = Mine.PV.ilst ks ∧ Mine.PV.txt l = Mine.PV.txt l ∧ n = n ∧ Mine.V l = Mine.V l ∧ True) ∧
    k = k) ∧
    (((2 : Nat) ≤ l.length ∧ l.length ≤ (200 : Nat) ∧ (0 : Int) ≤ x ∧ x < (↑l.length : Int)) ∧
    ((0 : Int) ≤ n - (1 : Int) - x ∧ n - (1 : Int) - x ≤ (↑l.length : Int)) ∧
    (List.take (n - (1 : Int) - x).toNat l).length + [!l.getD (n - (1 : Int) - x).toNat Bool.false].length ≤ (5000 : Nat) ∧
    (0 : Int) ≤ n - (1 : Int) - x + (1 : Int) ∧
    (List.take (n - (1 : Int) - x).toNat l ++ [!l.getD (n - (1 : Int) - x).toNat Bool.false]).length + (List.drop (n - (1 : Int) - x + (1 : Int)).toNat l).length ≤ (5000 : Nat) ∧
    True ∧
    Mine.V
    (List.take ((↑l.length : Int) - (1 : Int) - x).toNat l ++
    (!l.getD ((↑l.length : Int) - (1 : Int) - x).toNat Bool.false) :: List.drop (((↑l.length : Int) - (1 : Int) - x).toNat + (1 : Nat)) l) =
    Mine.V (List.take (n - (1 : Int) - x).toNat l ++ [!l.getD (n - (1 : Int) - x).toNat Bool.false] ++ List.drop (n - (1 : Int) - x + (1 : Int)).toNat l) ∧
    (Mine.PV.txt [!l.getD (n - (1 : Int) - x).toNat Bool.false] = Mine.PV.txt [!l.getD (n - (1 : Int) - x).toNat Bool.false] ∧
    n - (1 : Int) - x = n - (1 : Int) - x ∧ x = x ∧ Mine.PV.ilst ks = Mine.PV.ilst ks ∧ Mine.PV.txt l = Mine.PV.txt l ∧ n = n ∧ Mine.V l = Mine.V l ∧ True) ∧
    k = k) ∧
    True) ∧
    (Mine.PV.ilst ks = Mine.PV.ilst ks ∧ Mine.PV.txt l = Mine.PV.txt l ∧ n = n ∧ Mine.V l = Mine.V l ∧ True) ∧ k = k) ∧
    Mine.PV.bool Bool.true = Mine.PV.bool Bool.true ∧ k = k) (by kernel_rfl) ?_
  obtain ⟨⟨rfl, h0⟩, hv⟩ := h
  refine ⟨fun c hc => ?_, rfl, rfl⟩
  have hc := hv c hc
  have e1 : ∀ b : Bool, (2 ≤ l.length ∧ l.length ≤ 200 ∧ 0 ≤ c ∧ c < (l.length : Int)) ∧ (0 ≤ (l.length : Int) - 1 - c ∧ (l.length : Int) - 1 - c ≤ (l.length : Int)) ∧ (List.take ((l.length : Int) - 1 - c).toNat l).length + [b].length ≤ 5000 ∧ 0 ≤ (l.length : Int) - 1 - c + 1 ∧ (List.take ((l.length : Int) - 1 - c).toNat l ++ [b]).length + (List.drop ((l.length : Int) - 1 - c + 1).toNat l).length ≤ 5000 := fun b => by
    rw [List.length_append, List.length_take, List.length_drop]
    show _ ∧ _ ∧ _ + 1 ≤ 5000 ∧ _ ∧ _ + 1 + _ ≤ 5000
    omega
  have e2 : ∀ b : Bool, V (List.take ((l.length : Int) - 1 - c).toNat l ++ b :: List.drop (((l.length : Int) - 1 - c).toNat + 1) l) = V (List.take ((l.length : Int) - 1 - c).toNat l ++ [b] ++ List.drop ((l.length : Int) - 1 - c + 1).toNat l) := fun b => by
    rw [List.append_assoc, show ((l.length : Int) - 1 - c + 1).toNat = ((l.length : Int) - 1 - c).toNat + 1 by omega]
    rfl
  have go : ∀ (b : Bool) {R : Prop}, R → (2 ≤ l.length ∧ l.length ≤ 200 ∧ 0 ≤ c ∧ c < (l.length : Int)) ∧ (0 ≤ (l.length : Int) - 1 - c ∧ (l.length : Int) - 1 - c ≤ (l.length : Int)) ∧ (List.take ((l.length : Int) - 1 - c).toNat l).length + [b].length ≤ 5000 ∧ 0 ≤ (l.length : Int) - 1 - c + 1 ∧ (List.take ((l.length : Int) - 1 - c).toNat l ++ [b]).length + (List.drop ((l.length : Int) - 1 - c + 1).toNat l).length ≤ 5000 ∧ True ∧ V (List.take ((l.length : Int) - 1 - c).toNat l ++ b :: List.drop (((l.length : Int) - 1 - c).toNat + 1) l) = V (List.take ((l.length : Int) - 1 - c).toNat l ++ [b] ++ List.drop ((l.length : Int) - 1 - c + 1).toNat l) ∧ R := fun b R h =>
    let ⟨a1, a2, a3, a4, a5⟩ := e1 b
    ⟨a1, a2, a3, a4, a5, trivial, e2 b, h⟩
  exact ⟨by omega, ⟨go _ ⟨⟨rfl, rfl, rfl, rfl, rfl, rfl, rfl, trivial⟩, rfl⟩, go _ ⟨⟨rfl, rfl, rfl, rfl, rfl, rfl, rfl, trivial⟩, rfl⟩, go _ ⟨⟨rfl, rfl, rfl, rfl, rfl, rfl, rfl, trivial⟩, rfl⟩, trivial⟩, ⟨rfl, rfl, rfl, rfl, trivial⟩, rfl⟩
noncomputable def stAt (P : Params) (f : Addr) (i : Nat) : Stmt := (bodyAt P f).getD i (.Pass default)
/-- one statement's condition -/
noncomputable def SW (T : List Ent) (ns : List Int) (sc : Scope) (r : Nat) (st : Stmt) (σ : Sig) (n : Nat) (K : Sig → Nat → Prop) : Prop := stmtW sc (W T ns sc r 40).1 (W T ns sc r 40).2.1 (W T ns sc r 40).2.2 (WB T ns sc r noL 40 60) st σ n (fun _ _ => False) (fun _ => False) (fun _ _ => False) K
theorem v_sc1 {l : List Bool} {ks : List Int} {n : Int} {P : Params} {ns : List Int} {k : Nat} {K : Sig → Nat → Prop} (h : (n = l.length ∧ n ≤ 400) ∧ K [("text", .txt l), ("spots", .ilst ks), ("size", .int n), ("worth", .bits l)] k) : SW [e_law_signs] ns (scAt P 248) 13 (stAt P 248 0) [("spots", .ilst ks), ("size", .int n), ("worth", .bits l)] k K := by
  refine vc_cast (a :=
    (n = (↑l.length : Int) ∧ n ≤ (400 : Int)) ∧
    K [(PySem.Str.ofString "text", Mine.PV.txt l), (PySem.Str.ofString "spots", Mine.PV.ilst ks), (PySem.Str.ofString "size", Mine.PV.int n), (PySem.Str.ofString "worth", Mine.PV.bits l)] k) (by kernel_rfl) ?_
  exact h
theorem v_sc2 {l : List Bool} {ks : List Int} {n : Int} {P : Params} {ns : List Int} {k : Nat} {K : Sig → Nat → Prop} (h : ∀ x1 x2 : Int, (x1 = if first l < l.length then (first l : Int) else -1) → (x2 = if first l < l.length then n - 1 - (if first l.reverse < l.reverse.length then (first l.reverse : Int) else -1) else -1) → K [("first", .int x1), ("last", .int x2), ("text", .txt l), ("spots", .ilst ks), ("size", .int n), ("worth", .bits l)] k) : SW [] ns (scAt P 248) 13 (stAt P 248 1) [("text", .txt l), ("spots", .ilst ks), ("size", .int n), ("worth", .bits l)] k K := by
  refine vc_cast (a :=
    Mine.Br (Decidable.decide (Mine.first l < l.length))
    (K
    [(PySem.Str.ofString "first", Mine.PV.int (if Mine.first l < l.length then (↑(Mine.first l) : Int) else (-1 : Int))),
    (PySem.Str.ofString "last", Mine.PV.int (n - (1 : Int) - if Mine.first l.reverse < l.reverse.length then (↑(Mine.first l.reverse) : Int) else (-1 : Int))),
    (PySem.Str.ofString "text", Mine.PV.txt l), (PySem.Str.ofString "spots", Mine.PV.ilst ks), (PySem.Str.ofString "size", Mine.PV.int n), (PySem.Str.ofString "worth", Mine.PV.bits l)]
    k)
    (K
    [(PySem.Str.ofString "first", Mine.PV.int (if Mine.first l < l.length then (↑(Mine.first l) : Int) else (-1 : Int))), (PySem.Str.ofString "last", Mine.PV.int (-1 : Int)),
    (PySem.Str.ofString "text", Mine.PV.txt l), (PySem.Str.ofString "spots", Mine.PV.ilst ks), (PySem.Str.ofString "size", Mine.PV.int n), (PySem.Str.ofString "worth", Mine.PV.bits l)]
    k)) (by kernel_rfl) ?_
  exact Br.of (fun e => h _ _ rfl (if_pos (of_decide_eq_true e)).symm) fun e => h _ _ rfl (if_neg (of_decide_eq_false e)).symm
section
theorem ints_of_paired : ∀ {vs ys : List Value} {l : List Bool}, vs.length = l.length → (∀ (j : Nat) (v : Value), vs[j]? = some v → ∃ u, v = Value.str (T [l.getD j false]) u) → Paired (fun (v r : Value) => ∀ b u, v = Value.str (T [b]) u → ∃ k, r = Value.int (B b) k) vs ys → IntsAre ys (l.map B)
  | [], [], [], _, _, _ => .nil
  | v :: vs, y :: ys, b :: l, hl, hv, .cons hF hP => by
    obtain ⟨u, e⟩ := hv 0 v rfl
    obtain ⟨k, rfl⟩ := hF b u e
    exact .cons _ _ (ints_of_paired (by simpa using hl) (fun j v h => hv (j + 1) v h) hP)
section
variable {prog : Program} {w : World} {A : Around} {E : Value → Shared → Prop} {s₁ : Shared} {h₀ : Heap} {L : Addr} {m : Str → Option Value} {news : List (Addr × Obj)}
theorem comp_T {env : Env} {elt : Expr} {x : Str} {scope : Scope} {Q : Value → Shared → Prop} {l : List Bool} {t : Tok}
    (hh : A.handled = none) (F : Fr h₀ L s₁.heap m) (N : News h₀ L s₁.heap news) (hsz : l.length ≤ 10000)
    (g2 : ∀ C b u s₂ m₂ E', s₂.heap.Ns (compEnv scope C env).locals m₂ → m₂ x = some (.str (T [b]) u) → Fr h₀ L s₂.heap m → News h₀ L s₂.heap news → wpAny (model prog w) A (eval elt (compEnv scope C env)) (fun r s₃ => (∃ k, r = .int (B b) k) ∧ Keeps s₂ s₃) E' s₂)
    (g3 : ∀ D ys h' tk, Fr h₀ L h' m → News h₀ L h' news → h'.IsList D ys.toArray → IntsAre ys (l.map B) → Q (.ref D) { s₁ with heap := h', toks := tk }) :
    wpAny (model prog w) A (pyIter (.str (T l) t)) (CompPost prog w A env scope x [] elt Q) E s₁ := by
  unfold CompPost
  refine wpAny_pyIter_str fun o St W hst => ?_
  have up : ∀ (h' : Heap), (∀ b o', b ∉ [s₁.heap.objs.size] → (s₁.heap.push o).get? b = some o' → h'.get? b = some o') → ∀ b o', s₁.heap.get? b = some o' → h'.get? b = some o' :=
    fun h' hk b o' e => hk b o' (old_not_new e) (Heap.get?_push_of_some _ e)
  refine ⟨fun _ => true, fun v r => ∀ b u, v = .str (T [b]) u → ∃ k, r = .int (B b) k, s₁.heap.objs.size, [s₁.heap.objs.size], [s₁.heap.objs.size], (T l).cps.size, SignAt (T l), St, rfl, W A hh, sz_T hsz, hst, ?_, ⟨?_, ?_⟩, ?_⟩
  · intro b hb
    show b < (s₁.heap.push o).objs.size
    rw [Heap.size_push, List.mem_singleton.mp hb]
    exact Nat.lt_succ_self _
  · intro C i v s₃ m₃ E' hP hn hm _ htk
    rw [List.forIn_nil]
    exact wpAny_pure ⟨rfl, _, _, rfl, fun _ _ e => e⟩
  · intro C i v s₃ m₃ E' hP hp hn hm hk htk
    have hi : i < l.length := by
      obtain ⟨c, u, hc, _⟩ := hP
      have := (Array.getElem?_eq_some_iff.mp hc).1
      rwa [T_size] at this
    obtain ⟨u, rfl⟩ := sign_T hP hi
    refine wpAny_mono (g2 C _ u s₃ m₃ E' hn hm (F.keeps (up _ hk)) (N.grown (up _ hk))) (fun r s₄ h₄ => ⟨?_, h₄.2⟩) fun _ _ e => e
    intro b u' e
    injection e with e1 e2
    have e3 := T_inj.mp e1
    injection e3 with e4 _
    rw [← e4]
    exact h₄.1
  · intro D h' tk ys vs hnew hlD hplD hlen hP hF hk
    refine g3 D ys.toList h' tk (F.keeps (up h' hk)) (N.grown (up h' hk)) (by rw [Array.toArray_toList]; exact hlD) ?_
    rw [List.filter_eq_self.mpr (fun _ _ => rfl)] at hF
    rw [T_size] at hlen
    refine ints_of_paired hlen (fun j v hv => ?_) hF
    exact sign_T (hP j v hv) (by have := (List.getElem?_eq_some_iff.mp hv).1; omega)
end
section
variable {M : Model} {A : Around} {E : Value → Shared → Prop} {s : Shared} {K : Frag} {h₀ : Heap} {L C : Addr} {m mg mb : Str → Option Value} {scope : Scope} {env : Env} {p : Program} {loose : List Str}
  {x : Str} {pos : Pos} {v : Value} {Q : Value → Shared → Prop}
theorem name_compB (F : Fr h₀ L s.heap m) (X : K.In h₀) (T : TopRead p loose mg mb h₀) (hg : env.globals = mainGlobals) (hbt : env.builtins = builtinsNs) (e : nsIn K mainGlobals x = some none) (hv : bootBuiltins x = some v) (hn : x ≠ "__name__") (h : Q v s)
    (hk : scope.kind = .function := by rfl) (hx : (compEnv scope C env).kindOf x = some .globalImplicit := by rfl) (hd : (x == ("__debug__" : Str)) = false := by decide) :
    wpAny M A (eval (.Name x pos) (compEnv scope C env)) Q E s := Name_function_global hk hx (loadGlobal_builtin (env := compEnv scope C env) (by rw [show (compEnv scope C env).globals = mainGlobals from hg]; exact T.g.keeps F.keep) (mg_none_of X T.g e) (by rw [show (compEnv scope C env).builtins = builtinsNs from hbt]; exact T.b.keeps F.keep) ((T.builtins x hn).trans hv) h) hd
end
section
variable {prog : Program} {w : World} {A : Around} {E : Value → Shared → Prop} {s : Shared} {h₀ : Heap} {L : Addr} {m : Str → Option Value} {env : Env}
theorem ListComp_TD {ct elt iter : Expr} {x : Str} {px : Pos} {scope : Scope} {cl : List (Str × Addr)} {pos : Pos} {Q : Value → Shared → Prop}
    (ks : List Str) {d : Addr} {o : Obj} {kvs : List (Str × Value)} {news : List (Addr × Obj)} (F : Fr h₀ L s.heap m) (N : News h₀ L s.heap news) (hm : (d, o) ∈ news) (hd : o.IsDictOf (strKind prog w) kvs) (lo : (d == sysModules) = false)
    (hks : kvs.map (·.1) = ks) (hsz : ks.length ≤ sizeLine) (hh : A.handled = none)
    (hclos : closureFor scope env = pure cl) (hcell : ∀ y ∈ scope.names, y.2 ≠ .cell) (hkind : scope.kind = .function)
    (hnames : ∀ y ∈ scope.names, y.2 = .local → scope.names.lookup y.1 = some .local) (hx : scope.names.lookup x = some .local)
    (hs : ∀ x, foldedSetIterable iter env x = pure x)
    (hi : ∀ (Q' : Value → Shared → Prop), Q' (.ref d) s → wpAny (model prog w) A (eval iter env) Q' E s)
    (R : ∀ g, LCt.CompRestT prog w A h₀ L m env ct elt x scope cl { s with heap := g } (fun nw => (d, o) ∈ nw) (fun i v => ∃ t, v = .str (ks.getD i Str.empty) t) (LCg.FinE h₀ L m { s with heap := g } Q) ks.length 0 [] news) :
    wpAny (model prog w) A (eval (.ListComp elt [⟨.Name x px, iter, [ct], 0⟩] scope pos) env) Q E s := by
  rw [eval_ListComp]
  refine wpAny_comprehension_free (use := none) rfl hs hclos hkind hnames (hi _ ?_)
  obtain ⟨ep, ha⟩ := KdkAt.of hd
  have hat := ha.dictAt (N _ hm).1
  have hlt : d < s.heap.objs.size := Heap.lt_size (N _ hm).1
  have hlen : kvs.length = ks.length := by rw [← hks, List.length_map]
  refine wpAny_pyIter_dict lo hat ?_
  have up : ∀ b o', s.heap.get? b = some o' → (s.heap.push { cls := .type "dict_keyiterator", data := .fields #[.ref d, .int 0 0, .int kvs.length 0, .int ep 0] }).get? b = some o' := fun b o' e => Heap.get?_push_of_some _ e
  have W := Walks.dictKeys (prog := prog) (w := w) (knd := strKind prog w) hh s.heap.objs.size d (Nat.ne_of_lt hlt) kvs ep
  have W' : Walks prog w A s.heap.objs.size [s.heap.objs.size, d] [s.heap.objs.size] ks.length (fun i v => ∃ t, v = .str (ks.getD i Str.empty) t) (fun i h => h.IsKeyIter s.heap.objs.size d i kvs.length ep ∧ h.DictAt (strKind prog w) d kvs ep) := by
    rw [← hlen]
    exact { sub := W.sub, frame := W.frame, done := W.done, self := W.self,
            item := fun i s' Q' E' hi' st hQ => W.item i s' Q' E' hi' st fun v h' tk hP => hQ v h' tk (by
              obtain ⟨k, y, e, hk⟩ := hP
              obtain ⟨t, rfl⟩ := Value.isStrOf_shape hk
              exact ⟨t, by rw [← hks]; simp [e]⟩) }
  refine LCt.block_T W' hsz (fun i h st => by obtain ⟨o', e, _⟩ := st.1; exact ⟨o', e⟩) (fun i h h' o' nw st e e' k N' S => ⟨by obtain ⟨o2, q, r⟩ := st.1; rw [e] at q; cases q; exact ⟨o', e', r⟩, ha.dictAt (N' _ S).1⟩) hcell hkind hx
    ⟨⟨_, Heap.get?_push_size _ rfl, rfl, rfl⟩, hat.push _⟩ (fun b hb => ?_)
    (F.keeps up) (N.grown up) (Nat.ne_of_lt F.ns.lt) (next_is_new F) (fun p hp => Nat.ne_of_lt (Heap.lt_size (N p hp).1)) hm (R _) ?_
  · show b < (s.heap.push _).objs.size
    rw [Heap.size_push]
    rcases List.mem_cons.mp hb with rfl | hb
    · exact Nat.lt_succ_self _
    · rw [List.mem_singleton.mp hb]; exact Nat.lt_succ_of_lt hlt
  · intro D C h tk m' ys news' F' N' o1 hn hC₀ hD₀ hCL hDL hCD offC fin
    refine ⟨m', hn, fun h'' hs'' => fin D h'' tk (F'.change hs'' hCL hC₀) (fun p hp => ?_) o1⟩
    refine ⟨hs''.extBut _ _ ?_ (N' p hp).1, (N' p hp).2⟩
    rcases List.mem_cons.mp hp with rfl | hp
    · exact Ne.symm hCD
    · exact offC p hp
end
theorem sum_B : ∀ l : List Bool, (l.map B).sum = (cnt l : Nat)
  | [] => rfl
  | b :: l => by
    rw [List.map_cons, List.sum_cons, sum_B l]
    cases b <;> simp [B, cnt]

theorem off_sub {I C D : Addr} {a b : Led} (h : LCg.Off3 I C D a) (hs : ∀ p ∈ b, ∃ q ∈ a, q.1 = p.1) : LCg.Off3 I C D b := .of fun p hp => by
  obtain ⟨q, hq, e⟩ := hs p hp
  exact e ▸ h.mem q hq
/-- what stays of a ledger through calls -/
structure Stay (pen : Option PenS) (k : Nat) (a b : Led) : Prop where
  pok : PenOk pen k b
  up : Up (pen.map (·.D)) a b
  sub : ∀ p ∈ b, ∃ q ∈ a, q.1 = p.1
theorem Stay.refl {pen : Option PenS} {k : Nat} {a : Led} (h : PenOk pen k a) : Stay pen k a a := ⟨h, .refl, fun p hp => ⟨p, hp, rfl⟩⟩
theorem Stay.trans {pen : Option PenS} {k : Nat} {a b d : Led} (h : Stay pen k a b) (h' : Stay pen k b d) : Stay pen k a d := ⟨h'.pok, h.up.trans h'.up, fun p hp => by
  obtain ⟨q, hq, e⟩ := h'.sub p hp
  obtain ⟨q', hq', e'⟩ := h.sub q hq
  exact ⟨q', hq', e'.trans e⟩⟩
/-- the new ledger, cut to the old addresses -/
theorem Stay.cut {pen : Option PenS} {k : Nat} {a b : Led} (pa : PenOk pen k a) (pb : PenOk pen k b) (u : Up (pen.map (·.D)) a b) : ∃ d, (∀ q ∈ d, q ∈ b) ∧ Stay pen k a d := by
  have hm : ∀ {q : Addr × Obj}, q ∈ b → (∃ q' ∈ a, q'.1 = q.1) → q ∈ b.filter fun q => decide (q.1 ∈ a.map (·.1)) := fun h h' => List.mem_filter.mpr ⟨h, decide_eq_true (List.mem_map.mpr h')⟩
  refine ⟨b.filter fun q => decide (q.1 ∈ a.map (·.1)), fun q h => (List.mem_filter.mp h).1, fun p e => ?_, fun q hq hn => hm (u q hq hn) ⟨q, hq, rfl⟩, fun q h => List.mem_map.mp (of_decide_eq_true (List.mem_filter.mp h).2)⟩
  obtain ⟨⟨t, j, h2⟩, i, h3⟩ := pb p e
  obtain ⟨⟨t', j', h2'⟩, i', h3'⟩ := pa p e
  exact ⟨⟨t, j, hm h2 ⟨_, h2', rfl⟩⟩, i, hm h3 ⟨_, h3', rfl⟩⟩
section
variable {prog : Program} {w : World} {A : Around} {h₀ : Heap} {L : Addr} {m : Str → Option Value} {env : Env}
/-- a comprehension none of whose tests is true -/
theorem comp_false {pen : Option PenS} {k : Nat} {ct elt : Expr} {x : Str} {scope : Scope} {cl : List (Str × Addr)} {s : Shared} {S : Led → Prop} {Fin : List Value → Led → Prop} {a : Led} {ks : List Str}
    (hS : ∀ b, Stay pen k a b → S b) (hF : ∀ b, Stay pen k a b → Fin [] b)
    (helt : ∀ i, i < ks.length → ∀ I oI C oC D m₂ h tk t b E', LCg.NsObj oC m₂ → m₂ x = some (.str (ks.getD i Str.empty) t) → Fr h₀ L h m → News h₀ L h ((I, oI) :: (C, oC) :: (D, LCg.lst []) :: b) → LCg.Off3 I C D b → Stay pen k a b →
      wpAny (model prog w) A (isTrue ct (compEnvC scope cl C env) (eval ct (compEnvC scope cl C env))) (fun ok s' => ok = false ∧ ∃ h' tk' b', s' = { s with heap := h', toks := tk' } ∧ Fr h₀ L h' m ∧ News h₀ L h' ((I, oI) :: (C, oC) :: (D, LCg.lst []) :: b') ∧ Stay pen k b b') E' { s with heap := h, toks := tk }) :
    ∀ (n i : Nat) (b : Led), i + n = ks.length → Stay pen k a b → LCt.CompRestT prog w A h₀ L m env ct elt x scope cl s S (fun i v => ∃ t, v = .str (ks.getD i Str.empty) t) Fin n i [] b
  | 0, _, b, _, st => hF b st
  | n + 1, i, b, e, st => by
    refine LCt.CompRestT.succ fun v I oI C oC D m₂ h tk E' hv hC hx F N off ne => ?_
    obtain ⟨t, rfl⟩ := hv
    refine wpAny_mono (helt i (by omega) I oI C oC D m₂ h tk t b E' hC hx F N off st) (fun ok s' h' => ?_) fun _ _ y => y
    obtain ⟨rfl, h2, tk2, b', rfl, F2, N2, st2⟩ := h'
    rw [if_neg Bool.false_ne_true]
    exact ⟨h2, tk2, b', rfl, F2, N2, off_sub off st2.sub, hS _ (st.trans st2), comp_false hS hF helt n (i + 1) b' (by omega) (st.trans st2)⟩
end
end

section
/-! a ledger with objects of the walk's own ahead -/
section
variable {sc : Scope} {r : Nat} {c : Cx sc r} {σ : Sig} {n : Nat}
structure PA (c : Cx sc r) (pre a : Led) (n : Nat) (h : Heap) (m : Str → Option Value) (σ : Sig) : Prop where
  F : c.F h m
  N : News c.h₀ c.L h (pre ++ a)
  pk : PenOk c.pen n a
  off : ∀ q ∈ a, ∀ p ∈ pre, q.1 ≠ p.1
  S : c.S m a σ
theorem PA.ev {pre a : Led} {m : Str → Option Value} {s : Shared} {e : Expr} {K : KV} {Q E : Value → Shared → Prop} (x : PA c pre a n s.heap m σ) (hp : ∀ p ∈ pre, c.P ≠ some p.1) (hE : EvW c e σ n K)
    (k : ∀ v h' tk' bf b p k', PA c pre b k' h' m σ → Up c.P a b → News c.h₀ c.L h' bf → Rep c.P bf v p → K p k' → Q v { s with heap := h', toks := tk' }) : wpAny c.M c.A (eval e c.env) Q E s := by
  have u0 : Up c.P a (pre ++ a) := .of fun q hq => List.mem_append_right _ hq
  refine hE s m (pre ++ a) Q E x.F ⟨x.N, x.pk.sub fun q hq => List.mem_append_right _ hq⟩ (x.S.up u0) fun v h' tk' bf p k' F' N' u R hk => ?_
  have hb : ∀ {q : Addr × Obj}, q ∈ bf → (∃ q' ∈ a, q'.1 = q.1) → q ∈ bf.filter fun q => decide (∀ p ∈ pre, q.1 ≠ p.1) := fun {q} h ⟨q', h1, h2⟩ => List.mem_filter.mpr ⟨h, decide_eq_true fun p hp => h2 ▸ x.off q' h1 p hp⟩
  have u1 : Up c.P a (bf.filter fun q => decide (∀ p ∈ pre, q.1 ≠ p.1)) := fun q hq hn => hb (u0.trans u q hq hn) ⟨q, hq, rfl⟩
  refine k v h' tk' bf _ p k' ⟨F', fun q hq => ?_, fun p' e => ?_, fun q hq => of_decide_eq_true (List.mem_filter.mp hq).2, x.S.up u1⟩ u1 N'.N R hk
  · rcases List.mem_append.mp hq with hq | hq
    · exact N'.N _ (u _ (List.mem_append_left _ hq) (hp _ hq))
    · exact N'.N _ (List.mem_filter.mp hq).1
  · obtain ⟨⟨t, i, h1⟩, j, h2⟩ := N'.pok p' e
    obtain ⟨⟨t', i', h1'⟩, j', h2'⟩ := x.pk p' e
    exact ⟨⟨t, i, hb h1 ⟨_, h1', rfl⟩⟩, j, hb h2 ⟨_, h2', rfl⟩⟩
theorem PA.flat {pre a : Led} {m : Str → Option Value} {s : Shared} {e : Expr} {q : PV} {Q E : Value → Shared → Prop} (x : PA c pre a n s.heap m σ) (hp : ∀ p ∈ pre, c.P ≠ some p.1) (hE : EvW c e σ n fun p k => p.to q ∧ k = n) (hf : flatP q = true)
    (k : ∀ v h' tk' b, PA c pre b n h' m σ → Up c.P a b → Rep c.P [] v q → Q v { s with heap := h', toks := tk' }) : wpAny c.M c.A (eval e c.env) Q E s :=
  x.ev hp hE fun v h' tk' _ b _ _ x' u _ R hk => by
    obtain ⟨h1, rfl⟩ := hk
    exact k v h' tk' b x' u ((to_rep h1 R).flat hf)
theorem PA.fresh {pre a : Led} {m : Str → Option Value} {h : Heap} {d : Addr} (x : PA c pre a n h m σ) (l : ∀ p ∈ pre ++ a, p.1 < d) : c.P ≠ some d :=
  Cx.N.fresh ⟨fun q hq => x.N q (List.mem_append_right _ hq), x.pk⟩ fun p hp => l p (List.mem_append_right _ hp)
variable {Q : Flow → Shared → Prop} {E : Value → Shared → Prop} {s : Shared} {m : Str → Option Value} {a : Led} {x : Str} {cd : Addr} {oc : Obj}
/-- a dict of three is made and put into a cell -/
theorem st_dict {px ps pd p1 p2 p3 : Pos} {k1 k2 k3 : Str} {j1 j2 j3 : Nat} {e1 e2 e3 : Expr} {q1 q2 q3 : PV} (hx : sc.names.lookup x = some .cell) (hcl : c.cl.lookup x = some cd) (hP : c.P ≠ some cd) (hoc : oc.data = .cell none) (hE1 : EvW c e1 σ n fun p k => p.to q1 ∧ k = n) (hE2 : EvW c e2 σ n fun p k => p.to q2 ∧ k = n) (hE3 : EvW c e3 σ n fun p k => p.to q3 ∧ k = n)
    (f1 : flatP q1 = true) (f2 : flatP q2 = true) (f3 : flatP q3 = true) (hnd : [k1, k2, k3].Nodup) (A : PA c [(cd, oc)] a n s.heap m σ)
    (k : ∀ d o' oc' v1 v2 v3 h' tk' b, PA c [(d, o'), (cd, oc')] b n h' m σ → Up c.P a b → c.P ≠ some d → d ≠ cd → (d == sysModules) = false → oc'.data = .cell (some (.ref d)) → o'.IsDictOf (PySem.strKind PySem.Challenge.rw_pb0415_01.row.prog c.w) [(k1, v1), (k2, v2), (k3, v3)] → Rep c.P [] v1 q1 → Rep c.P [] v2 q2 → Rep c.P [] v3 q3 → Q .next { s with heap := h', toks := tk' }) :
    wpAny c.M c.A (exec (.Assign [.Name x px] (.Dict [some (.Constant (.str k1) j1 p1), some (.Constant (.str k2) j2 p2), some (.Constant (.str k3) j3 p3)] [e1, e2, e3] pd) ps) c.env) Q E s := by
  refine wpAny_Assign_Name (kdn_str rfl A.F A.N (Top.nolimit c.TP) rfl rfl (List.cons_ne_nil _ _) (Nat.le_of_ble_eq_true rfl) fun d h1 o F1 N1 l lo hd => ?_) (swaps_of rfl)
  have hPd : c.P ≠ some d := A.fresh l
  have hp : ∀ p ∈ [(d, o), (cd, oc)], c.P ≠ some p.1 := fun p h => by
    rcases List.mem_cons.mp h with rfl | h
    · exact hPd
    · rw [List.mem_singleton.mp h]; exact hP
  have A1 : PA c [(d, o), (cd, oc)] a n h1 m σ := ⟨F1, N1, A.pk, fun q hq p h => by
    rcases List.mem_cons.mp h with rfl | h
    · exact Nat.ne_of_lt (l q (.tail _ hq))
    · exact A.off q hq p h, A.S⟩
  refine pairTrees_cons_walk (Constant_str (A1.flat hp hE1 f1 fun v1 h2 tk2 b1 A2 u1 R1 => pairTrees_cons_walk (Constant_str (A2.flat hp hE2 f2 fun v2 h3 tk3 b2 A3 u2 R2 => pairTrees_cons_walk (Constant_str (A3.flat hp hE3 f3 fun v3 h4 tk4 b3 A4 u3 R3 => pairTrees_nil_walk ?_))))))
  have hdc : d ≠ cd := Ne.symm (Nat.ne_of_lt (l _ (.head _)))
  refine kdn_made_str A4.F A4.N (.head fun p hp => ?_) hd rfl hnd fun h5 o' F5 N5 hd' => ?_
  · rcases List.mem_cons.mp hp with rfl | hp
    · exact hdc.symm
    · exact A4.off p hp (d, o) (.head _)
  · refine storeX_C F5 N5 hcl (.tail hdc (.head fun p hp => A4.off p hp (cd, oc) (.tail _ (.head _)))) hoc (fun h6 oc' F6 N6 hd6 => ?_) c.hk hx
    exact k d o' oc' v1 v2 v3 h6 _ b3 ⟨F6, N6, A4.pk, fun q hq p h => by
      rcases List.mem_cons.mp h with rfl | h
      · exact A4.off q hq (d, o) (.head _)
      · rw [List.mem_singleton.mp h]; exact A4.off q hq (cd, oc) (.tail _ (.head _)), A4.S⟩ (u1.trans (u2.trans u3)) hPd hdc lo hd6 hd' R1 R2 R3
theorem noswap_sub {o1 i1 o2 i2 : Expr} {z1 z2 pt pv : Pos} {kk kv : Nat} {vs : List Expr} {env : Env} : swappedStores [.Tuple [.Subscript o1 i1 z1, .Subscript o2 i2 z2] kk pt] (.Tuple vs kv pv) env = pure none := by
  unfold swappedStores
  dsimp only
  split
  · rfl
  · split
    · rfl
    · rfl
/-- two items are put into the dict -/
theorem st_two {d : Addr} {o : Obj} {k4 k5 : Str} {j4 j5 kk kv : Nat} {p1 p2 p3 p4 p5 p6 pt pv ps : Pos} {vs : List Expr} {q4 q5 : PV} {kvs : List (Str × Value)} (hx : sc.names.lookup x = some .cell) (hb : (x == ("__debug__" : Str)) = false) (hcl : c.cl.lookup x = some cd) (hP : c.P ≠ some cd) (hPd : c.P ≠ some d) (hoc : oc.data = .cell (some (.ref d))) (hdc : d ≠ cd)
    (hE : EvW c (.Tuple vs kv pv) σ n fun p k => p.to (.tup [q4, q5]) ∧ k = n) (f4 : flatP q4 = true) (f5 : flatP q5 = true) (hd : o.IsDictOf (PySem.strKind PySem.Challenge.rw_pb0415_01.row.prog c.w) kvs) (hz : kvs.length ≤ 100) (A : PA c [(d, o), (cd, oc)] a n s.heap m σ)
    (k : ∀ o' v4 v5 h' tk' b, PA c [(d, o'), (cd, oc)] b n h' m σ → Up c.P a b → o'.IsDictOf (PySem.strKind PySem.Challenge.rw_pb0415_01.row.prog c.w) (stored (stored kvs k4 v4) k5 v5) → Rep c.P [] v4 q4 → Rep c.P [] v5 q5 → Q .next { s with heap := h', toks := tk' })
    (hl : ∀ v, (stored kvs k4 v).length ≤ 100) :
    wpAny c.M c.A (exec (.Assign [.Tuple [.Subscript (.Name x p1) (.Constant (.str k4) j4 p2) p3, .Subscript (.Name x p4) (.Constant (.str k5) j5 p5) p6] kk pt] (.Tuple vs kv pv) ps) c.env) Q E s := by
  have hp : ∀ p ∈ [(d, o), (cd, oc)], c.P ≠ some p.1 := fun p h => by
    rcases List.mem_cons.mp h with rfl | h
    · exact hPd
    · rw [List.mem_singleton.mp h]; exact hP
  refine Assign_Tuple (A.ev hp hE fun v h1 tk1 bf b p k' A1 u1 Nf R hk => ?_) (sole_of rfl) noswap_sub
  obtain ⟨h2, rfl⟩ := hk
  obtain ⟨D, ws, i, rfl, _, hm, rs⟩ := (to_rep h2 R).t
  obtain ⟨w4, w5, rfl, r4, r5⟩ := rs.two
  refine unpackN_ A1.F A1.N ⟨_, (Nf _ hm).1, rfl, _, rfl⟩ rfl rfl rfl fun h3 F3 N3 => ?_
  have off1 : ∀ p ∈ (cd, oc) :: b, p.1 ≠ d := fun p hp => by
    rcases List.mem_cons.mp hp with rfl | hp
    · exact Ne.symm hdc
    · exact A1.off p hp (d, o) (.head _)
  have ln : ∀ {l : List (Str × Value)}, l.length ≤ 100 → l.length ≤ sizeLine := fun h => by rw [sizeLine_eq]; omega
  refine assignInOrder_cons (kas_sub (nameX_C N3 hcl (.tail _ (.head _)) hoc (Constant_str (kda_set F3 N3 (.head off1) hd (strKind_is _ _ _ _) (ln hz) fun h4 o4 F4 N4 hd4 => ?_)) c.hk hx hb))
  refine assignInOrder_cons (kas_sub (nameX_C N4 hcl (.tail _ (.head _)) hoc (Constant_str (kda_set F4 N4 (.head off1) hd4 (strKind_is _ _ _ _) (ln (hl _)) fun h5 o5 F5 N5 hd5 => assignInOrder_nil ?_)) c.hk hx hb))
  exact k o5 w4 w5 h5 _ b ⟨F5, N5, A1.pk, fun q hq p h => by
    rcases List.mem_cons.mp h with rfl | h
    · exact A1.off q hq (d, o) (.head _)
    · exact A1.off q hq p (.tail _ h), A1.S⟩ u1 hd5 (r4.flat f4) (r5.flat f5)
theorem Rep.nn {P : Option Addr} {a : Led} {v : Value} (R : Rep P a v .none) : v = .none := by
  cases R with
  | none => rfl
  | int e => cases e
  | str e => cases e
theorem off_pen {pen : Option PenS} {k : Nat} {I C D : Addr} {b : Led} (pk : PenOk pen k b) (h : LCg.Off3 I C D b) : ∀ x ∈ [I, C, D], pen.map (·.D) ≠ some x := fun x hx e => by
  obtain ⟨p, hp, rfl⟩ := Option.map_eq_some_iff.mp e
  obtain ⟨⟨t, j, h1⟩, _⟩ := pk p hp
  obtain ⟨a1, a2, a3⟩ := h.mem _ h1
  simp only [List.mem_cons, List.not_mem_nil, or_false] at hx
  rcases hx with hx | hx | hx
  · exact a1 hx
  · exact a2 hx
  · exact a3 hx
theorem off1_mem {D : Addr} {l : Led} {p : Addr × Obj} (h : LCg.Off1 D l) (hp : p ∈ l) : p.1 ≠ D := by
  induction l with
  | nil => cases hp
  | cons q r ih =>
    rcases List.mem_cons.mp hp with rfl | hp
    · exact h.1
    · exact ih h.2 hp
/-- the names of the comprehension -/
structure CN (c : Cx sc r) (scope : Scope) (cl : List (Str × Addr)) (f nm y1 y2 du : Str) (a1 a2 cd : Addr) : Prop where
  kind : scope.kind = .function
  nocell : ∀ y ∈ scope.names, y.2 ≠ .cell
  names : ∀ y ∈ scope.names, y.2 = .local → scope.names.lookup y.1 = some .local
  loc : scope.names.lookup nm = some .local
  clos : closureFor scope c.env = pure cl
  kinds : ∀ C, (compEnvC scope cl C c.env).kindOf f = some .globalImplicit ∧ (compEnvC scope cl C c.env).kindOf nm = some .local ∧ (compEnvC scope cl C c.env).kindOf y1 = some .cell ∧ (compEnvC scope cl C c.env).kindOf y2 = some .cell ∧ (compEnvC scope cl C c.env).kindOf du = some .cell
  l1 : cl.lookup y1 = some a1
  l2 : cl.lookup y2 = some a2
  ld : cl.lookup du = some cd
  dbg : ∀ x ∈ [f, nm, y1, y2, du], (x == ("__debug__" : Str)) = false
theorem st_none {scope : Scope} {cl : List (Str × Addr)} {f nm y1 y2 du : Str} {a1 a2 d ff : Addr} {o o1 o2 : Obj} {tx tn : Tok} {l : List Bool} {z : Int} {kvs : List (Str × Value)} {ks : List Str} {elt : Expr} {body : List Stmt} {pn pu pf p1 p2 p3 pc p4 p5 p6 p7 pos pl pq pi : Pos} (Z : CN c scope cl f nm y1 y2 du a1 a2 cd) (hf : Fun f ff) (hdu : sc.names.lookup du = some .cell) (hcl : c.cl.lookup du = some cd) (hP : c.P ≠ some cd) (hPd : c.P ≠ some d) (hoc : oc.data = .cell (some (.ref d)))
    (m1 : (a1, o1) ∈ a) (m2 : (a2, o2) ∈ a) (ho1 : o1.data = .cell (some (.int (V l) tx))) (ho2 : o2.data = .cell (some (.int z tn))) (hP1 : c.P ≠ some a1) (hP2 : c.P ≠ some a2) (hd : o.IsDictOf (PySem.strKind PySem.Challenge.rw_pb0415_01.row.prog c.w) kvs) (lo : (d == sysModules) = false) (hks : kvs.map (·.1) = ks) (hsz : ks.length ≤ 100)
    (hel : ∀ i, i < ks.length → ∃ v q, valueAt kvs (ks.getD i Str.empty) = some v ∧ Rep c.P [] v q ∧ (q = .none ∨ ∃ y, q = .int y) ∧ CallW c ff [.str (ks.getD i Str.empty), .bits l, .int z] n fun p k => p.to q ∧ k = n)
    (A : PA c [(d, o), (cd, oc)] a n s.heap m σ) (k : ∀ h' tk' b, c.F h' m → c.N n h' b → Up c.P a b → c.S m b σ → Q .next { s with heap := h', toks := tk' }) :
    wpAny c.M c.A (exec (.If (.Compare (.ListComp elt [⟨.Name nm pn, .Name du pu, [.Compare (.Call (.Name f pf) [.Name nm p1, .Name y1 p2, .Name y2 p3] [] pc) [.NotEq] [.Subscript (.Name du p4) (.Name nm p5) p6] p7], 0⟩] scope pos) [.NotEq] [.List [] pl] pq) body [] pi) c.env) Q E s := by
  have pk : PenOk c.pen n ((d, o) :: (cd, oc) :: a) := A.pk.sub fun q hq => .tail _ (.tail _ hq)
  have hdf := Z.dbg f (.head _)
  have hdn := Z.dbg nm (.tail _ (.head _))
  have hd1 := Z.dbg y1 (.tail _ (.tail _ (.head _)))
  have hd2 := Z.dbg y2 (.tail _ (.tail _ (.tail _ (.head _))))
  have hdd := Z.dbg du (.tail _ (.tail _ (.tail _ (.tail _ (.head _)))))
  refine wpAny_If (wpAny_isTrue_Compare1 (ListComp_TD ks A.F A.N (.head _) hd lo hks (by rw [sizeLine_eq]; omega) rfl Z.clos Z.nocell Z.kind Z.names Z.loc (fun _ => rfl) (fun Q' h => nameX_C A.N hcl (.tail _ (.head _)) hoc h c.hk hdu hdd) fun g => comp_false (pen := c.pen) (k := n) (a := (d, o) :: (cd, oc) :: a) (fun b st => st.up _ (.head _) hPd) ?_ ?_ ks.length 0 _ (Nat.zero_add _) (.refl pk)) rfl)
  · intro b st D h tk F N off
    refine List_ (args_nil (newList_K F N (fun D2 h2 F2 N2 l2 => ?_) (by rw [sizeLine_eq]; exact Nat.zero_le _)))
    have u : Up c.P a b := fun q hq hn => st.up q (.tail _ (.tail _ hq)) hn
    have hD : c.P ≠ some D2 := Cx.N.fresh ⟨fun q hq => N q (.tail _ hq), st.pok⟩ fun p hp => l2 p (.tail _ hp)
    have N3 : c.N n h2 b := ⟨fun q hq => N2 q (.tail _ (.tail _ hq)), st.pok⟩
    have hD' : c.P ≠ some D := fun e => by
      obtain ⟨p, hp, rfl⟩ := Option.map_eq_some_iff.mp e
      obtain ⟨⟨t, j, h1⟩, _⟩ := st.pok p hp
      exact off1_mem off h1 rfl
    have R1 : Rep c.P ((D2, W.listOf #[] 0) :: (D, LCg.lst []) :: b) (.ref D) (.ilst []) := .ilst hD' (.tail _ (.head _)) .nil
    have R2 : Rep c.P ((D2, W.listOf #[] 0) :: (D, LCg.lst []) :: b) (.ref D2) (.lst []) := .lst hD (.head _) .nil
    refine cmpO_ok (p := .ilst []) (q := .lst []) (K := fun b => b = false) (a := (D2, W.listOf #[] 0) :: (D, LCg.lst []) :: b) rfl N2 c.units R1 R2 fun x hx => ?_
    subst hx
    exact wpAny_truthy_bool (wpAny_execs_nil (k h2 _ b F2 N3 u (A.S.up u)))
  · intro i hi I oI C oC D m₂ h tk t b E' hC hx F N off st
    obtain ⟨v, q, hv, hr, hq, hcall⟩ := hel i hi
    obtain ⟨kf, kx, k1, k2, kd⟩ := Z.kinds C
    have hI := off_pen st.pok off
    have pkb : PenOk c.pen n ((I, oI) :: (C, oC) :: (D, LCg.lst []) :: b) := st.pok.sub fun q hq => .tail _ (.tail _ (.tail _ hq))
    refine wpAny_isTrue_Compare1 (Call_ (Name_function_global Z.kind kf (loadGlobal_global (env := compEnvC scope cl C c.env) (c.TP.g.keeps F.keep) (mg_of c.X c.TP.g (hf.at' _)) ?_) hdf)) rfl
    refine callWith_K c.X (hf.keep _) (args_cons (ldVarK (hC.ns (N _ (.tail _ (.head _))).1) hx (args_cons (lcf_cell N Z.l1 (.tail _ (.tail _ (.tail _ (st.up _ (.tail _ (.tail _ m1)) hP1)))) ho1 (args_cons (lcf_cell N Z.l2 (.tail _ (.tail _ (.tail _ (st.up _ (.tail _ (.tail _ m2)) hP2)))) ho2 (args_nil ⟨c.X.keeps F.keep, ?_⟩) Z.kind k2 hd2)) Z.kind k1 hd1)) Z.kind kx hdn))
    refine hcall _ m _ _ _ _ F ⟨N, pkb⟩ (.cons (.str rfl trivial) (.cons (.int rfl) (.cons (.int rfl) .nil))) fun v' h' tk' b2 p k' F2 N2 u R hk => ?_
    obtain ⟨h2, rfl⟩ := hk
    obtain ⟨b3, hb3, st3⟩ := Stay.cut st.pok N2.pok (fun q hq => u q (.tail _ (.tail _ (.tail _ hq))))
    have N3 : News c.h₀ c.L h' ((I, oI) :: (C, oC) :: (D, LCg.lst []) :: b3) := fun q hq => by
      rcases List.mem_cons.mp hq with rfl | hq
      · exact N2.N _ (u _ (.head _) (hI _ (.head _)))
      · rcases List.mem_cons.mp hq with rfl | hq
        · exact N2.N _ (u _ (.tail _ (.head _)) (hI _ (.tail _ (.head _))))
        · rcases List.mem_cons.mp hq with rfl | hq
          · exact N2.N _ (u _ (.tail _ (.tail _ (.head _))) (hI _ (.tail _ (.tail _ (.head _)))))
          · exact N2.N _ (hb3 _ hq)
    have st4 := st.trans st3
    have md : (d, o) ∈ (I, oI) :: (C, oC) :: (D, LCg.lst []) :: b3 := .tail _ (.tail _ (.tail _ (st4.up _ (.head _) hPd)))
    refine Subscript_ (lcf_cell N3 Z.ld (.tail _ (.tail _ (.tail _ (st4.up _ (.tail _ (.head _)) hP)))) hoc (ldVarK (hC.ns (N3 _ (.tail _ (.head _))).1) hx (kdt_tail N3 md hd (kdt_getItem N3 md hd (strKind_is _ _ _ _) hv ?_) (subs_of rfl)) Z.kind kx hdn) Z.kind kd hdd)
    have fin : ∀ tk3, wpAny c.M c.A (truthy (.bool false)) (fun ok s' => ok = false ∧ ∃ h' tk' b', s' = { s with heap := h', toks := tk' } ∧ Fr c.h₀ c.L h' m ∧ News c.h₀ c.L h' ((I, oI) :: (C, oC) :: (D, LCg.lst []) :: b') ∧ Stay c.pen k' b b') E' { s with heap := h', toks := tk3 } := fun tk3 => wpAny_truthy_bool ⟨rfl, h', tk3, b3, rfl, F2, N3, st3⟩
    rcases hq with rfl | ⟨y, rfl⟩
    · obtain rfl := hr.nn
      obtain rfl := (to_rep h2 R).nn
      exact PySem.EqNone.ne_none_none (fin _)
    · obtain ⟨t1, rfl⟩ := hr.i rfl
      obtain ⟨t2, rfl⟩ := (to_rep h2 R).i rfl
      exact r_ne_ii rfl (fin _)
theorem EvW.mono {e : Expr} {K K' : KV} (h : EvW c e σ n K) (hm : ∀ p k, K p k → K' p k) : EvW c e σ n K' := fun s m a Q E F N S k => h s m a Q E F N S fun v h' tk' b p k' F' N' u R hk => k v h' tk' b p k' F' N' u R (hm _ _ hk)
theorem to1_of {z q : PV} (h : z.to q) (hf : flatP q = true) : z.to1 q := by
  cases z with
  | tup ps => cases q <;> first | exact h.elim | cases hf
  | _ => exact h
theorem ev_name {y : Str} {pos : Pos} {p : PV} {K : KV} (hy : σ.lookup y = some p) (h : K p n) : EvW c (.Name y pos) σ n K := fun s m led Q E' F N S k => by
  obtain ⟨hd, v, R, hs⟩ := S _ _ hy
  rcases hs with ⟨hl, hv⟩ | ⟨hl, ca, o, h1, _, h2, h3⟩
  · exact nameX_L F hv (k v s.heap s.toks led _ _ F N .refl R h) c.hk hl hd
  · exact nameX_C N.N h1 h2 h3 (k v s.heap s.toks led _ _ F N .refl R h) c.hk hl hd
theorem ev_ife {t a b : Expr} {pos : Pos} {K : KV} (h : TrW c t σ n fun x k => Br x (EvW c a σ k K) (EvW c b σ k K)) : EvW c (.IfExp t a b pos) σ n K := fun s m led Q E' F N S k =>
  IfExp_ (h s m led _ _ F N S fun x g tk l1 n1 F1 N1 u h => by
    cases x with
    | true => exact h _ m l1 _ _ F1 N1 (S.up u) fun v' g' tk' b' p' n2 F2 N2 u2 R2 h2 => k _ _ _ b' _ _ F2 N2 (u.trans u2) R2 h2
    | false => exact h _ m l1 _ _ F1 N1 (S.up u) fun v' g' tk' b' p' n2 F2 N2 u2 R2 h2 => k _ _ _ b' _ _ F2 N2 (u.trans u2) R2 h2)
theorem free_sum : ∀ P, nsIn (Mine.hd.heap_1 P) mainGlobals (Str.ofString "sum") = some none := fun P => by k_is
theorem boot_sum : bootBuiltins (Str.ofString "sum") = some (.builtin "sum") := by boot_fast
theorem boot_intT : bootBuiltins (Str.ofString "int") = some (.type "int") := by boot_fast
/-- the signs are counted -/
theorem ev_sum {y t : Str} {scope : Scope} {p1 p2 p3 p4 p5 p6 p7 pos : Pos} {l : List Bool} {K : KV} (hs : sc.names.lookup (Str.ofString "sum") = some .globalImplicit) (hfree : ∀ y ∈ scope.names, y.2 ≠ .free ∧ y.2 ≠ .cell) (hkind : scope.kind = .function)
    (hnames : ∀ y ∈ scope.names, y.2 = .local → scope.names.lookup y.1 = some .local) (hx : scope.names.lookup y = some .local) (hi : scope.names.lookup (Str.ofString "int") = some .globalImplicit) (hd : (y == ("__debug__" : Str)) = false) (ht : σ.lookup t = some (.txt l)) (h : K (.int (cnt l : Nat)) n) :
    EvW c (.Call (.Name (Str.ofString "sum") p1) [.ListComp (.Call (.Name (Str.ofString "int") p2) [.Name y p3] [] p4) [⟨.Name y p5, .Name t p6, [], 0⟩] scope pos] [] p7) σ n K := fun s m led Q E' F N S k => by
  refine Call_ (nameX_B F c.X (topRead_of c.TP) (free_sum _) boot_sum (by decide) ?_ c.hk hs (by decide))
  refine callWith_builtin1 (args_cons (ListComp_rowsP (fun y h => (hfree y h).1) (fun y h => (hfree y h).2) hkind hnames hx (ev_name ht (K := fun p k => p = .txt l ∧ k = n) ⟨rfl, rfl⟩ s m led _ _ F N S fun v h1 tk1 b p k1 F1 N1 u R hk => ?_)))
  obtain ⟨rfl, rfl⟩ := hk
  obtain ⟨t1, rfl, hl⟩ := R.x
  refine comp_T rfl F1 N1.N (by omega) (fun C b u s₂ m₂ E' hN hm F2 N2 => ?_) fun D ys h' tk F2 N2 hl2 hi2 => args_nil (LSm.sum_ints F2 N2 rfl hl2 hi2 fun h3 tk3 t3 F3 N3 => ?_)
  · refine Call_ (name_compB F2 c.X (topRead_of c.TP) rfl rfl (free_int _) boot_intT (by decide) ?_ hkind hi (by decide))
    refine PySem.Pv.callWith_type1 (args_cons (wpAny_Name (wpAny_loadName_local hkind hx hN hm (args_nil (r_int_T ⟨⟨_, rfl⟩, _, _, rfl, fun _ _ e => e⟩))) hd))
  · rw [sum_B]
    exact k _ _ _ b _ _ F3 ⟨N3, N1.pok⟩ u (.int rfl) h
end
end

section
noncomputable abbrev SG (x1 x2 n : Int) (l : List Bool) (ks : List Int) : Sig := [(Str.ofString "first", .int x1), (Str.ofString "last", .int x2), (Str.ofString "text", .txt l), (Str.ofString "spots", .ilst ks), (Str.ofString "size", .int n), (Str.ofString "worth", .bits l)]
/-- a written choice by the sign of a number -/
noncomputable def IfF (P : Params) (σ : Sig) (e : Expr) (x : Int) (p q : PV) : Prop := ∃ t a b r, e = .IfExp t a b r ∧ ∀ ns k, (∀ K : Bool → Nat → Prop, K (decide (x < 0)) k → (W [] ns (scAt P 248) 13 4).2.1 t σ k K) ∧ (∀ K : KV, K p k → (W [] ns (scAt P 248) 13 4).1 a σ k K) ∧ ∀ K : KV, K q k → (W [] ns (scAt P 248) 13 4).1 b σ k K
theorem ev_if {P : Params} {c : Cx (scAt P 248) 13} {σ : Sig} {e : Expr} {x : Int} {p q : PV} {k : Nat} (h : IfF P σ e x p q) : EvW c e σ k fun z k' => z.to (if x < 0 then p else q) ∧ k' = k := by
  obtain ⟨t, a, b, r, rfl, h⟩ := h
  obtain ⟨h1, h2, h3⟩ := h (cellsOf c.pen) k
  obtain ⟨w1, w2, w3⟩ := W_ok (c := c) (Tb := []) (ns := cellsOf c.pen) (fun _ h => nomatch h) (fun p e => by rw [e]; rfl) 4
  refine ev_ife (w2 (h1 _ ?_))
  by_cases hx : x < 0
  · rw [if_pos hx, decide_eq_true hx]
    exact w1 (h2 _ ⟨to_refl _, rfl⟩)
  · rw [if_neg hx, decide_eq_false hx]
    exact w1 (h3 _ ⟨to_refl _, rfl⟩)
theorem sh2 (P : Params) (x1 x2 n : Int) (l : List Bool) (ks : List Int) : ∃ (e2 e3 : Expr) (sc1 : Scope) (px ps pd p1 p2 p3 q1 q2 q3 q4 q5 q6 q7 q8 : Pos), stAt P 248 2 = .Assign [.Name (Str.ofString "due") px] (.Dict [some (.Constant (.str (Str.ofString "popcnt")) 0 p1), some (.Constant (.str (Str.ofString "lzcnt")) 0 p2), some (.Constant (.str (Str.ofString "tzcnt")) 0 p3)]
    [.Call (.Name (Str.ofString "sum") q1) [.ListComp (.Call (.Name (Str.ofString "int") q2) [.Name (Str.ofString "sign") q3] [] q4) [⟨.Name (Str.ofString "sign") q5, .Name (Str.ofString "text") q6, [], 0⟩] sc1 q8] [] q7, e2, e3] pd) ps ∧
    IfF P (SG x1 x2 n l ks) e2 x1 (.int n) (.int x1) ∧ IfF P (SG x1 x2 n l ks) e3 x2 (.int n) (.int (n - 1 - x2)) ∧ (∀ y ∈ sc1.names, y.2 ≠ .free ∧ y.2 ≠ .cell) ∧ sc1.kind = .function ∧ (∀ y ∈ sc1.names, y.2 = .local → sc1.names.lookup y.1 = some .local) ∧ sc1.names.lookup (Str.ofString "sign") = some .local ∧ sc1.names.lookup (Str.ofString "int") = some .globalImplicit :=
  ⟨_, _, _, _, _, _, _, _, _, _, _, _, _, _, _, _, _, rfl, ⟨_, _, _, _, rfl, fun ns k => ⟨fun K h => vc_cast (a := K (decide (x1 < 0)) k) (by kernel_rfl) h, fun K h => vc_cast (a := K (.int n) k) (by kernel_rfl) h, fun K h => vc_cast (a := K (.int x1) k) (by kernel_rfl) h⟩⟩,
    ⟨_, _, _, _, rfl, fun ns k => ⟨fun K h => vc_cast (a := K (decide (x2 < 0)) k) (by kernel_rfl) h, fun K h => vc_cast (a := K (.int n) k) (by kernel_rfl) h, fun K h => vc_cast (a := K (.int (n - 1 - x2)) k) (by kernel_rfl) h⟩⟩, by decide, rfl, by decide, by decide, by decide⟩
theorem sh3 (P : Params) (x1 x2 n : Int) (l : List Bool) (ks : List Int) : ∃ (e4 e5 : Expr) (kk kv : Nat) (p1 p2 p3 p4 p5 p6 pt pv ps : Pos), stAt P 248 3 = .Assign [.Tuple [.Subscript (.Name (Str.ofString "due") p1) (.Constant (.str (Str.ofString "bsf")) 0 p2) p3, .Subscript (.Name (Str.ofString "due") p4) (.Constant (.str (Str.ofString "bsr")) 0 p5) p6] kk pt] (.Tuple [e4, e5] kv pv) ps ∧
    (IfF P (SG x1 x2 n l ks) e4 x2 .none (.int (n - 1 - x2)) ∧ IfF P (SG x1 x2 n l ks) e5 x1 .none (.int (n - 1 - x1))) ∧ [e4, e5].any starred = false :=
  ⟨_, _, _, _, _, _, _, _, _, _, _, _, _, rfl, ⟨⟨_, _, _, _, rfl, fun ns k => ⟨fun K h => vc_cast (a := K (decide (x2 < 0)) k) (by kernel_rfl) h, fun K h => vc_cast (a := K .none k) (by kernel_rfl) h, fun K h => vc_cast (a := K (.int (n - 1 - x2)) k) (by kernel_rfl) h⟩⟩,
    ⟨_, _, _, _, rfl, fun ns k => ⟨fun K h => vc_cast (a := K (decide (x1 < 0)) k) (by kernel_rfl) h, fun K h => vc_cast (a := K .none k) (by kernel_rfl) h, fun K h => vc_cast (a := K (.int (n - 1 - x1)) k) (by kernel_rfl) h⟩⟩⟩, rfl⟩
theorem sh4 (P : Params) : ∃ (elt : Expr) (body : List Stmt) (scope : Scope) (pn pu pf p1 p2 p3 pc p4 p5 p6 p7 pos pl pq pi : Pos), stAt P 248 4 = .If (.Compare (.ListComp elt [⟨.Name (Str.ofString "name") pn, .Name (Str.ofString "due") pu, [.Compare (.Call (.Name (Str.ofString "scanned") pf) [.Name (Str.ofString "name") p1, .Name (Str.ofString "worth") p2, .Name (Str.ofString "size") p3] [] pc) [.NotEq] [.Subscript (.Name (Str.ofString "due") p4) (.Name (Str.ofString "name") p5) p6] p7], 0⟩] scope pos) [.NotEq] [.List [] pl] pq) body [] pi ∧
    ∀ {r : Nat} (c : Cx (scAt P 248) r) (L : Addr), c.cl = cellsFrom (L + 1) (scAt P 248).names [] → CN c scope [(Str.ofString "worth", L + 1), (Str.ofString "size", L + 1 + 1), (Str.ofString "due", L + 1 + 1 + 1)] (Str.ofString "scanned") (Str.ofString "name") (Str.ofString "worth") (Str.ofString "size") (Str.ofString "due") (L + 1) (L + 1 + 1) (L + 1 + 1 + 1) :=
  ⟨_, _, _, _, _, _, _, _, _, _, _, _, _, _, _, _, _, _, rfl, fun c L h => { kind := rfl, nocell := by decide, names := by decide, loc := by decide, clos := (show closureFor _ (envX c.cn _ c.L c.a c.ccd c.cl) = _ from h ▸ by with_unfolding_all rfl), kinds := fun C => ⟨by kernel_rfl, by kernel_rfl, by kernel_rfl, by kernel_rfl, by kernel_rfl⟩, l1 := by kernel_rfl, l2 := by kernel_rfl, ld := by kernel_rfl, dbg := by decide }⟩
theorem ok_scan {nm : Str} {l : List Bool} {n : Int} {res : PV} (h : Runs 173 ["name", "worth", "size"] [e_ones, e_lowest_bit, e_highest_bit] 11 [.str nm, .bits l, .int n] res) (h0 : res.to res) {k : Nat} {sc : Scope} {r : Nat} (c : Cx sc r) (hr : 12 ≤ r) : CallW c 173 [.str nm, .bits l, .int n] k (fun p k' => p.to res ∧ k' = k) := Ok.aE d_scanned T_scan rfl rfl (fun (_ : True) => h) c hr [] k _ ⟨trivial, h0, rfl⟩
/-- what is due, by where the signs stand -/
theorem due_vals {l : List Bool} {n x1 x2 : Int} (hn : n = l.length) (h1 : x1 = if first l < l.length then (first l : Int) else -1) (h2 : x2 = if first l < l.length then n - 1 - (if first l.reverse < l.reverse.length then (first l.reverse : Int) else -1) else -1) :
    (if x1 < 0 then PV.int n else .int x1) = .int (first l : Nat) ∧ (if x2 < 0 then PV.int n else .int (n - 1 - x2)) = .int (tz l : Nat) ∧ (V l = 0 → (if x2 < 0 then PV.none else .int (n - 1 - x2)) = .none ∧ (if x1 < 0 then PV.none else .int (n - 1 - x1)) = .none) ∧ (V l ≠ 0 → (if x2 < 0 then PV.none else .int (n - 1 - x2)) = .int (tz l : Nat) ∧ (if x1 < 0 then PV.none else .int (n - 1 - x1)) = .int (n - 1 - (first l : Nat))) := by
  by_cases hz : V l = 0
  · have z1 := z_first hn hz
    have z2 := z_tz hn hz
    have hf : ¬first l < l.length := by omega
    rw [if_neg hf] at h1 h2
    subst h1; subst h2
    have e : (-1 : Int) < 0 := by decide
    simp only [if_pos e]
    exact ⟨by rw [← z1], by rw [← z2], fun _ => by simp, fun h => absurd hz h⟩
  · have hf := first_lt (val_pos hz)
    have ht : first l.reverse < l.reverse.length := by rw [List.length_reverse]; exact tz_lt (val_pos hz)
    have hl : l.reverse.length = l.length := List.length_reverse
    rw [if_pos hf] at h1 h2
    rw [if_pos ht] at h2
    have e1 : ¬x1 < 0 := by omega
    have e2 : ¬x2 < 0 := by omega
    have e3 : n - 1 - x2 = (tz l : Nat) := by show _ = ((first l.reverse : Nat) : Int); omega
    simp only [if_neg e1, if_neg e2]
    rw [e3, h1]
    exact ⟨rfl, rfl, fun h => absurd h hz, fun _ => ⟨rfl, rfl⟩⟩
theorem flat_if {p : Prop} [Decidable p] {a b : PV} (ha : flatP a = true) (hb : flatP b = true) : flatP (if p then a else b) = true := by
  split
  · exact ha
  · exact hb
theorem f_scanned : Fun (Str.ofString "scanned") 173 := ⟨fun P => by k_is, fun P => by k_is⟩
noncomputable def q2 (x1 n : Int) : PV := if x1 < 0 then .int n else .int x1
noncomputable def q3 (x2 n : Int) : PV := if x2 < 0 then .int n else .int (n - 1 - x2)
noncomputable def q4 (x2 n : Int) : PV := if x2 < 0 then .none else .int (n - 1 - x2)
theorem lk_due (P : Params) : (scAt P 248).names.lookup (Str.ofString "due") = some .cell := by kernel_rfl
theorem do_st2 {P : Params} {c : Cx (scAt P 248) 13} {l : List Bool} {n x1 x2 : Int} {ks : List Int} {k : Nat} {s : Shared} {m : Str → Option Value} {a : Led} {cd : Addr} {oc : Obj} {Q : Flow → Shared → Prop} {E : Value → Shared → Prop} (hcd : c.cl.lookup (Str.ofString "due") = some cd) (hP : c.P ≠ some cd) (hoc : oc.data = .cell none) (A : PA c [(cd, oc)] a k s.heap m (SG x1 x2 n l ks))
    (r : ∀ d o' oc' v1 v2 v3 h' tk' b, PA c [(d, o'), (cd, oc')] b k h' m (SG x1 x2 n l ks) → Up c.P a b → c.P ≠ some d → d ≠ cd → (d == sysModules) = false → oc'.data = .cell (some (.ref d)) → o'.IsDictOf (PySem.strKind PySem.Challenge.rw_pb0415_01.row.prog c.w) [(Str.ofString "popcnt", v1), (Str.ofString "lzcnt", v2), (Str.ofString "tzcnt", v3)] → Rep c.P [] v1 (.int (cnt l : Nat)) → Rep c.P [] v2 (q2 x1 n) → Rep c.P [] v3 (q3 x2 n) → Q .next { s with heap := h', toks := tk' }) :
    wpAny c.M c.A (exec (stAt P 248 2) c.env) Q E s := by
  obtain ⟨e2, e3, sc1, px, ps, pd, p1, p2, p3, z1, z2, z3, z4, z5, z6, z7, z8, hs, i2, i3, y1, y2, y3, y4, y5⟩ := sh2 P x1 x2 n l ks
  rw [hs]
  exact st_dict (lk_due P) hcd hP hoc (ev_sum (by kernel_rfl) y1 y2 y3 y4 y5 (by decide) (by kernel_rfl) ⟨to_refl _, rfl⟩) (ev_if i2) (ev_if i3) rfl (flat_if rfl rfl) (flat_if rfl rfl) (by decide +kernel) A r
theorem do_st3 {d : Addr} {o : Obj} {v1 v2 v3 : Value} {P : Params} {c : Cx (scAt P 248) 13} {l : List Bool} {n x1 x2 : Int} {ks : List Int} {k : Nat} {s : Shared} {m : Str → Option Value} {a : Led} {cd : Addr} {oc : Obj} {Q : Flow → Shared → Prop} {E : Value → Shared → Prop} (hcd : c.cl.lookup (Str.ofString "due") = some cd) (hP : c.P ≠ some cd) (hPd : c.P ≠ some d) (hoc : oc.data = .cell (some (.ref d))) (hdc : d ≠ cd) (hd : o.IsDictOf (PySem.strKind PySem.Challenge.rw_pb0415_01.row.prog c.w) [(Str.ofString "popcnt", v1), (Str.ofString "lzcnt", v2), (Str.ofString "tzcnt", v3)]) (A : PA c [(d, o), (cd, oc)] a k s.heap m (SG x1 x2 n l ks))
    (r : ∀ o' v4 v5 h' tk' b, PA c [(d, o'), (cd, oc)] b k h' m (SG x1 x2 n l ks) → Up c.P a b → o'.IsDictOf (PySem.strKind PySem.Challenge.rw_pb0415_01.row.prog c.w) [(Str.ofString "popcnt", v1), (Str.ofString "lzcnt", v2), (Str.ofString "tzcnt", v3), (Str.ofString "bsf", v4), (Str.ofString "bsr", v5)] → Rep c.P [] v4 (q4 x2 n) → Rep c.P [] v5 (q4 x1 n) → Q .next { s with heap := h', toks := tk' }) :
    wpAny c.M c.A (exec (stAt P 248 3) c.env) Q E s := by
  obtain ⟨e4, e5, kk, kv, r1, r2, r3, r4, r5, r6, rt, rv, rs, hs, ⟨i4, i5⟩, hst⟩ := sh3 P x1 x2 n l ks
  rw [hs]
  have hE : EvW c (.Tuple [e4, e5] kv rv) (SG x1 x2 n l ks) k fun p k' => p.to (.tup [q4 x2 n, q4 x1 n]) ∧ k' = k :=
    ev_tup (E := EvW c) (fun h => h) rfl hst ((ev_if i4).mono fun p k' h1 => by
      obtain ⟨h1, rfl⟩ := h1
      exact (ev_if i5).mono fun q k'' h2 => ⟨⟨to1_of h1 (flat_if rfl rfl), to1_of h2.1 (flat_if rfl rfl), trivial⟩, h2.2⟩)
  exact st_two (lk_due P) (by decide) hcd hP hPd hoc hdc hE (flat_if rfl rfl) (flat_if rfl rfl) hd (Nat.le_of_ble_eq_true rfl) A (fun o4 v4 v5 h4 tk4 b4 A4 u4 hd4 R4 R5 => r o4 v4 v5 h4 tk4 b4 A4 u4 (vc_cast (by kernel_rfl) hd4) R4 R5) fun v => Nat.le_trans (stored_length_le _ _ _) (Nat.le_of_ble_eq_true rfl)
theorem do_st4 {d L : Addr} {o o1 o2 : Obj} {v1 v2 v3 v4 v5 : Value} {tx tn : Tok} {P : Params} {c : Cx (scAt P 248) 13} {l : List Bool} {n x1 x2 : Int} {ks : List Int} {k : Nat} {s : Shared} {m : Str → Option Value} {a : Led} {oc : Obj} {Q : Flow → Shared → Prop} {E : Value → Shared → Prop} (hcl : c.cl = cellsFrom (L + 1) (scAt P 248).names []) (hn : n = l.length) (h0 : 2 ≤ n ∧ n ≤ 100) (e1 : x1 = if first l < l.length then (first l : Int) else -1) (e2 : x2 = if first l < l.length then n - 1 - (if first l.reverse < l.reverse.length then (first l.reverse : Int) else -1) else -1)
    (hPc : c.P ≠ some (L + 1 + 1 + 1)) (hPd : c.P ≠ some d) (hoc : oc.data = .cell (some (.ref d))) (m1 : (L + 1, o1) ∈ a) (m2 : (L + 1 + 1, o2) ∈ a) (ho1 : o1.data = .cell (some (.int (V l) tx))) (ho2 : o2.data = .cell (some (.int n tn))) (hP1 : c.P ≠ some (L + 1)) (hP2 : c.P ≠ some (L + 1 + 1))
    (hd : o.IsDictOf (PySem.strKind PySem.Challenge.rw_pb0415_01.row.prog c.w) [(Str.ofString "popcnt", v1), (Str.ofString "lzcnt", v2), (Str.ofString "tzcnt", v3), (Str.ofString "bsf", v4), (Str.ofString "bsr", v5)]) (lo : (d == sysModules) = false) (R1 : Rep c.P [] v1 (.int (cnt l : Nat))) (R2 : Rep c.P [] v2 (q2 x1 n)) (R3 : Rep c.P [] v3 (q3 x2 n)) (R4 : Rep c.P [] v4 (q4 x2 n)) (R5 : Rep c.P [] v5 (q4 x1 n)) (A : PA c [(d, o), (L + 1 + 1 + 1, oc)] a k s.heap m (SG x1 x2 n l ks))
    (r : ∀ h' tk' b, c.F h' m → c.N k h' b → Up c.P a b → c.S m b (SG x1 x2 n l ks) → Q .next { s with heap := h', toks := tk' }) :
    wpAny c.M c.A (exec (stAt P 248 4) c.env) Q E s := by
  obtain ⟨g2, g3, g4, g5⟩ := due_vals hn e1 e2
  have hn2 : n = l.length ∧ 2 ≤ n ∧ n ≤ 200 := ⟨hn, h0.1, Int.le_trans h0.2 (by decide)⟩
  have R2 := (show q2 x1 n = _ from g2) ▸ R2
  have R3 := (show q3 x2 n = _ from g3) ▸ R3
  have hel : ∀ i, i < 5 → ∃ v q, valueAt [(Str.ofString "popcnt", v1), (Str.ofString "lzcnt", v2), (Str.ofString "tzcnt", v3), (Str.ofString "bsf", v4), (Str.ofString "bsr", v5)] ([Str.ofString "popcnt", Str.ofString "lzcnt", Str.ofString "tzcnt", Str.ofString "bsf", Str.ofString "bsr"].getD i Str.empty) = some v ∧ Rep c.P [] v q ∧ (q = .none ∨ ∃ y, q = .int y) ∧ CallW c 173 [.str ([Str.ofString "popcnt", Str.ofString "lzcnt", Str.ofString "tzcnt", Str.ofString "bsf", Str.ofString "bsr"].getD i Str.empty), .bits l, .int n] k fun p k' => p.to q ∧ k' = k := fun i hi => by
    obtain _ | _ | _ | _ | _ | i := i
    · exact ⟨v1, _, by kernel_rfl, R1, .inr ⟨_, rfl⟩, ok_scan (r_popcnt hn2) rfl c (by decide)⟩
    · exact ⟨v2, _, by kernel_rfl, R2, .inr ⟨_, rfl⟩, ok_scan (r_lzcnt hn2) rfl c (by decide)⟩
    · exact ⟨v3, _, by kernel_rfl, R3, .inr ⟨_, rfl⟩, ok_scan (r_tzcnt hn2) rfl c (by decide)⟩
    · by_cases hz : V l = 0
      · exact ⟨v4, _, by kernel_rfl, (show q4 x2 n = _ from (g4 hz).1) ▸ R4, .inl rfl, ok_scan (r_bsfN ⟨hn2, hz⟩) rfl c (by decide)⟩
      · exact ⟨v4, _, by kernel_rfl, (show q4 x2 n = _ from (g5 hz).1) ▸ R4, .inr ⟨_, rfl⟩, ok_scan (r_bsf ⟨hn2, hz⟩) rfl c (by decide)⟩
    · by_cases hz : V l = 0
      · exact ⟨v5, _, by kernel_rfl, (show q4 x1 n = _ from (g4 hz).2) ▸ R5, .inl rfl, ok_scan (r_bsrN ⟨hn2, hz⟩) rfl c (by decide)⟩
      · exact ⟨v5, _, by kernel_rfl, (show q4 x1 n = _ from (g5 hz).2) ▸ R5, .inr ⟨_, rfl⟩, ok_scan (r_bsr ⟨hn2, hz⟩) rfl c (by decide)⟩
    · exact absurd hi (Nat.not_lt.mpr (Nat.le_add_left 5 i))
  obtain ⟨elt, body, scope, z1, z2, z3, z4, z5, z6, z7, z8, z9, z10, z11, z12, z13, z14, z15, hs, hZ⟩ := sh4 P
  rw [hs]
  exact st_none (hZ c L hcl) f_scanned (lk_due P) (by rw [hcl]; kernel_rfl) hPc hPd hoc m1 m2 ho1 ho2 hP1 hP2 hd lo rfl (Nat.le_of_ble_eq_true rfl) hel A r
theorem scans_run {P : Params} (c : Cx (scAt P 248) 13) {l : List Bool} {n : Int} {ks : List Int} {k : Nat} {L : Addr} {s : Shared} {m : Str → Option Value} {a : Led} {o1 o2 oc : Obj} {tx tn : Tok} {Q : Flow → Shared → Prop} {E : Value → Shared → Prop} (hcl : c.cl = cellsFrom (L + 1) (scAt P 248).names []) (hn : n = l.length) (h0 : 2 ≤ n ∧ n ≤ 100) (hv : ∀ x ∈ ks, 0 ≤ x ∧ x < n)
    (F : c.F s.heap m) (N : c.N k s.heap a) (S : c.S m a [(Str.ofString "spots", .ilst ks), (Str.ofString "size", .int n), (Str.ofString "worth", .bits l)])
    (m1 : (L + 1, o1) ∈ a) (ho1 : o1.data = .cell (some (.int (V l) tx))) (m2 : (L + 1 + 1, o2) ∈ a) (ho2 : o2.data = .cell (some (.int n tn))) (mc : (L + 1 + 1 + 1, oc) ∈ a) (hoc : oc.data = .cell none) (hP : ∀ x : Addr, L ≤ x → c.P ≠ some x)
    (hret : ∀ h' tk' m' b, c.F h' m' → c.N k h' b → Up c.P (without (L + 1 + 1 + 1) a) b → Q (.ret (.bool true)) { s with heap := h', toks := tk' }) : wpAny c.M c.A (execs (bodyAt P 248) c.env) Q E s := by
  have hb : bodyAt P 248 = stAt P 248 0 :: stAt P 248 1 :: stAt P 248 2 :: stAt P 248 3 :: stAt P 248 4 :: (bodyAt P 248).drop 5 := by kernel_rfl
  rw [hb]
  have hN : NsOk c (cellsOf c.pen) := fun p e => by rw [e]; rfl
  have hP1 : c.P ≠ some (L + 1) := hP _ (Nat.le_add_right L 1)
  have hP2 : c.P ≠ some (L + 1 + 1) := hP _ (Nat.le_add_right L 2)
  have hPc : c.P ≠ some (L + 1 + 1 + 1) := hP _ (Nat.le_add_right L 3)
  have st : ∀ {T : List Ent} {st : Stmt} {σ : Sig} {K : Sig → Nat → Prop}, AllOk T → SW T (cellsOf c.pen) (scAt P 248) 13 st σ k K → ExW1 c st σ k (fun _ _ => False) (fun _ => False) (fun _ _ => False) K := fun hT h =>
    let ⟨w1, w2, w3⟩ := W_ok (c := c) hT.tok hN 40
    stmt_ok (by decide) w1 w2 w3 (WB_ok noL_ok (by decide) hT.tok hN 40 60) h
  refine wpAny_execs_cons (st (AllOk.cons k_law_signs .nil) (v_sc1 (K := fun σ' k' => σ' = [(Str.ofString "text", .txt l), (Str.ofString "spots", .ilst ks), (Str.ofString "size", .int n), (Str.ofString "worth", .bits l)] ∧ k' = k) ⟨⟨hn, by omega⟩, rfl, rfl⟩) s m a _ _ F N S ⟨fun _ _ _ _ _ _ _ _ _ _ _ h => h.elim, fun h1 tk1 w1 b1 σ1 k1 F1 N1 u1 S1 hk => ?_, fun _ _ _ _ _ _ _ _ _ _ h => h.elim, fun _ h => h.elim⟩)
  obtain ⟨rfl, rfl⟩ := hk
  refine wpAny_execs_cons (st .nil (v_sc2 (K := fun σ' k' => ∃ x1 x2 : Int, (x1 = if first l < l.length then (first l : Int) else -1) ∧ (x2 = if first l < l.length then n - 1 - (if first l.reverse < l.reverse.length then (first l.reverse : Int) else -1) else -1) ∧ σ' = SG x1 x2 n l ks ∧ k' = k1) fun x1 x2 e1 e2 => ⟨x1, x2, e1, e2, rfl, rfl⟩) _ w1 b1 _ _ F1 N1 S1 ⟨fun _ _ _ _ _ _ _ _ _ _ _ h => h.elim, fun h2 tk2 w2 b2 σ2 k2 F2 N2 u2 S2 hk => ?_, fun _ _ _ _ _ _ _ _ _ _ h => h.elim, fun _ h => h.elim⟩)
  obtain ⟨x1, x2, e1, e2, rfl, rfl⟩ := hk
  have u12 := u1.trans u2
  have mc2 := u12 _ mc hPc
  have ap : ∀ {D : Addr} {o : Obj}, (D, o) ∈ b2 → o.data ≠ oc.data → D ≠ L + 1 + 1 + 1 := fun h e => apart_by N2.N mc2 h fun h => e (congrArg Obj.data h)
  have NA : News c.h₀ c.L h2 ((L + 1 + 1 + 1, oc) :: without (L + 1 + 1 + 1) b2) := fun q hq => by
    rcases List.mem_cons.mp hq with rfl | hq
    · exact N2.N _ mc2
    · exact N2.N _ (mem_without hq).1
  have pkA : PenOk c.pen k2 (without (L + 1 + 1 + 1) b2) := N2.pok.off fun p e => by
    obtain ⟨⟨t, i, q1⟩, j, q2⟩ := N2.pok p e
    exact ⟨ap q1 fun e => by rw [hoc] at e; exact Data.noConfusion e, ap q2 fun e => by rw [hoc] at e; exact Data.noConfusion e⟩
  have A2 : PA c [(L + 1 + 1 + 1, oc)] (without (L + 1 + 1 + 1) b2) k2 h2 w2 (SG x1 x2 n l ks) := ⟨F2, NA, pkA, fun q hq p hp => by rw [List.mem_singleton.mp hp]; exact (mem_without hq).2, S2.offC N2.N mc2 hoc⟩
  have w1m : (L + 1, o1) ∈ without (L + 1 + 1 + 1) b2 := without_mem (u12 _ m1 hP1) (ap (u12 _ m1 hP1) fun e => by rw [hoc, ho1] at e; cases e)
  have w2m : (L + 1 + 1, o2) ∈ without (L + 1 + 1 + 1) b2 := without_mem (u12 _ m2 hP2) (ap (u12 _ m2 hP2) fun e => by rw [hoc, ho2] at e; cases e)
  have hcd : c.cl.lookup (Str.ofString "due") = some (L + 1 + 1 + 1) := by rw [hcl]; kernel_rfl
  refine wpAny_execs_cons (do_st2 hcd hPc hoc A2 fun d o' oc' v1 v2 v3 h3 tk3 b3 A3 u3 hPd hdc lo hoc3 hd3 R1 R2 R3 => ?_)
  refine wpAny_execs_cons (do_st3 hcd hPc hPd hoc3 hdc hd3 A3 fun o4 v4 v5 h4 tk4 b4 A4 u4 hd4 R4 R5 => ?_)
  have u34 := u3.trans u4
  refine wpAny_execs_cons (do_st4 hcl hn h0 e1 e2 hPc hPd hoc3 (u34 _ w1m hP1) (u34 _ w2m hP2) ho1 ho2 hP1 hP2 hd4 lo R1 R2 R3 R4 R5 A4 fun h5 tk5 b5 F5 N5 u5 S5 => ?_)
  have hkp : keeps (SG x1 x2 n l ks) [(Str.ofString "spots", .ilst ks), (Str.ofString "text", .txt l), (Str.ofString "size", .int n), (Str.ofString "worth", .bits l)] := vc_cast (a := (PV.ilst ks).to (.ilst ks) ∧ (PV.txt l).to (.txt l) ∧ (PV.int n).to (.int n) ∧ (PV.bits l).to (.bits l) ∧ True) (by kernel_rfl) ⟨to_refl _, to_refl _, to_refl _, to_refl _, trivial⟩
  refine WB_ok (c := c) noL_ok (by decide) (AllOk.cons k_with_bit (.cons k_law_meant .nil)).tok hN 40 60 (v_scans ⟨⟨hn, h0⟩, hv⟩) _ w2 b5 _ _ F5 N5 (keeps_S hkp _ _ S5) ⟨fun v h6 tk6 m6 b6 q k6 F6 N6 u6 R hk => ?_, fun _ _ _ _ _ _ _ _ _ _ h => h.elim, fun _ _ _ _ _ _ _ _ _ _ h => h.elim, fun _ h => h.elim⟩
  obtain ⟨h1, rfl⟩ := hk
  obtain rfl := (to_rep h1 R).b
  exact hret h6 tk6 m6 b6 F6 N6 fun q hq hn => u6 q (u5 q (u34 q (without_mem (u12 q (mem_without hq).1 hn) (mem_without hq).2) hn) hn) hn
end

section
theorem ho_scans (P : Params) : ∃ oc od osl, (Mine.hd.heap_1 P).lookup 248 = some ⟨oc, od, .func (fnOf (fnAt P 248).name (fnAt P 248).qualname (fnAt P 248).params (bodyAt P 248) (scAt P 248) (fnAt P 248).defaults (fnAt P 248).kwdefaults (fnAt P 248).doc (fnAt P 248).pyModule (fnAt P 248).annotations (fnAt P 248).code (fnAt P 248).closureTuple), osl⟩ := ⟨_, _, _, rfl⟩
theorem f_law_scans : Fun "_law_scans_right" 248 := ⟨fun P => by k_is, fun P => by k_is⟩
theorem ok_scans {l : List Bool} {n : Int} {ks : List Int} (hn : n = l.length) (h0 : 2 ≤ n ∧ n ≤ 100) (hv : ∀ c ∈ ks, 0 ≤ c ∧ c < n) : Ok 248 14 [.bits l, .int n, .ilst ks] (aE True (.bool true)) := fun c hr ps k K hS => by
  obtain ⟨rfl, _, hk⟩ := aE_inv hS
  intro s m a vs Q E F N R back
  obtain ⟨v1, v2, v3, rfl, r1, r2, r3⟩ := Reps.three R
  obtain ⟨tx, rfl⟩ := r1.i rfl
  obtain ⟨tn, rfl⟩ := r2.i rfl
  obtain ⟨ca, ws, cz, rfl, hpa, hl, hi⟩ := r3.is
  have hd := c.hd
  have hu := c.hu
  obtain ⟨oc, od, osl, ho⟩ := ho_scans c.w.params
  have hkn : (scAt c.w.params 248).kind = .function := by kernel_rfl
  have hcd : codeIn (Mine.hd.heap_1 c.w.params) (fnAt c.w.params 248).code (fnAt c.w.params 248).qualname = true := by kernel_rfl
  have hbind : BindsTo s (fnOf (fnAt c.w.params 248).name (fnAt c.w.params 248).qualname (fnAt c.w.params 248).params (bodyAt c.w.params 248) (scAt c.w.params 248) (fnAt c.w.params 248).defaults (fnAt c.w.params 248).kwdefaults (fnAt c.w.params 248).doc (fnAt c.w.params 248).pyModule (fnAt c.w.params 248).annotations (fnAt c.w.params 248).code (fnAt c.w.params 248).closureTuple) ⟨[.int (V l) tx, .int n tn, .ref ca], []⟩ [(Str.ofString "worth", .int (V l) tx), (Str.ofString "size", .int n tn), (Str.ofString "spots", .ref ca)] := .of_eq (by kernel_rfl)
  refine wpAny_call (code_defC (A₀ := c.A₀) c.BL F c.X N.N c.TP rfl rfl c.hk ho hcd (by show c.dp < _; omega) hbind (by kernel_rfl) (of_decide_eq_true (by kernel_rfl)) ?_ (by kernel_rfl) (by kernel_rfl) hkn)
  intro g L' h₁ tk cells FG F' N' Y B' X' T' l1
  have hcf : cellsFrom (L' + 1) (scAt c.w.params 248).names [] = [(Str.ofString "due", L' + 1 + 1 + 1), (Str.ofString "size", L' + 1 + 1), (Str.ofString "worth", L' + 1)] := by kernel_rfl
  rw [hcf] at Y
  cases Y with | cons y3 Y => cases Y with | cons y2 Y => cases Y with | cons y1 Y => cases Y with | nil =>
  rename_i o3 o2 o1
  have y1 : o1.data = .cell (some (.int (V l) tx)) := y1.trans (by kernel_rfl)
  have y2 : o2.data = .cell (some (.int n tn)) := y2.trans (by kernel_rfl)
  have y3 : o3.data = .cell none := y3.trans (by kernel_rfl)
  have hP : ∀ x : Addr, L' ≤ x → c.pen.map (·.D) ≠ some x := fun x hx e => by
    obtain ⟨p, hp, rfl⟩ := Option.map_eq_some_iff.mp e
    obtain ⟨⟨t, j, q1⟩, _⟩ := N.pok p hp
    exact Nat.lt_irrefl _ (Nat.lt_of_lt_of_le (l1 _ q1) hx)
  have ua : ∀ q ∈ a, q ∈ [(L' + 1 + 1 + 1, o3), (L' + 1 + 1, o2), (L' + 1, o1)] ++ a := fun q hq => List.mem_append_right _ hq
  let c' : Cx (scAt c.w.params 248) 13 := ⟨c.w, c.mean, c.mg, c.mb, c.dp + 1, c.un + 3, c.gd, (fnAt c.w.params 248).qualname, 248, (fnAt c.w.params 248).code, cellsFrom (L' + 1) (scAt c.w.params 248).names [], c.env :: c.outer, c.A, c.base, g, L', c.pen, B', X', T', hkn, by show c.dp + 1 + 13 < _; omega, by show c.un + 3 + 8 * 13 + 64 < _; omega⟩
  have mc : (L' + 1 + 1 + 1, o3) ∈ [(L' + 1 + 1 + 1, o3), (L' + 1 + 1, o2), (L' + 1, o1)] ++ a := .head _
  have m2 : (L' + 1 + 1, o2) ∈ [(L' + 1 + 1 + 1, o3), (L' + 1 + 1, o2), (L' + 1, o1)] ++ a := .tail _ (.head _)
  have m1 : (L' + 1, o1) ∈ [(L' + 1 + 1 + 1, o3), (L' + 1 + 1, o2), (L' + 1, o1)] ++ a := .tail _ (.tail _ (.head _))
  have kk : (scAt c.w.params 248).names.lookup (Str.ofString "worth") = some .cell ∧ (scAt c.w.params 248).names.lookup (Str.ofString "size") = some .cell ∧ (scAt c.w.params 248).names.lookup (Str.ofString "spots") = some .local := ⟨by kernel_rfl, by kernel_rfl, by kernel_rfl⟩
  have S0 : c'.S (fun _ => none) ([(L' + 1 + 1 + 1, o3), (L' + 1 + 1, o2), (L' + 1, o1)] ++ a) [] := Cx.S.nil
  have S' : c'.S (_root_.PySem.bindL (envOfC (fnAt c.w.params 248).qualname (scAt c.w.params 248) L' 248 (fnAt c.w.params 248).code).kindOf [(Str.ofString "worth", .int (V l) tx), (Str.ofString "size", .int n tn), (Str.ofString "spots", .ref ca)] fun _ => none) ([(L' + 1 + 1 + 1, o3), (L' + 1 + 1, o2), (L' + 1, o1)] ++ a) [(Str.ofString "spots", .ilst ks), (Str.ofString "size", .int n), (Str.ofString "worth", .bits l)] := fun y p e => by
    rw [List.lookup_cons] at e
    split at e
    · rename_i h
      cases e
      obtain rfl := eq_of_beq h
      exact ⟨by decide, _, .ilst hpa (ua _ hl) hi, .inl ⟨kk.2.2, by kernel_rfl⟩⟩
    · rw [List.lookup_cons] at e
      split at e
      · rename_i h
        cases e
        obtain rfl := eq_of_beq h
        exact ⟨by decide, _, .int rfl, .inr ⟨kk.2.1, _, _, (by kernel_rfl : c'.cl.lookup (Str.ofString "size") = some (L' + 1 + 1)), hP _ (Nat.le_add_right L' 2), m2, y2⟩⟩
      · rw [List.lookup_cons] at e
        split at e
        · rename_i h
          cases e
          obtain rfl := eq_of_beq h
          exact ⟨by decide, _, .int rfl, .inr ⟨kk.1, _, _, (by kernel_rfl : c'.cl.lookup (Str.ofString "worth") = some (L' + 1)), hP _ (Nat.le_add_right L' 1), m1, y1⟩⟩
        · cases e
  refine scans_run c' (L := L') rfl hn h0 hv F' ⟨N', N.pok.sub ua⟩ S' m1 y1 m2 y2 mc y3 hP fun h2 tk2 m2 b F2 N2 u => ?_
  refine leaveK_ F2 N2.N fun F3 N3 => back _ h2 tk2 b (.bool true) k F3 ⟨N3, N2.pok⟩ (fun q hq hn => u q (without_mem (ua q hq) fun e => ?_) hn) .bool hk
  exact Nat.lt_irrefl _ (Nat.lt_of_lt_of_le (l1 _ hq) (e ▸ Nat.le_add_right L' 3))
theorem k_law_scans : EntOk e_law_scans := .of f_law_scans (Ok.aI fun x => Ok.aI fun n => Ok.aN fun cs => Ok.to fun h => by
  obtain ⟨h0, hx, hv⟩ := h
  obtain ⟨l, rfl, hn⟩ := as_bits (by omega) hx
  exact ⟨[.bits l, .int n, .ilst cs], ⟨rfl, rfl, rfl, trivial⟩, ok_scans hn h0 hv⟩)
end

section
theorem hold_q {M : Model} {A : Around} {α : Type} {t : Sem α} {Q : α → Shared → Prop} {E : Value → Shared → Prop} {s : Shared} (h : ∀ Q', Q' = Q → wpAny M A t Q' E s) : wpAny M A t Q E s := h _ rfl
theorem law_end {w : World} {mean : ExcName → Option Value} {mg mb : Str → Option Value} {s₁ s : Shared} {cn : Str} {ad L D C : Addr} {ccd : Value} {m : Str → Option Value} {ys : List Value} {ns : List Int} {t : Tok} {i j : Nat} {a : Led} {rest : List Stmt} {sc : Scope} {Q : Flow → Shared → Prop} {E : Value → Shared → Prop}
    (hb : (bodyAt w.params 253).tail = rest) (hsc : scAt w.params 253 = sc) (BL : Below callerA s₁.heap [] s₁.heap) (X : (Mine.hd.heap_1 w.params).In s₁.heap) (TP : Top Mine.hd.view_39 LO mean mg mb s₁.heap)
    (F : Fr s₁.heap L s.heap m) (N : News s₁.heap L s.heap ((D, W.listOf #[.ref C, .int 0 t] i) :: (C, W.listOf ys.toArray j) :: a)) (hI : IntsAre ys ns) (hl : ns.length ≤ 40) (hCD : C < D) (hm : m (Str.ofString "pen") = some (.ref D))
    (k : ∀ h' tk' m', Fr s₁.heap L h' m' → Q (.ret (.bool true)) { s with heap := h', toks := tk' }) :
    wpAny (model PySem.Challenge.rw_pb0415_01.row.prog w) (callerA.deeper (envOf cn sc L ad ccd)) (execs rest (envOf cn sc L ad ccd)) Q E s := by
  subst hb; subst hsc
  have hk : (scAt w.params 253).kind = .function := by kernel_rfl
  have hp : okN (scAt w.params 253) (Str.ofString "pen") = true := by kernel_rfl
  let p : PenS := ⟨D, C, ys, ns, hI, by rw [hI.length]; omega, fun e => Nat.lt_irrefl _ ((Option.some.inj e) ▸ hCD)⟩
  let A' := callerA.deeper (envOf cn (scAt w.params 253) L ad ccd)
  let c : Cx (scAt w.params 253) 20 := ⟨w, mean, mg, mb, A'.depth, A'.units, A'.guards, cn, ad, ccd, [], [], callerA, s₁.heap, s₁.heap, L, some p, BL, X, TP, hk, by show 1 + claimMargin + 1 + 20 < recursionLimit; decide, by show 4 + 3 + 8 * 20 + 64 < cLine; decide⟩
  have hT : TOk c TL := fun e he => by
    simp only [List.mem_cons, List.not_mem_nil, or_false] at he
    rcases he with rfl | rfl | rfl | rfl | rfl | rfl | rfl | rfl
    · exact ⟨k_law_cell.f, fun hr => k_law_cell.ok c hr⟩
    · exact ⟨k_law_turns_right.f, fun hr => k_law_turns_right.ok c hr⟩
    · exact ⟨k_law_shifts_right.f, fun hr => k_law_shifts_right.ok c hr⟩
    · exact ⟨k_law_products_right.f, fun hr => k_law_products_right.ok c hr⟩
    · exact ⟨k_law_minus.f, fun hr => k_law_minus.ok c hr⟩
    · exact ⟨f_law_divided_right, fun hr => k_law_divided hr rfl rfl X TP⟩
    · exact ⟨k_masked_count.f, fun hr => k_masked_count.ok c hr⟩
    · exact ⟨k_law_scans.f, fun hr => k_law_scans.ok c hr⟩
  have N' : c.N 0 s.heap ((D, W.listOf #[.ref C, .int 0 t] i) :: (C, W.listOf ys.toArray j) :: a) := ⟨N, fun q e => by
    cases e
    exact ⟨⟨t, i, .head _⟩, j, .tail _ (.head _)⟩⟩
  have S' : c.S m ((D, W.listOf #[.ref C, .int 0 t] i) :: (C, W.listOf ys.toArray j) :: a) [(Str.ofString "pen", .pen)] := Cx.S.set (c := c) (m := m) Cx.S.nil (okN_l hp).2 (okN_l hp).1 (.pen rfl) hm fun _ _ => rfl
  refine WB_ok (c := c) noL_ok (by decide) hT (fun q e => by cases e; rfl) 40 60 (v_law hl) s m _ Q E F N' S' ⟨fun v h' tk' m' b q k' F' N2 u R h => ?_, fun _ _ _ _ _ _ _ _ _ _ h => h.elim, fun _ _ _ _ _ _ _ _ _ _ h => h.elim, fun _ h => h.elim⟩
  obtain rfl := (to_rep h R).b
  exact k h' tk' m' F'
local macro_rules | `(tactic| k_qdec) => `(tactic| first | exact (congrFun (congrFun (congrFun PySem.W.Fast.te17448422675489707002 _) _) _).trans (by kernel_rfl) | exact (congrFun PySem.W.Fast.te2458874890965802552 _).trans (by kernel_rfl))
theorem law_dev : PySem.Challenge.rw_pb0415_01.Holds := Mine.hd (by
  k_go0
  all_goals try k_fold
  dsimp only
  refine wpAny_execs_cons ?_
  refine hold_q ?_
  intro Q9 hQ9
  repeat' (first | (k_unfold; (try dsimp only)) | walk1 | (dsimp only; walk1) | fail "no step")
  all_goals (subst hQ9; dsimp only)
  all_goals (rename Fr _ _ _ _ => F9; rename News _ _ _ _ => N9; rename Below _ _ _ _ => K9; rename Top _ _ _ _ _ _ => T9; rename _ = #[] => hG; rename _ < _ ∧ _ < _ => l9)
  all_goals (rename Frag.In _ _ => X9)
  all_goals (rename IntsAre ys _ => hI9)
  all_goals (refine law_end (by kernel_rfl) (by kernel_rfl) K9 X9 T9 F9 N9 hI9 (by rw [List.length_map, List.length_take]; omega) l9.1 (if_pos rfl) ?_)
  all_goals (intro h7 tk7 m7 F7; refine goodW_bool F7 hG (raisesW_false ?_) ?_)
  all_goals (first | exact allW_false_nil | exact postW_of (by wrow_shape) (w_eq_bool (w_res rfl) w_lit) rfl))
end

end Mine
theorem PySem.Challenge.cw_pb0415_01_holds : PySem.Challenge.rw_pb0415_01.Holds := by
  exact Mine.law_dev
