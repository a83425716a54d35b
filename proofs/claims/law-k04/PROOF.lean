import PyProof.Rows.All
import Wide.All
import OpenK.AllK
import Wide.FinOn
import HandS.ForMost
import HandS.Zip
import HandS.TupAny
import HandS.Style
import HandS.DictComp
import HandS.SetFor
import HandS.Strs
import HandS.More
import HandS.WideBits
import HandS.IsInst
import HandS.SortInts
import HandS.Walk
import HandS.Codes
import KE.GoesNew
import PySem.Challenge.RW_squaretimes_k04_whole_questions_of_parit
set_option Elab.async false
set_option linter.all false
set_option maxRecDepth 100000
set_option maxHeartbeats 8000000
/-! Parities, bits, sweeping: no program here. -/
namespace Pq
/-- 0 or 1 -/
def bI (b : Bool) : Int := if b then 1 else 0
/-- the exclusive or of the products, over the numbers below n -/
def par : Nat → (Nat → Bool) → (Nat → Bool) → Bool
  | 0, _, _ => false
  | n + 1, f, x => (par n f x) ^^ (f n && x n)
/-- the exclusive or of x over a list -/
def lp : List Nat → (Nat → Bool) → Bool
  | [], _ => false
  | p :: r, x => x p ^^ lp r x
def mem (l : List Nat) : Nat → Bool := fun p => decide (p ∈ l)
def Asc (N : Nat) (l : List Nat) : Prop := l.Pairwise (· < ·) ∧ ∀ p ∈ l, p < N

theorem bI_xor (a b : Bool) : (bI a + bI b) % 2 = bI (a ^^ b) := by cases a <;> cases b <;> decide
theorem bI_inj {a b : Bool} : bI a = bI b ↔ a = b := by cases a <;> cases b <;> decide
theorem bI_le (a : Bool) : 0 ≤ bI a ∧ bI a ≤ 1 := by cases a <;> decide

theorem par_congr : ∀ {n : Nat} {f g x y : Nat → Bool}, (∀ p, p < n → f p = g p) → (∀ p, p < n → x p = y p) → par n f x = par n g y
  | 0, _, _, _, _, _, _ => rfl
  | n + 1, f, g, x, y, h, k => by
    show (par n f x ^^ (f n && x n)) = (par n g y ^^ (g n && y n))
    rw [par_congr (fun p hp => h p (Nat.lt_succ_of_lt hp)) (fun p hp => k p (Nat.lt_succ_of_lt hp)), h n (Nat.lt_succ_self n), k n (Nat.lt_succ_self n)]
theorem par_xor (n : Nat) (f g x : Nat → Bool) : par n (fun p => f p ^^ g p) x = (par n f x ^^ par n g x) := by
  induction n with
  | zero => rfl
  | succ n ih =>
    show (par n _ x ^^ ((f n ^^ g n) && x n)) = _
    rw [ih]
    show _ = ((par n f x ^^ (f n && x n)) ^^ (par n g x ^^ (g n && x n)))
    cases par n f x <;> cases par n g x <;> cases f n <;> cases g n <;> cases x n <;> rfl
theorem par_xor_r (n : Nat) (f x y : Nat → Bool) : par n f (fun p => x p ^^ y p) = (par n f x ^^ par n f y) := by
  induction n with
  | zero => rfl
  | succ n ih =>
    show (par n f _ ^^ (f n && (x n ^^ y n))) = _
    rw [ih]
    show _ = ((par n f x ^^ (f n && x n)) ^^ (par n f y ^^ (f n && y n)))
    cases par n f x <;> cases par n f y <;> cases f n <;> cases x n <;> cases y n <;> rfl
theorem par_none {n : Nat} {f x : Nat → Bool} (h : ∀ p, p < n → (f p && x p) = false) : par n f x = false := by
  induction n with
  | zero => rfl
  | succ n ih =>
    show (par n f x ^^ (f n && x n)) = false
    rw [ih fun p hp => h p (Nat.lt_succ_of_lt hp), h n (Nat.lt_succ_self n)]
    rfl
theorem par_one {n q : Nat} (hq : q < n) (x : Nat → Bool) : par n (fun p => decide (p = q)) x = x q := by
  induction n with
  | zero => exact absurd hq (Nat.not_lt_zero _)
  | succ n ih =>
    show (par n _ x ^^ (decide (n = q) && x n)) = x q
    by_cases e : n = q
    · subst e
      rw [par_none fun p hp => by rw [decide_eq_false (Nat.ne_of_lt hp)]; rfl, decide_eq_true rfl]
      cases x n <;> rfl
    · rw [ih (by omega), decide_eq_false e]
      cases x q <;> rfl
theorem par_one_r {n q : Nat} (hq : q < n) (f : Nat → Bool) : par n f (fun p => decide (p = q)) = f q := by
  have c : ∀ (m : Nat) (a b : Nat → Bool), par m a b = par m b a := fun m a b => by
    induction m with
    | zero => rfl
    | succ m ih =>
      show (par m a b ^^ (a m && b m)) = (par m b a ^^ (b m && a m))
      rw [ih, Bool.and_comm]
  rw [c, par_one hq]

theorem lp_append : ∀ (a b : List Nat) (x : Nat → Bool), lp (a ++ b) x = (lp a x ^^ lp b x)
  | [], b, x => by show lp b x = (false ^^ lp b x); cases lp b x <;> rfl
  | p :: r, b, x => by
    show (x p ^^ lp (r ++ b) x) = ((x p ^^ lp r x) ^^ lp b x)
    rw [lp_append r b x]
    cases x p <;> cases lp r x <;> cases lp b x <;> rfl
theorem lp_congr : ∀ {l : List Nat} {x y : Nat → Bool}, (∀ p ∈ l, x p = y p) → lp l x = lp l y
  | [], _, _, _ => rfl
  | p :: r, x, y, h => by
    show (x p ^^ lp r x) = (y p ^^ lp r y)
    rw [h p (List.mem_cons_self ..), lp_congr fun q hq => h q (List.mem_cons_of_mem _ hq)]
theorem lp_xor (l : List Nat) (x y : Nat → Bool) : lp l (fun p => x p ^^ y p) = (lp l x ^^ lp l y) := by
  induction l with
  | nil => rfl
  | cons p r ih =>
    show ((x p ^^ y p) ^^ lp r _) = ((x p ^^ lp r x) ^^ (y p ^^ lp r y))
    rw [ih]
    cases x p <;> cases y p <;> cases lp r x <;> cases lp r y <;> rfl
theorem lp_none {l : List Nat} {x : Nat → Bool} (h : ∀ p ∈ l, x p = false) : lp l x = false := by
  induction l with
  | nil => rfl
  | cons p r ih =>
    show (x p ^^ lp r x) = false
    rw [h p (List.mem_cons_self ..), ih fun q hq => h q (List.mem_cons_of_mem _ hq)]
    rfl
theorem lp_perm {a b : List Nat} (h : a.Perm b) (x : Nat → Bool) : lp a x = lp b x := by
  induction h with
  | nil => rfl
  | cons p _ ih => show (x p ^^ lp _ x) = (x p ^^ lp _ x); rw [ih]
  | swap p q r =>
    show (x q ^^ (x p ^^ lp r x)) = (x p ^^ (x q ^^ lp r x))
    cases x p <;> cases x q <;> cases lp r x <;> rfl
  | trans _ _ i j => exact i.trans j
/-- by how often each number stands in the list -/
theorem lp_count (N : Nat) : ∀ {l : List Nat} (x : Nat → Bool), (∀ p ∈ l, p < N) → lp l x = par N (fun p => l.count p % 2 == 1) x
  | [], x, _ => (par_none fun p _ => by simp).symm
  | q :: r, x, h => by
    show (x q ^^ lp r x) = _
    rw [lp_count N x fun p hp => h p (List.mem_cons_of_mem _ hp), ← par_one (h q (List.mem_cons_self ..)) x, ← par_xor]
    refine par_congr (fun p _ => ?_) fun _ _ => rfl
    show (decide (p = q) ^^ (r.count p % 2 == 1)) = ((q :: r).count p % 2 == 1)
    rw [List.count_cons]
    by_cases e : p = q
    · subst e
      simp only [decide_true, BEq.rfl, if_true]
      rcases Nat.mod_two_eq_zero_or_one (r.count p) with h0 | h0
      · have : (r.count p + 1) % 2 = 1 := by omega
        rw [h0, this]; rfl
      · have : (r.count p + 1) % 2 = 0 := by omega
        rw [h0, this]; rfl
    · have e' : (q == p) = false := by simpa using fun z => e z.symm
      simp only [e', decide_eq_false e]
      simp
theorem lp_even {l : List Nat} {x : Nat → Bool} (h : ∀ p, l.count p % 2 = 0) : lp l x = false := by
  obtain ⟨N, hN⟩ : ∃ N, ∀ p ∈ l, p < N := by
    clear h
    induction l with
    | nil => exact ⟨0, fun _ h => nomatch h⟩
    | cons a r ih =>
      obtain ⟨N, hN⟩ := ih
      refine ⟨N + a + 1, fun p hp => ?_⟩
      rcases List.mem_cons.mp hp with e | hp
      · omega
      · have := hN p hp
        omega
  rw [lp_count N x hN]
  exact par_none fun p _ => by rw [h p]; rfl
theorem nodup_count {l : List Nat} (h : l.Nodup) (p : Nat) : (l.count p % 2 == 1) = decide (p ∈ l) := by
  rw [h.count]
  by_cases e : p ∈ l
  · rw [if_pos e, decide_eq_true e]; rfl
  · rw [if_neg e, decide_eq_false e]; rfl
theorem lp_mem {N : Nat} {l : List Nat} (hn : l.Nodup) (h : ∀ p ∈ l, p < N) (x : Nat → Bool) : lp l x = par N (mem l) x := by
  rw [lp_count N x h]
  exact par_congr (fun p _ => nodup_count hn p) fun _ _ => rfl
theorem lp_one {l : List Nat} (hn : l.Nodup) (q : Nat) : lp l (fun p => decide (p = q)) = decide (q ∈ l) := by
  induction l with
  | nil => simp [lp]
  | cons a r ih =>
    obtain ⟨h1, h2⟩ := List.nodup_cons.mp hn
    show (decide (a = q) ^^ lp r _) = _
    rw [ih h2]
    by_cases e : a = q
    · subst e
      simp [h1]
    · have : ¬ q = a := fun z => e z.symm
      simp [e, this]
theorem lp_filter : ∀ (l : List Nat) (x : Nat → Bool), (((l.filter x).length : Nat) : Int) % 2 = bI (lp l x)
  | [], _ => rfl
  | p :: r, x => by
    have ih := lp_filter r x
    rw [List.filter_cons]
    show _ = bI (x p ^^ lp r x)
    cases h : x p with
    | false => simp only [Bool.false_eq_true, if_false, Bool.false_bne]; exact ih
    | true =>
      rw [if_pos rfl, List.length_cons, ← bI_xor, ← ih]
      show _ = (1 + _) % 2
      omega
theorem lp_filter_nat (l : List Nat) (x : Nat → Bool) : (l.filter x).length % 2 = if lp l x then 1 else 0 := by
  have h := lp_filter l x
  unfold bI at h
  split at h <;> rename_i e
  · rw [if_pos e]; omega
  · rw [if_neg e]; omega
theorem lp_range (n : Nat) (f g : Nat → Bool) : lp ((List.range n).filter f) g = par n f g := by
  induction n with
  | zero => rfl
  | succ n ih =>
    rw [List.range_succ, List.filter_append, lp_append, ih]
    show _ = (par n f g ^^ (f n && g n))
    cases h : f n with
    | false => simp [h, lp]
    | true => simp [h, lp]
theorem lp_flat (f : Nat → List Nat) (x : Nat → Bool) : ∀ t : List Nat, lp (t.flatMap f) x = lp t (fun i => lp (f i) x)
  | [] => rfl
  | i :: r => by
    rw [List.flatMap_cons, lp_append, lp_flat f x r]
    rfl

theorem Asc.nd {N : Nat} {l : List Nat} (h : Asc N l) : l.Nodup := h.1.imp fun h => Nat.ne_of_lt h
theorem asc_len : ∀ {l : List Nat} {a N : Nat}, l.Pairwise (· < ·) → (∀ p ∈ l, a ≤ p ∧ p < N) → l.length + a ≤ N ∨ l = []
  | [], _, _, _, _ => .inr rfl
  | p :: r, a, N, h, k => by
    obtain ⟨h1, h2⟩ := List.pairwise_cons.mp h
    have kp := k p (List.mem_cons_self ..)
    rcases asc_len (a := p + 1) (N := N) h2 fun q hq => ⟨h1 q hq, (k q (List.mem_cons_of_mem _ hq)).2⟩ with e | e
    · left; rw [List.length_cons]; omega
    · subst e; left; show 0 + 1 + a ≤ N; omega
theorem Asc.len {N : Nat} {l : List Nat} (h : Asc N l) : l.length ≤ N := by
  rcases asc_len (a := 0) h.1 fun p hp => ⟨Nat.zero_le _, h.2 p hp⟩ with e | e
  · omega
  · subst e; exact Nat.zero_le _
theorem Asc.mono {N M : Nat} {l : List Nat} (h : Asc N l) (k : N ≤ M) : Asc M l := ⟨h.1, fun p hp => Nat.lt_of_lt_of_le (h.2 p hp) k⟩
theorem Asc.filter {N : Nat} (f : Nat → Bool) : Asc N ((List.range N).filter f) :=
  ⟨List.Pairwise.filter _ List.pairwise_lt_range, fun p hp => List.mem_range.mp (List.mem_filter.mp hp).1⟩
theorem Asc.take {N : Nat} {l : List Nat} (h : Asc N l) (k : Nat) : Asc N (l.take k) := ⟨h.1.sublist (List.take_sublist ..), fun p hp => h.2 p (List.mem_of_mem_take hp)⟩
theorem asc_ext {a b : List Nat} (ha : a.Pairwise (· < ·)) (hb : b.Pairwise (· < ·)) (h : ∀ p, p ∈ a ↔ p ∈ b) : a = b := by
  have p : a.Perm b := (List.perm_ext_iff_of_nodup (ha.imp fun h => Nat.ne_of_lt h) (hb.imp fun h => Nat.ne_of_lt h)).mpr h
  exact p.eq_of_pairwise (fun x y _ _ h1 h2 => absurd (Nat.lt_trans h1 h2) (Nat.lt_irrefl _)) ha hb

/-! ### a row's mask -/
def msk (row : List Nat) : Nat := (row.map (2 ^ ·)).sum
theorem msk_snoc (r : List Nat) (p : Nat) : msk (r ++ [p]) = 2 ^ p + msk r := by
  unfold msk
  rw [List.map_append, List.sum_append]
  show _ + (2 ^ p + 0) = _
  omega
theorem msk_take {row : List Nat} (h : row.Pairwise (· < ·)) : ∀ (k : Nat) (q : Nat), (msk (row.take k)).testBit q = decide (q ∈ row.take k)
  | 0, q => by simp [msk]
  | k + 1, q => by
    by_cases hk : k < row.length
    · have ht : row.take (k + 1) = row.take k ++ [row[k]] := by rw [List.take_add_one, List.getElem?_eq_getElem hk]; rfl
      have below : ∀ p ∈ row.take k, p < row[k] := fun p hp => by
        have h' : (row.take k ++ [row[k]]).Pairwise (· < ·) := by rw [← ht]; exact h.sublist (List.take_sublist ..)
        exact (List.pairwise_append.mp h').2.2 p hp _ (List.mem_singleton.mpr rfl)
      have lt : msk (row.take k) < 2 ^ row[k] := Nat.lt_pow_two_of_testBit _ fun i hi => by
        rw [msk_take h k i]
        exact decide_eq_false fun m => absurd (below i m) (by omega)
      have e : msk (row.take k ++ [row[k]]) = 2 ^ row[k] * 1 + msk (row.take k) := by rw [msk_snoc]; omega
      rw [ht, e, Nat.testBit_two_pow_mul_add _ lt]
      by_cases hq : q < row[k]
      · rw [if_pos hq, msk_take h k q]
        have : ¬ q = row[k] := Nat.ne_of_lt hq
        exact decide_eq_decide.mpr ⟨fun m => List.mem_append_left _ m, fun m => (List.mem_append.mp m).elim id fun m => absurd (List.mem_singleton.mp m) this⟩
      · rw [if_neg hq]
        have n : ¬ q ∈ row.take k := fun m => hq (below q m)
        by_cases e : q = row[k]
        · subst e
          rw [Nat.sub_self, decide_eq_true (List.mem_append_right _ (List.mem_singleton.mpr rfl))]
          rfl
        · have e1 : q - row[k] ≠ 0 := by omega
          have : Nat.testBit 1 (q - row[k]) = false := by
            have := @Nat.testBit_two_pow 0 (q - row[k])
            rw [show (2 : Nat) ^ 0 = 1 from rfl] at this
            rw [this]
            exact decide_eq_false fun z => e1 z.symm
          rw [this]
          exact (decide_eq_false fun m => (List.mem_append.mp m).elim n fun m => e (List.mem_singleton.mp m)).symm
    · rw [List.take_of_length_le (by omega)]
      have := msk_take h k q
      rw [List.take_of_length_le (by omega)] at this
      exact this
theorem msk_bit {row : List Nat} (h : row.Pairwise (· < ·)) (q : Nat) : (msk row).testBit q = decide (q ∈ row) := by
  have := msk_take h row.length q
  rw [List.take_length] at this
  exact this
theorem msk_lt {N : Nat} {row : List Nat} (h : Asc N row) : msk row < 2 ^ N := Nat.lt_pow_two_of_testBit _ fun i hi => by
  rw [msk_bit h.1]
  exact decide_eq_false fun m => absurd (h.2 i m) (by omega)
theorem msk_par {N : Nat} {row : List Nat} (h : Asc N row) (x : Nat → Bool) : par N (msk row).testBit x = lp row x := by
  rw [lp_mem h.nd h.2]
  exact par_congr (fun p _ => msk_bit h.1 p) fun _ _ => rfl

/-! ### bits -/
def bl (m : Nat) : Nat := if m = 0 then 0 else m.log2 + 1
theorem bl_pos {m : Nat} (h : 0 < m) : bl m = m.log2 + 1 := by unfold bl; rw [if_neg (by omega)]
theorem lt_bl (m : Nat) : m < 2 ^ bl m := by
  unfold bl
  split
  · rename_i h; subst h; decide
  · exact Nat.lt_log2_self
theorem bl_bit {m : Nat} (h : 0 < m) : m.testBit (bl m - 1) = true := by
  rw [bl_pos h, Nat.add_sub_cancel]
  exact Nat.testBit_log2 (by omega)
theorem bl_le {m n : Nat} (h : m < 2 ^ n) : bl m ≤ n := by
  unfold bl
  split
  · exact Nat.zero_le _
  · rename_i e
    exact (Nat.log2_lt e).mpr h
theorem bl_out {m i : Nat} (h : bl m ≤ i) : m.testBit i = false := Nat.testBit_lt_two_pow (Nat.lt_of_lt_of_le (lt_bl m) (Nat.pow_le_pow_right (by decide) h))
/-- two masks of one length: their exclusive or is lower -/
theorem xor_less {m h : Nat} (hm : 0 < m) (hh : 0 < h) (e : bl m = bl h) : m ^^^ h < 2 ^ (bl m - 1) ∧ m ^^^ h < m := by
  have b0 : 0 < bl m := by rw [bl_pos hm]; omega
  have k : m ^^^ h < 2 ^ (bl m - 1) := Nat.lt_pow_two_of_testBit _ fun i hi => by
    rw [Nat.testBit_xor]
    by_cases q : i = bl m - 1
    · have h1 := bl_bit hm
      have h2 := bl_bit hh
      rw [← e] at h2
      rw [q, h1, h2]; rfl
    · rw [bl_out (m := m) (by omega), bl_out (m := h) (by omega)]; rfl
  refine ⟨k, Nat.lt_of_lt_of_le k ?_⟩
  rw [bl_pos hm, Nat.add_sub_cancel]
  exact Nat.log2_self_le (by omega)
def bits (n m : Nat) : List Nat := (List.range n).filter m.testBit
theorem bits_asc (n m : Nat) : Asc n (bits n m) := Asc.filter _
/-- the lowest bit -/
theorem lowest : ∀ (m : Nat), 0 < m → ∃ e a, m = 2 ^ (e + 1) * a + 2 ^ e := fun m => by
  induction m using Nat.strongRecOn with
  | _ m ih =>
    intro h
    rcases Nat.mod_two_eq_zero_or_one m with z | z
    · obtain ⟨e, a, q⟩ := ih (m / 2) (by omega) (by omega)
      refine ⟨e + 1, a, ?_⟩
      have : m = 2 * (m / 2) := by omega
      rw [this, q, Nat.mul_add, ← Nat.mul_assoc, Nat.pow_succ 2 (e + 1), Nat.pow_succ 2 e, Nat.mul_comm 2 (2 ^ e * 2), Nat.mul_comm 2 (2 ^ e)]
    · exact ⟨0, m / 2, by show m = 2 * (m / 2) + 1; omega⟩
theorem pow_lt (e : Nat) : 2 ^ e < 2 ^ (e + 1) := by rw [Nat.pow_succ]; have := Nat.two_pow_pos e; omega
theorem low_and (e a : Nat) : (2 ^ (e + 1) * a + 2 ^ e) &&& (2 ^ (e + 1) * a + 2 ^ e - 1) = 2 ^ (e + 1) * a := by
  have h1 : 2 ^ (e + 1) * a + 2 ^ e - 1 = 2 ^ (e + 1) * a + (2 ^ e - 1) := by have := Nat.two_pow_pos e; omega
  have l1 := pow_lt e
  have l2 : 2 ^ e - 1 < 2 ^ (e + 1) := by omega
  apply Nat.eq_of_testBit_eq
  intro i
  rw [Nat.testBit_and, h1, Nat.testBit_two_pow_mul_add _ l1, Nat.testBit_two_pow_mul_add _ l2]
  have h3 := Nat.testBit_two_pow_mul_add a (b := 0) (Nat.two_pow_pos (e + 1)) i
  rw [Nat.add_zero] at h3
  rw [h3]
  by_cases hi : i < e + 1
  · rw [if_pos hi, if_pos hi, if_pos hi, Nat.testBit_two_pow, Nat.testBit_two_pow_sub_one, Nat.zero_testBit]
    by_cases q : e = i
    · subst q; simp
    · simp [q]
  · rw [if_neg hi, if_neg hi, if_neg hi, Bool.and_self]
theorem low_xor (e a : Nat) : (2 ^ (e + 1) * a + 2 ^ e) ^^^ 2 ^ e = 2 ^ (e + 1) * a := by
  have l1 := pow_lt e
  apply Nat.eq_of_testBit_eq
  intro i
  rw [Nat.testBit_xor, Nat.testBit_two_pow_mul_add _ l1]
  have h3 := Nat.testBit_two_pow_mul_add a (b := 0) (Nat.two_pow_pos (e + 1)) i
  rw [Nat.add_zero] at h3
  rw [h3, Nat.testBit_two_pow]
  by_cases hi : i < e + 1
  · rw [if_pos hi, if_pos hi, Nat.zero_testBit]
    cases decide (e = i) <;> rfl
  · rw [if_neg hi, if_neg hi, decide_eq_false (by omega)]
    cases a.testBit (i - (e + 1)) <;> rfl
theorem low_bit (e a i : Nat) : (2 ^ (e + 1) * a + 2 ^ e).testBit i = (decide (i = e) || (2 ^ (e + 1) * a).testBit i) := by
  have l1 := pow_lt e
  rw [Nat.testBit_two_pow_mul_add _ l1]
  have h3 := Nat.testBit_two_pow_mul_add a (b := 0) (Nat.two_pow_pos (e + 1)) i
  rw [Nat.add_zero] at h3
  rw [h3, Nat.testBit_two_pow, Nat.zero_testBit]
  by_cases hi : i < e + 1
  · rw [if_pos hi, if_pos hi, Bool.or_false]
    by_cases q : i = e
    · subst q; simp
    · rw [decide_eq_false q, decide_eq_false fun z : e = i => q z.symm]
  · rw [if_neg hi, if_neg hi, decide_eq_false (by omega), Bool.false_or]
theorem high_bit (e a i : Nat) (h : i ≤ e) : (2 ^ (e + 1) * a).testBit i = false := by
  have h3 := Nat.testBit_two_pow_mul_add a (b := 0) (Nat.two_pow_pos (e + 1)) i
  rw [Nat.add_zero] at h3
  rw [h3, if_pos (by omega), Nat.zero_testBit]
/-- a turn of the loop that tells the bits: what was found below k, what is left from k on -/
theorem bits_turn {m k left e a : Nat} (hl : ∀ q, left.testBit q = (decide (k ≤ q) && m.testBit q)) (he : left = 2 ^ (e + 1) * a + 2 ^ e) :
    bits k m ++ [e] = bits (e + 1) m ∧ (∀ q, (2 ^ (e + 1) * a).testBit q = (decide (e + 1 ≤ q) && m.testBit q)) := by
  have hb : ∀ i, (decide (i = e) || (2 ^ (e + 1) * a).testBit i) = (decide (k ≤ i) && m.testBit i) := fun i => by rw [← low_bit, ← he, hl]
  have hk : k ≤ e ∧ m.testBit e = true := by
    have := hb e
    rw [decide_eq_true rfl, Bool.true_or] at this
    have := this.symm
    rw [Bool.and_eq_true] at this
    exact ⟨of_decide_eq_true this.1, this.2⟩
  refine ⟨?_, fun q => ?_⟩
  · refine asc_ext ?_ (bits_asc _ _).1 fun p => ?_
    · refine List.pairwise_append.mpr ⟨(bits_asc _ _).1, List.pairwise_singleton .., fun x hx y hy => ?_⟩
      rw [List.mem_singleton.mp hy]
      exact Nat.lt_of_lt_of_le ((bits_asc _ _).2 x hx) hk.1
    · unfold bits
      rw [List.mem_append, List.mem_filter, List.mem_filter, List.mem_range, List.mem_range, List.mem_singleton]
      constructor
      · rintro (⟨h1, h2⟩ | h)
        · exact ⟨by omega, h2⟩
        · subst h; exact ⟨by omega, hk.2⟩
      · rintro ⟨h1, h2⟩
        by_cases z : p = e
        · exact .inr z
        · refine .inl ⟨?_, h2⟩
          have := hb p
          rw [decide_eq_false z, Bool.false_or, high_bit e a p (by omega), h2, Bool.and_true] at this
          have := of_decide_eq_false this.symm
          omega
  · by_cases z : q ≤ e
    · rw [high_bit e a q z, decide_eq_false (by omega), Bool.false_and]
    · have := hb q
      rw [decide_eq_false (by omega), Bool.false_or] at this
      rw [this, decide_eq_true (by omega), decide_eq_true (by omega)]
theorem bits_end {m k n : Nat} (hm : m < 2 ^ n) (hl : ∀ q, Nat.testBit 0 q = (decide (k ≤ q) && m.testBit q)) : bits k m = bits n m := by
  refine asc_ext (bits_asc _ _).1 (bits_asc _ _).1 fun p => ?_
  unfold bits
  rw [List.mem_filter, List.mem_filter, List.mem_range, List.mem_range]
  constructor
  · rintro ⟨_, h⟩
    refine ⟨?_, h⟩
    by_cases z : p < n
    · exact z
    · rw [Nat.testBit_lt_two_pow (Nat.lt_of_lt_of_le hm (Nat.pow_le_pow_right (by decide) (by omega)))] at h
      cases h
  · rintro ⟨_, h⟩
    refine ⟨?_, h⟩
    have := hl p
    rw [h, Bool.and_true, Nat.zero_testBit] at this
    have := of_decide_eq_false this.symm
    omega
end Pq

/-! Questions of parity: solutions, odd lots, heads, sweeping by places, all lots. -/
namespace Pq
/-- the places x solve the question -/
def Sat (rows : List (List Nat)) (sides : List Bool) (x : Nat → Bool) : Prop := rows.map (fun r => lp r x) = sides
def Solvable (rows : List (List Nat)) (sides : List Bool) : Prop := ∃ x, Sat rows sides x
def rowAt (rows : List (List Nat)) (i : Nat) : List Nat := rows.getD i []
def sideAt (sides : List Bool) (i : Nat) : Bool := sides.getD i false
def OddLot (rows : List (List Nat)) (sides : List Bool) (t : List Nat) : Prop := (∀ p, ((t.flatMap (rowAt rows)).count p) % 2 = 0) ∧ lp t (sideAt sides) = true
/-- a question: rows ascending with places below N, as many sides -/
structure Quest (N : Nat) (rows : List (List Nat)) (sides : List Bool) : Prop where
  asc : ∀ r ∈ rows, Asc N r
  len : sides.length = rows.length

theorem sat_iff {rows : List (List Nat)} {sides : List Bool} {x : Nat → Bool} (h : sides.length = rows.length) : Sat rows sides x ↔ ∀ i, i < rows.length → lp (rowAt rows i) x = sideAt sides i := by
  unfold Sat rowAt sideAt
  constructor
  · intro e i hi
    rw [← e]
    simp [List.getD, hi]
  · intro k
    apply List.ext_getElem
    · rw [List.length_map, h]
    · intro i h1 h2
      rw [List.length_map] at h1
      have := k i h1
      simp only [List.getD, List.getElem?_eq_getElem h1, List.getElem?_eq_getElem h2, Option.getD_some] at this
      simpa using this
theorem Quest.row {N : Nat} {rows : List (List Nat)} {sides : List Bool} (h : Quest N rows sides) (i : Nat) : Asc N (rowAt rows i) := by
  unfold rowAt
  by_cases hi : i < rows.length
  · rw [List.getD, List.getElem?_eq_getElem hi]
    exact h.asc _ (List.getElem_mem hi)
  · rw [List.getD, List.getElem?_eq_none (by omega)]
    exact ⟨.nil, fun _ h => nomatch h⟩
theorem odd_not {rows : List (List Nat)} {sides : List Bool} {t : List Nat} (h : sides.length = rows.length) (ht : ∀ i ∈ t, i < rows.length) (o : OddLot rows sides t) : ¬ Solvable rows sides := by
  rintro ⟨x, hx⟩
  have k := (sat_iff h).mp hx
  have e := lp_flat (rowAt rows) x t
  rw [lp_even o.1, lp_congr fun i hi => k i (ht i hi), o.2] at e
  cases e
theorem sat_congr {rows : List (List Nat)} {sides : List Bool} {x y : Nat → Bool} (h : ∀ r ∈ rows, ∀ p ∈ r, x p = y p) (s : Sat rows sides x) : Sat rows sides y := by
  unfold Sat at s ⊢
  rw [← s]
  exact List.map_congr_left fun r hr => (lp_congr fun p hp => h r hr p hp).symm

/-! ### heads -/
structure Hd where
  m : Nat
  lot : Nat
  s : Bool
def SatH (h : Hd) (x : Nat → Bool) : Prop := par 1000 h.m.testBit x = h.s
/-- what a head is: the exclusive or of the rows of its lot -/
structure HdOk (rows : List (List Nat)) (sides : List Bool) (h : Hd) : Prop where
  bits : ∀ p, h.m.testBit p = par rows.length h.lot.testBit (fun i => decide (p ∈ rowAt rows i))
  side : h.s = par rows.length h.lot.testBit (sideAt sides)
  lotLt : h.lot < 2 ^ rows.length
  mLt : h.m < 2 ^ 1000
def Hd.xor (a b : Hd) : Hd := ⟨a.m ^^^ b.m, a.lot ^^^ b.lot, a.s ^^ b.s⟩
def Hd.row (rows : List (List Nat)) (sides : List Bool) (i : Nat) : Hd := ⟨msk (rowAt rows i), 2 ^ i, sideAt sides i⟩
section
variable {rows : List (List Nat)} {sides : List Bool}
theorem HdOk.xor {a b : Hd} (ha : HdOk rows sides a) (hb : HdOk rows sides b) : HdOk rows sides (a.xor b) := by
  refine ⟨fun p => ?_, ?_, Nat.xor_lt_two_pow ha.lotLt hb.lotLt, Nat.xor_lt_two_pow ha.mLt hb.mLt⟩
  · show (a.m ^^^ b.m).testBit p = par _ (a.lot ^^^ b.lot).testBit _
    rw [Nat.testBit_xor, ha.bits, hb.bits, ← par_xor]
    exact par_congr (fun i _ => (Nat.testBit_xor ..).symm) fun _ _ => rfl
  · show (a.s ^^ b.s) = par _ (a.lot ^^^ b.lot).testBit _
    rw [ha.side, hb.side, ← par_xor]
    exact par_congr (fun i _ => (Nat.testBit_xor ..).symm) fun _ _ => rfl
theorem HdOk.row (q : Quest 1000 rows sides) {i : Nat} (hi : i < rows.length) : HdOk rows sides (.row rows sides i) := by
  have e : ∀ g : Nat → Bool, par rows.length (2 ^ i).testBit g = g i := fun g => by
    rw [← par_one hi g]
    exact par_congr (fun j _ => by
      rw [Nat.testBit_two_pow]
      by_cases z : i = j
      · subst z; simp
      · rw [decide_eq_false z, decide_eq_false fun w => z w.symm]) fun _ _ => rfl
  refine ⟨fun p => ?_, ?_, Nat.pow_lt_pow_right (by decide) hi, msk_lt (q.row i)⟩
  · show (msk (rowAt rows i)).testBit p = par _ (2 ^ i).testBit _
    rw [e, msk_bit (q.row i).1]
  · show sideAt sides i = par _ (2 ^ i).testBit _
    rw [e]
theorem satH_xor (a b : Hd) (x : Nat → Bool) (hb : SatH b x) : SatH (a.xor b) x ↔ SatH a x := by
  unfold SatH at hb ⊢
  have e : par 1000 (a.xor b).m.testBit x = (par 1000 a.m.testBit x ^^ par 1000 b.m.testBit x) := by
    rw [← par_xor]
    exact par_congr (fun i _ => Nat.testBit_xor ..) fun _ _ => rfl
  rw [e, hb]
  show (_ = (a.s ^^ b.s)) ↔ _
  cases par 1000 a.m.testBit x <;> cases a.s <;> cases b.s <;> decide
theorem satH_row (q : Quest 1000 rows sides) (i : Nat) (x : Nat → Bool) : SatH (.row rows sides i) x ↔ lp (rowAt rows i) x = sideAt sides i := by
  unfold SatH
  rw [show (Hd.row rows sides i).m = msk (rowAt rows i) from rfl, msk_par (q.row i)]
  rfl
/-- a head without places and with the side 1 tells an odd lot -/
theorem odd_of (q : Quest 1000 rows sides) {h : Hd} (k : HdOk rows sides h) (h0 : h.m = 0) (h1 : h.s = true) : 0 < h.lot ∧ OddLot rows sides (bits rows.length h.lot) := by
  have side : par rows.length h.lot.testBit (sideAt sides) = true := by rw [← k.side, h1]
  refine ⟨?_, fun p => ?_, ?_⟩
  · rcases Nat.eq_zero_or_pos h.lot with z | z
    · rw [z, par_none fun p _ => by rw [Nat.zero_testBit]; rfl] at side
      cases side
    · exact z
  · have e : ∀ t : List Nat, (t.flatMap (rowAt rows)).count p % 2 = if lp t (fun i => decide (p ∈ rowAt rows i)) then 1 else 0 := fun t => by
      induction t with
      | nil => rfl
      | cons i r ih =>
        rw [List.flatMap_cons, List.count_append]
        show _ = if (decide (p ∈ rowAt rows i) ^^ lp r _) then 1 else 0
        rw [(q.row i).nd.count, Nat.add_mod, ih]
        by_cases m : p ∈ rowAt rows i
        · rw [if_pos m, decide_eq_true m]
          cases lp r (fun i => decide (p ∈ rowAt rows i)) <;> rfl
        · rw [if_neg m, decide_eq_false m]
          cases lp r (fun i => decide (p ∈ rowAt rows i)) <;> rfl
    rw [e, show bits rows.length h.lot = (List.range rows.length).filter h.lot.testBit from rfl, lp_range, ← k.bits, h0, Nat.zero_testBit]
    rfl
  · rw [show bits rows.length h.lot = (List.range rows.length).filter h.lot.testBit from rfl, lp_range]
    exact side

/-- the heads behind some rows: who solves all heads solves those rows -/
structure HeadsOk (rows : List (List Nat)) (sides : List Bool) (n : Nat) (hs : List Hd) : Prop where
  ok : ∀ h ∈ hs, HdOk rows sides h ∧ 0 < h.m
  nd : (hs.map fun h => bl h.m).Nodup
  sat : ∀ x, (∀ h ∈ hs, SatH h x) → ∀ i, i < n → lp (rowAt rows i) x = sideAt sides i
  len : hs.length ≤ n
theorem HeadsOk.nil : HeadsOk rows sides 0 [] := ⟨(fun _ h => nomatch h), List.nodup_nil, fun _ _ i hi => absurd hi (Nat.not_lt_zero _), Nat.le_refl _⟩
/-- within the turn of row n: what the row has become -/
structure CurOk (rows : List (List Nat)) (sides : List Bool) (n : Nat) (hs : List Hd) (c : Hd) : Prop where
  ok : HdOk rows sides c
  eq : ∀ x, (∀ h ∈ hs, SatH h x) → (SatH c x ↔ lp (rowAt rows n) x = sideAt sides n)
theorem CurOk.start (q : Quest 1000 rows sides) {n : Nat} (hn : n < rows.length) (hs : List Hd) : CurOk rows sides n hs (.row rows sides n) := ⟨.row q hn, fun x _ => satH_row q n x⟩
theorem CurOk.turn {n : Nat} {hs : List Hd} {c h : Hd} (k : CurOk rows sides n hs c) (H : HeadsOk rows sides n hs) (hm : h ∈ hs) : CurOk rows sides n hs (c.xor h) :=
  ⟨k.ok.xor (H.ok h hm).1, fun x hx => (satH_xor c h x (hx h hm)).trans (k.eq x hx)⟩
theorem HeadsOk.add {n : Nat} {hs : List Hd} {c : Hd} (H : HeadsOk rows sides n hs) (k : CurOk rows sides n hs c) (hp : 0 < c.m) (hnew : bl c.m ∉ hs.map fun h => bl h.m) : HeadsOk rows sides (n + 1) (hs ++ [c]) := by
  refine ⟨fun h m => ?_, ?_, fun x hx i hi => ?_, ?_⟩
  · rcases List.mem_append.mp m with m | m
    · exact H.ok h m
    · rw [List.mem_singleton.mp m]
      exact ⟨k.ok, hp⟩
  · rw [List.map_append]
    refine List.nodup_append.mpr ⟨H.nd, List.nodup_cons.mpr ⟨(fun h => nomatch h), List.nodup_nil⟩, fun a ha b hb e => ?_⟩
    have hb' : b = bl c.m := List.mem_singleton.mp hb
    exact hnew (by rw [← hb', ← e]; exact ha)
  · have hx' : ∀ h ∈ hs, SatH h x := fun h m => hx h (List.mem_append_left _ m)
    by_cases z : i = n
    · subst z
      exact (k.eq x hx').mp (hx c (List.mem_append_right _ (List.mem_singleton.mpr rfl)))
    · exact H.sat x hx' i (by omega)
  · rw [List.length_append]
    have := H.len
    show hs.length + 1 ≤ n + 1
    omega
theorem HeadsOk.skip {n : Nat} {hs : List Hd} {c : Hd} (H : HeadsOk rows sides n hs) (k : CurOk rows sides n hs c) (h0 : c.m = 0) (h1 : c.s = false) : HeadsOk rows sides (n + 1) hs := by
  refine ⟨H.ok, H.nd, fun x hx i hi => ?_, Nat.le_succ_of_le H.len⟩
  by_cases z : i = n
  · subst z
    refine (k.eq x hx).mp ?_
    unfold SatH
    rw [h0, h1]
    exact par_none fun p _ => by rw [Nat.zero_testBit]; rfl
  · exact H.sat x hx i (by omega)
theorem HeadsOk.solves {hs : List Hd} {x : Nat → Bool} (q : Quest 1000 rows sides) (H : HeadsOk rows sides rows.length hs) (hx : ∀ h ∈ hs, SatH h x) : Sat rows sides x := (sat_iff q.len).mpr (H.sat x hx)

/-! ### a solution of heads -/
/-- behind the heads hs (ascending), the places F: all below the last one's height -/
structure FndOk (hs : List Hd) (F : List Nat) : Prop where
  asc : Asc 1000 F
  sat : ∀ h ∈ hs, SatH h (mem F)
  low : ∀ p ∈ F, ∃ h ∈ hs, p < bl h.m
  len : F.length ≤ hs.length
theorem FndOk.nil : FndOk [] [] := ⟨⟨.nil, (fun _ h => nomatch h)⟩, (fun _ h => nomatch h), (fun _ h => nomatch h), Nat.le_refl _⟩
theorem bl_1000 {h : Hd} (k : h.m < 2 ^ 1000) : bl h.m ≤ 1000 := bl_le k
theorem FndOk.out {hs : List Hd} {F : List Nat} {h : Hd} (k : FndOk hs F) (hp : 0 < h.m) (up : ∀ g ∈ hs, bl g.m < bl h.m) : ∀ p ∈ F, p < bl h.m - 1 := fun p m => by
  obtain ⟨g, hg, l⟩ := k.low p m
  have := up g hg
  omega
/-- the head asks for its highest place, or not -/
theorem FndOk.skip {hs : List Hd} {F : List Nat} {h : Hd} (k : FndOk hs F) (e : (h.s ^^ par 1000 h.m.testBit (mem F)) = false) : FndOk (hs ++ [h]) F := by
  refine ⟨k.asc, fun g m => ?_, fun p m => ?_, by have := k.len; rw [List.length_append]; omega⟩
  · rcases List.mem_append.mp m with m | m
    · exact k.sat g m
    · rw [List.mem_singleton.mp m]
      unfold SatH
      cases a : h.s <;> cases b : par 1000 h.m.testBit (mem F) <;> rw [a, b] at e <;> first | rfl | cases e
  · obtain ⟨g, hg, l⟩ := k.low p m
    exact ⟨g, List.mem_append_left _ hg, l⟩
theorem FndOk.add {hs : List Hd} {F : List Nat} {h : Hd} (k : FndOk hs F) (hp : 0 < h.m) (h1000 : h.m < 2 ^ 1000) (up : ∀ g ∈ hs, bl g.m < bl h.m) (e : (h.s ^^ par 1000 h.m.testBit (mem F)) = true) : FndOk (hs ++ [h]) (F ++ [bl h.m - 1]) := by
  have out := k.out hp up
  have b0 : 0 < bl h.m := by rw [bl_pos hp]; omega
  have b1 := bl_1000 h1000
  have hmem : ∀ p, mem (F ++ [bl h.m - 1]) p = (mem F p ^^ decide (p = bl h.m - 1)) := fun p => by
    unfold mem
    by_cases z : p = bl h.m - 1
    · have n : ¬ p ∈ F := fun m => by have := out p m; omega
      rw [decide_eq_false n, decide_eq_true z, decide_eq_true (List.mem_append_right _ (List.mem_singleton.mpr z))]; rfl
    · rw [decide_eq_false z, Bool.xor_false]
      exact decide_eq_decide.mpr ⟨fun m => (List.mem_append.mp m).elim id fun m => absurd (List.mem_singleton.mp m) z, List.mem_append_left _⟩
  have hpar : ∀ f : Nat → Bool, par 1000 f (mem (F ++ [bl h.m - 1])) = (par 1000 f (mem F) ^^ f (bl h.m - 1)) := fun f => by
    rw [← par_one_r (show bl h.m - 1 < 1000 by omega) f, ← par_xor_r]
    exact par_congr (fun _ _ => rfl) fun p _ => hmem p
  refine ⟨⟨List.pairwise_append.mpr ⟨k.asc.1, List.pairwise_singleton .., fun a ha b hb => ?_⟩, fun p m => ?_⟩, fun g m => ?_, fun p m => ?_, by have := k.len; rw [List.length_append, List.length_append]; show F.length + 1 ≤ hs.length + 1; omega⟩
  · rw [List.mem_singleton.mp hb]
    exact out a ha
  · rcases List.mem_append.mp m with m | m
    · exact k.asc.2 p m
    · rw [List.mem_singleton.mp m]; omega
  · unfold SatH
    rw [hpar]
    rcases List.mem_append.mp m with m | m
    · have := k.sat g m
      unfold SatH at this
      have lt := up g m
      rw [this, bl_out (m := g.m) (by omega), Bool.xor_false]
    · rw [List.mem_singleton.mp m, bl_bit hp]
      cases a : h.s <;> cases b : par 1000 h.m.testBit (mem F) <;> rw [a, b] at e <;> first | rfl | cases e
  · rcases List.mem_append.mp m with m | m
    · obtain ⟨g, hg, l⟩ := k.low p m
      exact ⟨g, List.mem_append_left _ hg, l⟩
    · exact ⟨h, List.mem_append_right _ (List.mem_singleton.mpr rfl), by rw [List.mem_singleton.mp m]; omega⟩
end
theorem bits_par (m : Nat) (hm : m < 2 ^ 1000) (x : Nat → Bool) : lp (bits 1000 m) x = par 1000 m.testBit x := lp_range 1000 _ x

theorem perm_map_inv {α β : Type} {f : α → β} : ∀ {l : List β} {hs : List α}, l.Perm (hs.map f) → ∃ gs : List α, gs.Perm hs ∧ gs.map f = l
  | [], hs, h => by
    have e : hs.map f = [] := List.nil_perm.mp h
    have e2 : hs = [] := List.map_eq_nil_iff.mp e
    subst e2
    exact ⟨[], .refl _, rfl⟩
  | b :: l, hs, h => by
    have hb : b ∈ hs.map f := h.mem_iff.mp (List.mem_cons_self ..)
    obtain ⟨x, hx, rfl⟩ := List.mem_map.mp hb
    obtain ⟨s, t, rfl⟩ := List.append_of_mem hx
    have e : (s ++ x :: t).map f = s.map f ++ f x :: t.map f := by rw [List.map_append, List.map_cons]
    rw [e] at h
    have h2 : (f x :: l).Perm (f x :: (s.map f ++ t.map f)) := h.trans List.perm_middle
    have h3 : l.Perm ((s ++ t).map f) := by rw [List.map_append]; exact h2.cons_inv
    obtain ⟨gs, hg, eg⟩ := perm_map_inv h3
    exact ⟨x :: gs, (List.Perm.cons x hg).trans List.perm_middle.symm, by rw [List.map_cons, eg]⟩
/-- ints in order are the naturals that they are made of -/
theorem sorted_nat {l : List Int} {F : List Nat} (hF : F.Pairwise (· < ·)) (hp : l.Perm (F.map fun p : Nat => (p : Int))) (hs : l.Pairwise (· ≤ ·)) : l = F.map fun p : Nat => (p : Int) := by
  refine hp.eq_of_pairwise (fun x y _ _ h1 h2 => Int.le_antisymm h1 h2) hs ?_
  rw [List.pairwise_map]
  exact hF.imp fun h => by omega
/-! ### sweeping by places -/
abbrev Eqn := List Nat × Bool
def SatL (l : List Eqn) (x : Nat → Bool) : Prop := ∀ q ∈ l, lp q.1 x = q.2
/-- the ascending list of the places of just one of two rows -/
def symd (a b : List Nat) : List Nat := (List.range 1000).filter fun p => decide (p ∈ a) ^^ decide (p ∈ b)
theorem symd_in (a b : List Nat) (p : Nat) : p ∈ symd a b ↔ p < 1000 ∧ (decide (p ∈ a) ^^ decide (p ∈ b)) = true := by
  unfold symd
  rw [List.mem_filter, List.mem_range]
theorem symd_asc (a b : List Nat) : Asc 1000 (symd a b) := Asc.filter _
def sweep (p : Nat) (e o : Eqn) : Eqn := if p ∈ o.1 then (symd o.1 e.1, o.2 ^^ e.2) else o
theorem symd_mem {a b : List Nat} (ha : Asc 1000 a) (hb : Asc 1000 b) (p : Nat) : p ∈ symd a b ↔ (decide (p ∈ a) ^^ decide (p ∈ b)) = true := by
  rw [symd_in]
  refine ⟨fun h => h.2, fun h => ⟨?_, h⟩⟩
  by_cases m : p ∈ a
  · exact ha.2 p m
  · by_cases m' : p ∈ b
    · exact hb.2 p m'
    · rw [decide_eq_false m, decide_eq_false m'] at h; cases h
theorem symd_lp {a b : List Nat} (ha : Asc 1000 a) (hb : Asc 1000 b) (x : Nat → Bool) : lp (symd a b) x = (lp a x ^^ lp b x) := by
  rw [lp_mem (symd_asc a b).nd (symd_asc a b).2, lp_mem ha.nd ha.2, lp_mem hb.nd hb.2, ← par_xor]
  refine par_congr (fun p _ => ?_) fun _ _ => rfl
  unfold mem
  by_cases m : p ∈ symd a b
  · rw [decide_eq_true m, (symd_mem ha hb p).mp m]
  · rw [decide_eq_false m]
    cases h : (decide (p ∈ a) ^^ decide (p ∈ b)) with
    | false => rfl
    | true => exact absurd ((symd_mem ha hb p).mpr h) m
/-- what sorted tells of the places of just one of two rows -/
theorem symd_sorted {a b l : List Nat} (ha : Asc 1000 a) (hb : Asc 1000 b) (hp : l.Perm (a.filter (fun p => !decide (p ∈ b)) ++ b.filter (fun p => !decide (p ∈ a)))) (hs : l.Pairwise (· ≤ ·)) : l = symd a b := by
  have nd : (a.filter (fun p => !decide (p ∈ b)) ++ b.filter (fun p => !decide (p ∈ a))).Nodup := by
    refine List.nodup_append.mpr ⟨ha.nd.sublist List.filter_sublist, hb.nd.sublist List.filter_sublist, fun x hx y hy e => ?_⟩
    rw [e] at hx
    have h1 := (List.mem_filter.mp hx).2
    have h2 := (List.mem_filter.mp hy).1
    rw [decide_eq_true h2] at h1
    cases h1
  have nl : l.Nodup := hp.symm.nodup nd
  have lt : l.Pairwise (· < ·) := by
    refine (List.pairwise_iff_getElem.mpr fun i j hi hj hij => ?_)
    have h1 := List.pairwise_iff_getElem.mp hs i j hi hj hij
    have h2 := List.pairwise_iff_getElem.mp nl i j hi hj hij
    omega
  refine asc_ext lt (symd_asc a b).1 fun p => ?_
  rw [hp.mem_iff, symd_mem ha hb, List.mem_append, List.mem_filter, List.mem_filter]
  by_cases m : p ∈ a <;> by_cases m' : p ∈ b <;> simp [m, m']
theorem sweep_iff {l : List Eqn} {p : Nat} {r : List Nat} {s : Bool} (hl : ∀ q ∈ l, Asc 1000 q.1) (hr : Asc 1000 (p :: r)) :
    (∃ x, SatL (l ++ [(p :: r, s)]) x) ↔ ∃ x, SatL (l.map (sweep p (p :: r, s))) x := by
  have hp : p ∈ p :: r := List.mem_cons_self ..
  constructor
  · rintro ⟨x, hx⟩
    have h1 : lp (p :: r) x = s := hx (p :: r, s) (List.mem_append_right _ (List.mem_singleton.mpr rfl))
    refine ⟨x, fun q m => ?_⟩
    obtain ⟨o, ho, rfl⟩ := List.mem_map.mp m
    have h2 := hx o (List.mem_append_left _ ho)
    unfold sweep
    split
    · dsimp only
      rw [symd_lp (hl o ho) hr, h2, h1]
    · exact h2
  · rintro ⟨x, hx⟩
    -- the place p turned where the row asks for it
    have key : ∃ y, lp (p :: r) y = s ∧ ∀ q, Asc 1000 q → p ∉ q → lp q y = lp q x := by
      by_cases e : lp (p :: r) x = s
      · exact ⟨x, e, fun _ _ _ => rfl⟩
      · refine ⟨fun q => x q ^^ decide (q = p), ?_, fun q hq n => ?_⟩
        · rw [lp_xor, lp_one hr.nd, decide_eq_true hp]
          cases h : lp (p :: r) x <;> cases s <;> first | rfl | exact absurd h e
        · rw [lp_xor, lp_one hq.nd, decide_eq_false n, Bool.xor_false]
    obtain ⟨y, hy, hq⟩ := key
    refine ⟨y, fun o m => ?_⟩
    rcases List.mem_append.mp m with m | m
    · have h := hx _ (List.mem_map.mpr ⟨o, m, rfl⟩)
      unfold sweep at h
      by_cases e : p ∈ o.1
      · rw [if_pos e] at h
        dsimp only at h
        have n : p ∉ symd o.1 (p :: r) := fun m' => by
          have := (symd_mem (hl o m) hr p).mp m'
          rw [decide_eq_true e, decide_eq_true hp] at this
          cases this
        rw [← hq _ (symd_asc ..) n, symd_lp (hl o m) hr, hy] at h
        cases a : lp o.1 y <;> cases b : o.2 <;> cases s <;> rw [a, b] at h <;> first | rfl | cases h
      · rw [if_neg e] at h
        rw [hq o.1 (hl o m) e]
        exact h
    · rw [List.mem_singleton.mp m]
      exact hy
theorem satL_empty {l : List Eqn} {s : Bool} : (∃ x, SatL (l ++ [([], s)]) x) ↔ (s = false ∧ ∃ x, SatL l x) := by
  constructor
  · rintro ⟨x, hx⟩
    have h1 := hx ([], s) (List.mem_append_right _ (List.mem_singleton.mpr rfl))
    exact ⟨h1.symm, x, fun q m => hx q (List.mem_append_left _ m)⟩
  · rintro ⟨rfl, x, hx⟩
    refine ⟨x, fun q m => ?_⟩
    rcases List.mem_append.mp m with m | m
    · exact hx q m
    · rw [List.mem_singleton.mp m]; rfl
theorem satL_nil : ∃ x, SatL [] x := ⟨fun _ => false, (fun _ h => nomatch h)⟩
theorem satL_zip {rows : List (List Nat)} {sides : List Bool} (h : sides.length = rows.length) (x : Nat → Bool) : SatL (rows.zip sides) x ↔ Sat rows sides x := by
  unfold SatL Sat
  induction rows generalizing sides with
  | nil =>
    cases sides with
    | nil => simp
    | cons => simp at h
  | cons r rs ih =>
    cases sides with
    | nil => simp at h
    | cons s ss =>
      have := ih (sides := ss) (by simpa using h)
      simp only [List.zip_cons_cons, List.forall_mem_cons, List.map_cons, List.cons.injEq]
      rw [this]

/-! ### all lots -/
def allLots : Nat → List (List Nat)
  | 0 => [[]]
  | n + 1 => allLots n ++ (allLots n).map (· ++ [n])
theorem allLots_len : ∀ n, (allLots n).length = 2 ^ n
  | 0 => rfl
  | n + 1 => by
    show (allLots n ++ (allLots n).map _).length = _
    rw [List.length_append, List.length_map, allLots_len n, Nat.pow_succ]
    omega
theorem allLots_mem (x : Nat → Bool) : ∀ n, (List.range n).filter x ∈ allLots n
  | 0 => List.mem_singleton.mpr rfl
  | n + 1 => by
    have ih := allLots_mem x n
    show _ ∈ allLots n ++ (allLots n).map _
    rw [List.range_succ, List.filter_append, List.mem_append]
    cases h : x n with
    | false => left; simpa [h] using ih
    | true => right; exact List.mem_map.mpr ⟨_, ih, by simp [h]⟩
theorem allLots_asc : ∀ n, ∀ l ∈ allLots n, Asc n l
  | 0, l, h => by rw [List.mem_singleton.mp h]; exact ⟨.nil, fun _ h => nomatch h⟩
  | n + 1, l, h => by
    rcases List.mem_append.mp h with h | h
    · exact (allLots_asc n l h).mono (Nat.le_succ n)
    · obtain ⟨k, hk, rfl⟩ := List.mem_map.mp h
      have a := allLots_asc n k hk
      refine ⟨List.pairwise_append.mpr ⟨a.1, List.pairwise_singleton .., fun x hx y hy => ?_⟩, fun p m => ?_⟩
      · rw [List.mem_singleton.mp hy]; exact a.2 x hx
      · rcases List.mem_append.mp m with m | m
        · exact Nat.lt_succ_of_lt (a.2 p m)
        · rw [List.mem_singleton.mp m]; exact Nat.lt_succ_self n
theorem fits_iff {n : Nat} {rows : List (List Nat)} {sides : List Bool} (h : ∀ r ∈ rows, Asc n r) : (∃ l ∈ allLots n, Sat rows sides (mem l)) ↔ Solvable rows sides := by
  constructor
  · rintro ⟨l, _, s⟩
    exact ⟨_, s⟩
  · rintro ⟨x, s⟩
    refine ⟨_, allLots_mem x n, sat_congr (fun r hr p hp => ?_) s⟩
    unfold mem
    have := (h r hr).2 p hp
    cases e : x p with
    | true => exact (decide_eq_true (List.mem_filter.mpr ⟨List.mem_range.mpr this, e⟩)).symm
    | false => exact (decide_eq_false fun m => by rw [(List.mem_filter.mp m).2] at e; cases e).symm
/-! ### what a told value is -/
inductive Told (rows : List (List Nat)) (sides : List Bool) : Bool → List Nat → Prop
  | sol {t : List Nat} (a : Asc 1000 t) (s : Sat rows sides (mem t)) : Told rows sides true t
  | odd {t : List Nat} (a : Asc rows.length t) (o : OddLot rows sides t) : Told rows sides false t
theorem Told.iff {rows : List (List Nat)} {sides : List Bool} {b : Bool} {t : List Nat} (h : sides.length = rows.length) (k : Told rows sides b t) : b = true ↔ Solvable rows sides := by
  cases k with
  | sol a s => exact ⟨fun _ => ⟨_, s⟩, fun _ => rfl⟩
  | odd a o => exact ⟨(fun e => nomatch e), fun s => absurd s (odd_not h a.2 o)⟩
end Pq

/-! Where the defs stand, what the module's names hold, what the data are in the heap. -/
namespace Pq
open PySem L2
/-! ### the text by places -/
def topS (i : Nat) : Stmt := PySem.Challenge.pw_squaretimes_k04_whole_questions_of_parit.main.body.getD i (.Pass ⟨0, 0, 0, 0⟩)
abbrev sIsWhole : Stmt := topS 5
abbrev sIsInteger : Stmt := topS 6
abbrev sAscending : Stmt := topS 12
abbrev sWithin : Stmt := topS 13
abbrev sRequire : Stmt := topS 14
abbrev sDoubled : Stmt := topS 15
abbrev sBits : Stmt := topS 16
abbrev sSwept : Stmt := topS 17
abbrev sSolutionOf : Stmt := topS 18
abbrev sSolved : Stmt := topS 19
abbrev sIsSolution : Stmt := topS 20
abbrev sIsOdd : Stmt := topS 21
abbrev sIsSolved : Stmt := topS 22
abbrev sWell : Stmt := topS 24
abbrev sDip : Stmt := topS 25
abbrev sPlaces : Stmt := topS 26
abbrev sSide : Stmt := topS 27
abbrev sHas : Stmt := topS 28
abbrev sLSwept : Stmt := topS 29
abbrev sIsRight : Stmt := topS 30
abbrev sAllLots : Stmt := topS 31
abbrev sRight : Stmt := topS 32
abbrev sLaw : Stmt := topS 33
/-! ### the module's names -/
structure Nm (mg : Str → Option Value) : Prop where
  len : mg "len" = none
  isi : mg "isinstance" = none
  int : mg "int" = none
  bool : mg "bool" = none
  str : mg "str" = none
  tuple : mg "tuple" = none
  list : mg "list" = none
  set : mg "set" = none
  all : mg "all" = none
  any : mg "any" = none
  sum : mg "sum" = none
  max : mg "max" = none
  min : mg "min" = none
  abs : mg "abs" = none
  zip : mg "zip" = none
  range : mg "range" = none
  enumerate : mg "enumerate" = none
  sorted : mg "sorted" = none
  beyond : ∃ u, mg "BEYOND" = some u ∧ RelV (.int (10 ^ 60)) u
  maxRows : ∃ u, mg "MAX_ROWS" = some u ∧ RelV (.int 2000) u
  maxPlace : ∃ u, mg "MAX_PLACE" = some u ∧ RelV (.int 999) u
  solution : ∃ u, mg "SOLUTION" = some u ∧ RelV (.str "solution") u
  odd : ∃ u, mg "ODD" = some u ∧ RelV (.str "odd") u
/-! ### heaps -/
theorem same_upd {H : Hp} {p : Addr} {o : HO} (h : H p = none) : Same H (upd H p o) := fun b x e => by
  rw [upd_ne (ne_of_none e h)]
  exact e
theorem Same.tup {K : PySem.W.Frag} {H H' : Hp} {a : Addr} {xs : List V} (e : Same H H') (h : SqT K H a xs) : SqT K H' a xs := by
  rcases h with (h | ⟨o, h⟩) | h
  · exact .inl (.inl (e _ _ h))
  · exact .inl (.inr ⟨o, e _ _ h⟩)
  · exact .inr h
/-- the value of a natural number -/
abbrev nV (n : Nat) : V := .int (n : Int)
abbrev bV (b : Bool) : V := .int (bI b)
end Pq

/-! Rules of our own: a power of a great base, ^=, set(t) of a tuple of ints, enumerate(tuple), zip(list, tuple), the end with the loose names. -/
namespace Pq
open PySem L2
section
variable {X : Cx}
/-- a ** b of any base, the result below 2 ^ 27 bits -/
theorem op_powW : OpR X (binaryOp .Pow) (rI (fun i j => 0 ≤ j ∧ (Builtin.Int.intBits i : Int) * j ≤ 2 ^ 27) fun i j => .int (i ^ j.toNat)) :=
  opI fun _ _ _ _ _ _ _ hc q => PyProof.Rows.pow_int hc.1 hc.2 q
theorem ip_xor : PIp X .BitXor (rI0 fun i j => .int (Builtin.bitXor i j)) := iop_xor
/-- set(t), t a tuple of ints -/
def rSetT (K : PySem.W.Frag) (w : World) : List V → Hp → VK → Prop := fun vs H Q => ∃ (a : Addr) (ns : List Int), vs = [V.ref a] ∧ SqT K H a (ns.map V.int) ∧ ns.length ≤ 1000 ∧
  ∀ (p : Addr) (c : Nat), c ≤ ns.length → H p = none → Q (.ref p) (upd H p (SetO w p (fun j => decide (j ∈ ns)) c))
theorem cr_setT (hc : X.calm = true) : CallR X (.type "set") (rSetT X.K X.w) := by
  intro pins s σ H vs us Q I r h
  obtain ⟨a, ns, rfl, hq, hl, q⟩ := h
  obtain ⟨u, rfl, ru⟩ := vals1 r
  cases ru
  obtain ⟨its, rv, pt, hz⟩ := I.tuple hq
  have hi : PyProof.Rows.IntsAre its.toArray.toList ns := ints_of_vals rv
  refine call_set_tupI ns (I.ok.hd hc) (show s.heap.IsTuple a its.toArray from pt) hi (by unfold scanBound; omega) fun h' tk c R hcn k => ?_
  have hn : H s.heap.objs.size = none := I.hok.fresh (Nat.le_refl _)
  exact ⟨.ref s.heap.objs.size, _, I.laid (t' := tk) k (Nat.le_refl _) (setO_new R), rfl, q _ c hcn hn⟩
end

/-! ### enumerate(tuple) -/
/-- the tuple at a, each item in a new pair with its number -/
def IteT (K : PySem.W.Frag) (a : Addr) : It :=
  ⟨fun i H => ∃ (xs : List V) (x : V), SqT K H a xs ∧ xs[i]? = some x,
   fun i H v H' => ∃ T x, v = .ref T ∧ H T = none ∧ H' = upd H T (.tup [nV i, x]) ∧ ∀ xs, SqT K H a xs → xs[i]? = some x,
   fun i H => ∃ xs : List V, SqT K H a xs ∧ xs.length = i⟩
theorem turn_enumT {P : Program} {w : World} {K : PySem.W.Frag} {elts : List Expr} {kk : Nat} {tpos : Pos} (a e it : Addr) (hei : e ≠ it) (hea : e ≠ a) (hai : a ≠ it) :
    Turn P w K (.Tuple elts kk tpos) (IteT K a) [e, it] e (fun i h => (∃ old, IsEnum h e it ((i : Nat) : Int) old) ∧ h.IsTupleIter it a i) where
  mem := by simp
  obj := fun i h ⟨⟨old, he⟩, ⟨o, ho, hc, hd⟩⟩ b hb => by
    have z : b = e ∨ b = it := by simpa using hb
    rcases z with rfl | rfl
    · exact ⟨_, he, fun v q => nomatch q⟩
    · exact ⟨o, ho, fun v q => by rw [hd] at q; cases q⟩
  keep := fun i h h' ⟨⟨old, he⟩, hi⟩ k => ⟨⟨old, k e (by simp) _ he⟩, hi.at fun o q => k it (by simp) o q⟩
  item := by
    intro X hP hw hK hc i pins s σ H E I hf ⟨⟨old, he⟩, hit⟩ hg
    subst hP hw hK
    obtain ⟨xs, x, hq, hx⟩ := hg
    obtain ⟨its, rv, p, hz⟩ := I.tuple hq
    obtain ⟨u, hu, ru⟩ := rv.get hx
    have hlt : i < its.toArray.size := by
      rw [List.size_toArray]
      exact (List.getElem?_eq_some_iff.mp hu).1
    have pt : s.heap.IsTuple a its.toArray := p
    have D := Draws.tuple (prog := X.prog) (w := X.w) (A := X.A.in1) (I.ok.hd hc) it a hai its.toArray
    have G := GoesN.enumFrom (elts := elts) (x1 := kk) (pos := tpos) 0 D e hei (by simp [hei, hea]) (by simp)
    have e0 : (0 : Int) + ((i : Nat) : Int) = i := by omega
    have e1 : (0 : Int) + ((i + 1 : Nat) : Int) = ((i + 1 : Nat) : Int) := by omega
    refine G.goes i s _ E hlt ⟨⟨old, by rw [e0]; exact he⟩, hit, pt⟩ fun v h' tk hY hS hk _ => ?_
    obtain ⟨T, t, y, rfl, hT, hy, hTup⟩ := hY
    obtain ⟨⟨old', he'⟩, hit', _⟩ := hS
    have ey : y = u := by
      have : its.toArray[i]? = some u := by simpa using hu
      rw [this] at hy
      exact (Option.some.inj hy).symm
    subst ey
    rw [e0] at hTup
    rw [e1] at he'
    have new : ObjOk X.prog X.w (upd H T (.tup [nV i, x])) h' T (.tup [nV i, x]) :=
      ⟨by show 2 ≤ sizeLine; decide, [.int i t, y], .cons ⟨_, rfl⟩ (.cons ru .nil), hTup⟩
    refine ⟨.ref T, _, I.turnedNew (t' := tk) (ch := [e, it]) hk hf hT new, rfl, ⟨T, x, rfl, I.hok.fresh hT, rfl, fun ys hy2 => by rw [I.tuple_inj hy2 hq]; exact hx⟩, ⟨⟨old', he'⟩, hit'⟩, fun b hb => ?_⟩
    have hb' : b < s.heap.objs.size := by
      have z : b = e ∨ b = it := by simpa using hb
      rcases z with rfl | rfl
      · exact Heap.lt_size he
      · obtain ⟨_, q, _⟩ := hit
        exact Heap.lt_size q
    rw [upd_ne (Nat.ne_of_lt (Nat.lt_of_lt_of_le hb' hT))]
    exact (hf b hb).1
  done := by
    intro X hP hw hK hc i pins s σ H E I hf ⟨⟨old, he⟩, hit⟩ hg
    subst hP hw hK
    obtain ⟨xs, hq, hx⟩ := hg
    obtain ⟨its, rv, p, hz⟩ := I.tuple hq
    have pt : s.heap.IsTuple a its.toArray := p
    have hl : its.toArray.size = i := by rw [List.size_toArray, ← rv.length, hx]
    have D := Draws.tuple (prog := X.prog) (w := X.w) (A := X.A.in1) (I.ok.hd hc) it a hai its.toArray
    have G := GoesN.enumFrom (elts := elts) (x1 := kk) (pos := tpos) 0 D e hei (by simp [hei, hea]) (by simp)
    refine G.stops s (fun s1 => Inv X pins σ H s1) E ⟨⟨old, by rw [hl]; show IsEnum _ _ _ ((0 : Int) + (i : Int)) _; rw [Int.zero_add]; exact he⟩, by rw [hl]; exact hit, pt⟩ fun h' tk hk _ => ?_
    exact I.turnedL (t' := tk) (ch := [e, it]) hk hf
  self := fun A i s Q E ⟨⟨_, he⟩, _⟩ h => wpAny_pyIter_enum he h
set_option maxHeartbeats 1000000 in
theorem enum_new1 {v : Value} {o : Obj} {Hb : Heap → Prop} (B : Begins v o Hb) :
    Meets (Builtin.«enumerate.__new__» ⟨[.type "enumerate", v], []⟩) (fun _ R z => Hb z.heap ∧
      R (.ok (.ret (.ref (z.heap.push o).objs.size))) { z with heap := (z.heap.push o).push { cls := .type "enumerate", data := .fields #[.none, .bool false, .ref z.heap.objs.size, rawInt 0, .none, .none] } }) := by
  refine .of_wp fun prog w A R z h => ?_
  obtain ⟨hp, g, d, tk, os⟩ := z
  obtain ⟨hb, h⟩ := h
  have hsub := sub_enumerate
  have q1 : ∀ {A' : Around} {E : Value → Shared → Prop} {Q : Value → Shared → Prop}, Q (.ref hp.objs.size) ⟨hp.push o, g, d, tk, os⟩ → wpAny (model prog w) A' (pyIter v) Q E ⟨hp, g, d, tk, os⟩ := fun q => B.iter prog w _ _ ⟨hp, g, d, tk, os⟩ _ hb q
  wp_walk using q1
  refine wpAny_stack_any fun st => wpAny_pure ?_
  split
  · rename_i c _ _ _ _ _
    cases (c == Value.type "enumerate") <;>
      (wp_walk using q1
       exact ⟨_, rfl, h⟩)
  · wp_walk using q1
    exact ⟨_, rfl, h⟩
theorem enum_call1 {prog : Program} {w : World} {A : Around} {E : Value → Shared → Prop} {s : Shared} {v : Value} {o : Obj} {Hb : Heap → Prop} {Q : Value → Shared → Prop} (B : Begins v o Hb) (hb : Hb s.heap)
    (h : ∀ h', IsEnum h' (s.heap.objs.size + 1) s.heap.objs.size 0 .none → h'.get? s.heap.objs.size = some o → (∀ b u, s.heap.get? b = some u → h'.get? b = some u) → Q (.ref (s.heap.objs.size + 1)) { s with heap := h' }) :
    wpAny (model prog w) A (call (.type "enumerate") [v]) Q E s := by
  refine callType_new F.called_enumerate (by decide) (F.typeCall_enumerate_1 _) (F.newCall_enumerate_1 _)
    (fun obj => F.args_object_init_2 obj _) F.entry_enumerate_new (enum_new1 B) ⟨hb, ?_⟩
  have z1 : (s.heap.push o).objs.size = s.heap.objs.size + 1 := by rw [Heap.size_push]
  have g1 := Heap.get?_push_size (s.heap.push o) (o := { cls := .type "enumerate", data := .fields #[.none, .bool false, .ref s.heap.objs.size, rawInt 0, .none, .none] }) rfl
  rw [z1] at g1
  show _ ∧ _
  rw [z1]
  exact ⟨⟨_, g1, rfl⟩, h _ g1 (Heap.get?_push_of_some _ (Heap.get?_push_size _ B.free)) fun b u x => Heap.get?_push_of_some _ (Heap.get?_push_of_some _ x)⟩
def iEnumT (K : PySem.W.Frag) (ta : TA) : TI := fun σ H R => ta σ H fun vs H1 => ∃ (a : Addr) (xs : List V), vs = [.ref a] ∧ SqT K H1 a xs ∧ R (IteT K a) H1
theorem pi_enumT {X : Cx} {e : Expr} {ta : TA} {p pos tpos : Pos} {elts : List Expr} {kk : Nat} (hg : Gl X "enumerate") (hm : X.mg "enumerate" = none) (ha : PA X [e] ta)
    (hs : starEach [e] X.env = [(false, eval e X.env)] := by rfl) : PI X (.Tuple elts kk tpos) (.Call (.Name "enumerate" p) [e] [] pos) (iEnumT X.K ta) := by
  refine ⟨fun pins s σ H R I h => ?_⟩
  refine PyProof.Rows.Call_ (ld_blt I hg hm (u := .type "enumerate") (by decide +kernel) (PyProof.Rows.callWith_type1 (thn (ha.run pos pins s σ H _ I h) fun us s1 ⟨vs, H1, I1, r1, q1⟩ => ?_) hs rfl))
  obtain ⟨a, xs, rfl, hq, q⟩ := q1
  obtain ⟨u, rfl, ru⟩ := vals1 r1
  cases ru
  obtain ⟨its, rv, p', hz⟩ := I1.tuple hq
  have pt : s1.heap.IsTuple a its.toArray := p'
  have ha' : a < s1.heap.objs.size := by
    obtain ⟨o, ho, _⟩ := p'
    exact Heap.lt_size ho
  refine enum_call1 (begins_tuple a its.toArray) pt fun h' he hit hk => wpAny_pyIter_enum he ?_
  have I2 : Inv X pins σ H1 { s1 with heap := h' } := I1.kept (t' := s1.toks) hk
  refine ⟨s1.heap.objs.size + 1, [s1.heap.objs.size + 1, s1.heap.objs.size], _, _, H1, rfl, I2, turn_enumT a (s1.heap.objs.size + 1) s1.heap.objs.size (Nat.succ_ne_self _) (Nat.ne_of_gt (Nat.lt_succ_of_lt ha')) (Nat.ne_of_lt ha'), ⟨⟨.none, he⟩, ⟨_, hit, rfl, rfl⟩⟩, fun b hb => ?_, q⟩
  have hle : s1.heap.objs.size ≤ b := by
    have z : b = s1.heap.objs.size + 1 ∨ b = s1.heap.objs.size := by simpa using hb
    rcases z with rfl | rfl
    · exact Nat.le_succ _
    · exact Nat.le_refl _
  exact I1.fpOk hle (I1.hok.fresh hle)
theorem walk_enumT {K : PySem.W.Frag} {a : Addr} {xs : List V} : Walk (IteT K a) xs.length (fun H => SqT K H a xs) (YPair (fun i => some (nV i)) (fun i => xs[i]?)) :=
  ⟨fun i _ hi q => ⟨xs, xs[i], q, by simp [hi]⟩, fun _ q => ⟨xs, q, rfl⟩, fun i H v H' _ q ⟨T, x, h1, h2, h3, h4⟩ => ⟨T, nV i, x, h1, h2, h3, rfl, h4 xs q⟩⟩
end Pq

/-! zip of a list and a tuple; the end of a law with the names that the head leaves loose. -/
namespace Pq
open PySem L2
/-- the list at a and the tuple at b, of one length; the pairs are new -/
def ItzLT (K : PySem.W.Frag) (a b : Addr) : It :=
  ⟨fun i H => ∃ (xs ys : List V) (x y : V), SqL K H a xs ∧ SqT K H b ys ∧ xs[i]? = some x ∧ ys[i]? = some y,
   fun i H v H' => ∃ T x y, v = .ref T ∧ H T = none ∧ H' = upd H T (.tup [x, y]) ∧ (∀ xs, SqL K H a xs → xs[i]? = some x) ∧ ∀ ys, SqT K H b ys → ys[i]? = some y,
   fun i H => ∃ xs ys : List V, SqL K H a xs ∧ SqT K H b ys ∧ xs.length = i ∧ ys.length = i⟩
theorem turn_zipLT {P : Program} {w : World} {K : PySem.W.Frag} {elts : List Expr} {kk : Nat} {tpos : Pos} {a b z TI TO i1 i2 : Addr} (S : ZipSep2 z TI TO i1 i2 [i1, a] [i2, b]) (h1a : a ≠ i1) (h2b : b ≠ i2) :
    Turn P w K (.Tuple elts kk tpos) (ItzLT K a b) [z, TI, TO, i1, i2] z (fun i h => IsZip h z TI TO .none ∧ IsTupOf2 h TI (.ref i1) (.ref i2) ∧ (∃ u v, IsTupOf2 h TO u v) ∧ h.IsListIter i1 a i ∧ h.IsTupleIter i2 b i) where
  mem := by simp
  obj := fun i h ⟨hz, hTI, ⟨u, v, hTO⟩, ⟨o1, e1, _, d1⟩, ⟨o2, e2, _, d2⟩⟩ c hc => by
    have q : c = z ∨ c = TI ∨ c = TO ∨ c = i1 ∨ c = i2 := by simpa using hc
    rcases q with rfl | rfl | rfl | rfl | rfl
    · exact ⟨_, hz, fun v q => nomatch q⟩
    · exact ⟨_, hTI, fun v q => nomatch q⟩
    · exact ⟨_, hTO, fun v q => nomatch q⟩
    · exact ⟨o1, e1, fun v q => by rw [d1] at q; cases q⟩
    · exact ⟨o2, e2, fun v q => by rw [d2] at q; cases q⟩
  keep := fun i h h' ⟨hz, hTI, ⟨u, v, hTO⟩, h1, h2⟩ k =>
    ⟨k z (by simp) _ hz, k TI (by simp) _ hTI, ⟨u, v, k TO (by simp) _ hTO⟩, h1.at fun o q => k i1 (by simp) o q, h2.at fun o q => k i2 (by simp) o q⟩
  item := by
    intro X hP hw hK hc i pins s σ H E I hf ⟨hz, hTI, hTO, h1, h2⟩ hg
    subst hP hw hK
    obtain ⟨xs, ys, x, y, hqx, hqy, hx, hy⟩ := hg
    obtain ⟨its, rv, p, _⟩ := I.list hqx
    obtain ⟨its2, rv2, p2, _⟩ := I.tuple hqy
    obtain ⟨u, hu, ru⟩ := rv.get hx
    obtain ⟨u2, hu2, ru2⟩ := rv2.get hy
    have l1 : i < its.toArray.size := by rw [List.size_toArray]; exact (List.getElem?_eq_some_iff.mp hu).1
    have l2 : i < its2.toArray.size := by rw [List.size_toArray]; exact (List.getElem?_eq_some_iff.mp hu2).1
    have pt : s.heap.IsTuple b its2.toArray := p2
    have D1 := Draws.list (prog := X.prog) (w := X.w) (A := X.A.in1) (I.ok.hd hc) i1 a h1a its.toArray
    have D2 := Draws.tuple (prog := X.prog) (w := X.w) (A := X.A.in1) (I.ok.hd hc) i2 b h2b its2.toArray
    have G := GoesN.zip2 (elts := elts) (x1 := kk) (pos := tpos) S D1 D2
    refine G.goes i s _ E (Nat.lt_min.mpr ⟨l1, l2⟩) ⟨hz, hTI, hTO, ⟨h1, p.isList⟩, h2, pt⟩ fun v h' tk hY hS hk _ => ?_
    obtain ⟨T, v1, v2, rfl, hT, e1, e2, hTup⟩ := hY
    obtain ⟨hz', hTI', hTO', ⟨h1', _⟩, h2', _⟩ := hS
    have q1 : its.toArray[i]? = some u := by simpa using hu
    have q2 : its2.toArray[i]? = some u2 := by simpa using hu2
    rw [q1] at e1
    rw [q2] at e2
    cases e1
    cases e2
    have new : ObjOk X.prog X.w (upd H T (.tup [x, y])) h' T (.tup [x, y]) :=
      ⟨by show 2 ≤ sizeLine; decide, [u, u2], .cons ru (.cons ru2 .nil), hTup⟩
    have all : ∀ c ∈ [z, TI, TO, i1, i2], c < s.heap.objs.size := fun c hcm => by
      have q : c = z ∨ c = TI ∨ c = TO ∨ c = i1 ∨ c = i2 := by simpa using hcm
      rcases q with rfl | rfl | rfl | rfl | rfl
      · exact Heap.lt_size hz
      · exact Heap.lt_size hTI
      · obtain ⟨_, _, q⟩ := hTO; exact Heap.lt_size q
      · obtain ⟨_, q, _⟩ := h1; exact Heap.lt_size q
      · obtain ⟨_, q, _⟩ := h2; exact Heap.lt_size q
    refine ⟨.ref T, _, I.turnedNew (t' := tk) (ch := [z, TI, TO, i1, i2]) (fun c o hb q => hk c o (fun hm => hb (by simp at hm ⊢; rcases hm with e | e | e | e <;> simp [e])) q) hf hT new, rfl, ⟨T, x, y, rfl, I.hok.fresh hT, rfl, fun l hl => by rw [I.list_inj hl hqx]; exact hx, fun l hl => by rw [I.tuple_inj hl hqy]; exact hy⟩, ⟨hz', hTI', hTO', h1', h2'⟩, fun c hcm => ?_⟩
    rw [upd_ne (Nat.ne_of_lt (Nat.lt_of_lt_of_le (all c hcm) hT))]
    exact (hf c hcm).1
  done := by
    intro X hP hw hK hc i pins s σ H E I hf ⟨hz, hTI, hTO, h1, h2⟩ hg
    subst hP hw hK
    obtain ⟨xs, ys, hqx, hqy, lx, ly⟩ := hg
    obtain ⟨its, rv, p, _⟩ := I.list hqx
    obtain ⟨its2, rv2, p2, _⟩ := I.tuple hqy
    have e1 : its.toArray.size = i := by rw [List.size_toArray, ← rv.length, lx]
    have e2 : its2.toArray.size = i := by rw [List.size_toArray, ← rv2.length, ly]
    have pt : s.heap.IsTuple b its2.toArray := p2
    have D1 := Draws.list (prog := X.prog) (w := X.w) (A := X.A.in1) (I.ok.hd hc) i1 a h1a its.toArray
    have D2 := Draws.tuple (prog := X.prog) (w := X.w) (A := X.A.in1) (I.ok.hd hc) i2 b h2b its2.toArray
    have G := GoesN.zip2 (elts := elts) (x1 := kk) (pos := tpos) S D1 D2
    have em : min its.toArray.size its2.toArray.size = i := by rw [e1, e2, Nat.min_self]
    refine G.stops s (fun s1 => Inv X pins σ H s1) E ?_ fun h' tk hk _ => ?_
    · rw [em]
      exact ⟨hz, hTI, hTO, ⟨h1, p.isList⟩, h2, pt⟩
    · exact I.turnedL (t' := tk) (ch := [z, TI, TO, i1, i2]) (fun c o hb q => hk c o (fun hm => hb (by simp at hm ⊢; rcases hm with e | e | e | e <;> simp [e])) q) hf
  self := fun A i s Q E st h => wpAny_pyIter_zip st.1 h
def iZipLT (K : PySem.W.Frag) (ta : TA) : TI := fun σ H R => ta σ H fun vs H1 => ∃ (a b : Addr) (xs ys : List V), vs = [.ref a, .ref b] ∧ SqL K H1 a xs ∧ SqT K H1 b ys ∧ R (ItzLT K a b) H1
theorem pi_zipLT {X : Cx} {e e2 : Expr} {ta : TA} {p pos tpos : Pos} {elts : List Expr} {kk : Nat} (hg : Gl X "zip") (hm : X.mg "zip" = none) (ha : PA X [e, e2] ta)
    (hs : starEach [e, e2] X.env = (false, eval e X.env) :: starEach [e2] X.env := by rfl) (hpl : (backTo pos (starEach [e2] X.env)).any (·.1) = false := by rfl) :
    PI X (.Tuple elts kk tpos) (.Call (.Name "zip" p) [e, e2] [] pos) (iZipLT X.K ta) := by
  refine ⟨fun pins s σ H R I h => ?_⟩
  refine PyProof.Rows.Call_ (ld_blt I hg hm (u := .type "zip") (by decide +kernel) (PyProof.Rows.callWith_type1 (thn (ha.run pos pins s σ H _ I h) fun us s1 ⟨vs, H1, I1, r1, q1⟩ => ?_) hs hpl))
  obtain ⟨a, b, xs, ys, rfl, hqx, hqy, q⟩ := q1
  obtain ⟨u1, u2, rfl, r1, r2⟩ := vals2 r1
  cases r1
  cases r2
  obtain ⟨its, rv, p1, _⟩ := I1.list hqx
  obtain ⟨its2, rv2, p2, _⟩ := I1.tuple hqy
  have pt : s1.heap.IsTuple b its2.toArray := p2
  have la : a < s1.heap.objs.size := p1.lt
  have lb : b < s1.heap.objs.size := by
    obtain ⟨o, ho, _⟩ := p2
    exact Heap.lt_size ho
  refine zip_begins2 (begins_list a its.toArray) (begins_tuple b its2.toArray) p1.isList pt fun h' hz hTI hTO g1 g2 _ hk => wpAny_pyIter_zip hz ?_
  have I2 : Inv X pins σ H1 { s1 with heap := h' } := I1.kept (t' := s1.toks) hk
  have S := zip_sep2 (N := s1.heap.objs.size) (fp1 := [a]) (fp2 := [b]) (fun c hc => by rw [List.mem_singleton.mp hc]; exact la) (fun c hc => by rw [List.mem_singleton.mp hc]; exact lb)
  refine ⟨s1.heap.objs.size + 4, [s1.heap.objs.size + 4, s1.heap.objs.size + 2, s1.heap.objs.size + 3, s1.heap.objs.size, s1.heap.objs.size + 1], _, _, H1, rfl, I2,
    turn_zipLT S (Nat.ne_of_lt la) (Nat.ne_of_lt (Nat.lt_succ_of_lt lb)), ⟨hz, hTI, ⟨_, _, hTO⟩, ⟨_, g1, rfl, rfl⟩, ⟨_, g2, rfl, rfl⟩⟩, fun c hcm => ?_, q⟩
  have hle : s1.heap.objs.size ≤ c := by
    have z : c = s1.heap.objs.size + 4 ∨ c = s1.heap.objs.size + 2 ∨ c = s1.heap.objs.size + 3 ∨ c = s1.heap.objs.size ∨ c = s1.heap.objs.size + 1 := by simpa using hcm
    rcases z with rfl | rfl | rfl | rfl | rfl
    · exact Nat.le_add_right _ _
    · exact Nat.le_add_right _ _
    · exact Nat.le_add_right _ _
    · exact Nat.le_refl _
    · exact Nat.le_add_right _ _
  exact I1.fpOk hle (I1.hok.fresh hle)
theorem walk_zipLT {K : PySem.W.Frag} {a b : Addr} {xs ys : List V} (hl : ys.length = xs.length) : Walk (ItzLT K a b) xs.length (fun H => SqL K H a xs ∧ SqT K H b ys) (YPair (fun i => xs[i]?) (fun i => ys[i]?)) :=
  ⟨fun i _ hi q => ⟨xs, ys, xs[i], ys[i]'(by omega), q.1, q.2, by simp [hi], by simp [show i < ys.length by omega]⟩, fun _ q => ⟨xs, ys, q.1, q.2, rfl, hl⟩,
   fun i H v H' _ q ⟨T, x, y, h1, h2, h3, h4, h5⟩ => ⟨T, x, y, h1, h2, h3, h4 xs q.1, h5 ys q.2⟩⟩
theorem walk_zipT {K : PySem.W.Frag} {a b : Addr} {xs ys : List V} {n : Nat} (hn : n = min xs.length ys.length) : Walk (RZ.ItzT K a b) n (fun H => SqT K H a xs ∧ SqT K H b ys) (YPair (fun i => xs[i]?) (fun i => ys[i]?)) := by
  subst hn
  refine ⟨fun i _ hi q => ?_, fun _ q => ⟨xs, ys, q.1, q.2, by omega⟩, fun i H v H' _ q ⟨T, x, z, h1, h2, h3, h4, h5⟩ => ⟨T, x, z, h1, h2, h3, h4 xs q.1, h5 ys q.2⟩⟩
  have k1 : i < xs.length := by omega
  have k2 : i < ys.length := by omega
  exact ⟨xs, ys, xs[i], ys[i], q.1, q.2, by simp [k1], by simp [k2]⟩

/-! ### the end, the loose names told -/
theorem walk_loose {l : PySem.W.OpenLaw} {n k : Nat} {q : Program} {loose : List Str} {XP : (Str → Option Value) → Heap → Prop} {YP : World → Heap → Prop} {d : DefRec} {KK : Params → PySem.W.Frag} {CX : World → CXT} {sp : World → Sp} {x : Str}
    (hn : l.most = some n) (hn2 : n ≤ sizeLine) (hdf : d.params.defaults = []) (hr : Room k callerA) (hY : ∀ (w : World) (h : Heap), YP w h → (KK w.params).In h)
    (F : ∀ (w : World) (mg : Str → Option Value) (fa : Addr) (h : Heap), (KK w.params).In h → h.Ns mainGlobals mg → XP mg h → mg d.name = some (.ref fa) →
      ∃ fd : FuncData, (∀ (z : Shared) (u : Value), BindsTo z fd ⟨[u], []⟩ [(x, u)]) ∧ ∀ base : Heap, (KK w.params).In base → base.Ns mainGlobals mg → FnOk l.prog w (KK w.params) mg base (CX w) k fa fd [x] (sp w))
    (hsp : ∀ (w : World) (H : Hp) (a : Addr) (ns : List Int), ns.length ≤ n → Only H → SqL (KK w.params) H a (ns.map V.int) → sp w [.ref a] H (fun v _ => v = .bl true) fun _ _ _ => False)
    (hCX : ∀ (w : World) (H : Hp) (z : Shared) (e : Value) (z' : Shared), CX w [] H z (fun _ _ _ => False) e z' → False) :
    PySem.W.WalkO q loose XP YP l.row.toRowW d [] (fun f vs => PySem.call f vs) := by
  refine Att.attach_call hn hdf fun w z0 z1 mg mb fa o pm cd doc a vs ns G Y ho hd hcd hmg hobj hints hlen hg => ?_
  obtain ⟨fd, hb, hF⟩ := F w mg fa _ (hY w _ Y) G.T.g G.X hmg
  exact law_call (hY w _ Y) G.T.g G.T.b G.T.builtins G.T.nolimit hg hobj hints (Nat.le_trans hlen hn2) hr hF hb (fun H h1 h2 => hsp w H a ns hlen h1 h2) fun H e z' => hCX w H z1 e z'
end Pq

/-! Readings in short: slices of tuples, comprehensions that leave what stands; the data in the heap. -/
namespace Pq
open PySem L2
section
variable {X : Cx}
/-- t[a:b], the tuple itself or a new one -/
def rSlS (K : PySem.W.Frag) : V → Option Int → Option Int → Hp → VK → Prop := fun x lo hi H Q => ∃ (a : Addr) (xs : List V), x = .ref a ∧ SqT K H a xs ∧ ∀ (b : Addr) (H' : Hp), Same H H' → SqT K H' b (cutV xs lo hi) → Q (.ref b) H'
theorem sl_tupS : SlR X (rSlS X.K) := by
  intro pins s σ H x v vl vu lo hi sl Q I rx hs pl pu h
  obtain ⟨a, xs, rfl, hq, q⟩ := h
  refine sl_tupA pins s σ H (.ref a) v vl vu lo hi sl Q I rx hs pl pu ⟨a, xs, rfl, hq, fun ⟨h1, h2⟩ => ?_, fun _ p hp => q p _ (same_upd hp) (.inl (.inl upd_same))⟩
  refine q a H (Same.refl H) ?_
  unfold cutV
  rw [h1, h2, List.drop_zero, Nat.sub_zero, List.take_length]
  exact hq
end
theorem take_next {α : Type} {xs : List α} {i : Nat} {x : α} (h : xs[i]? = some x) : xs.take (i + 1) = xs.take i ++ [x] := by
  rw [List.take_add_one, h]
  rfl
theorem sqL_eq {K : PySem.W.Frag} {H : Hp} {D : Addr} {xs ys : List V} (h : H D = some (.lst xs)) (e : xs = ys) : SqL K H D ys := SqL.of (e ▸ h)
/-- a comprehension that leaves what stood: behind i turns the new list at D holds f i -/
def LcP (H1 : Hp) (D : Addr) (f : Nat → List V) (i : Nat) (H : Hp) : Prop := Same H1 H ∧ H D = some (.lst (f i))
theorem lcp_0 {H1 : Hp} {D : Addr} {f : Nat → List V} (hD : H1 D = none) (e : f 0 = []) : LcP H1 D f 0 (upd H1 D (.lst [])) := ⟨same_upd hD, by rw [upd_same, e]⟩
theorem lcp_add {H1 H H4 : Hp} {D : Addr} {f : Nat → List V} {i : Nat} {y : V} (hD : H1 D = none) (h : LcP H1 D f i H) (s : Same H H4) (e : f (i + 1) = f i ++ [y]) (hl : (f i).length < sizeLine) :
    ∃ acc, H4 D = some (.lst acc) ∧ acc.length < sizeLine ∧ LcP H1 D f (i + 1) (upd H4 D (.lst (acc ++ [y]))) := by
  refine ⟨f i, s _ _ h.2, hl, fun b o q => ?_, by rw [upd_same, e]⟩
  rw [upd_ne (ne_of_none q hD)]
  exact s _ _ (h.1 _ _ q)
theorem lcp_addE {H1 H H4 : Hp} {D : Addr} {f : Nat → List V} {i : Nat} {y z : V} (hD : H1 D = none) (h : LcP H1 D f i H) (s : Same H H4) (e : f (i + 1) = f i ++ [z]) (ey : y = z) (hl : (f i).length < sizeLine) :
    ∃ acc, H4 D = some (.lst acc) ∧ acc.length < sizeLine ∧ LcP H1 D f (i + 1) (upd H4 D (.lst (acc ++ [y]))) := lcp_add hD h s (ey ▸ e) hl
theorem lcp_skip {H1 H H3 : Hp} {D : Addr} {f : Nat → List V} {i : Nat} (h : LcP H1 D f i H) (s : Same H H3) (e : f (i + 1) = f i) : LcP H1 D f (i + 1) H3 :=
  ⟨h.1.trans s, by rw [e]; exact s _ _ h.2⟩
theorem lcp_end {H1 H : Hp} {D : Addr} {f : Nat → List V} {n : Nat} {xs : List V} (h : LcP H1 D f n H) (e : f n = xs) : H D = some (.lst xs) := by
  rw [h.2, e]
theorem small {n : Nat} (h : n ≤ 1000) : n < sizeLine := small1000 h
theorem map_get {α : Type} {f : α → V} {xs : List α} {i : Nat} {v : V} (h : (xs.map f)[i]? = some v) : ∃ x, xs[i]? = some x ∧ v = f x := by
  rw [List.getElem?_map] at h
  cases e : xs[i]? with
  | none => rw [e] at h; cases h
  | some x => rw [e] at h; exact ⟨x, rfl, (Option.some.inj h).symm⟩
theorem get_lt {α : Type} {xs : List α} {i : Nat} {x : α} (h : xs[i]? = some x) : i < xs.length := (List.getElem?_eq_some_iff.mp h).1
theorem get_mem {α : Type} {xs : List α} {i : Nat} {x : α} (h : xs[i]? = some x) : x ∈ xs := List.mem_of_getElem? h
theorem take_len {α : Type} {xs : List α} {i n : Nat} (h : xs.length ≤ n) : (xs.take i).length ≤ n := by
  rw [List.length_take]
  omega
/-! ### the data -/
/-- a tuple of naturals -/
def TupN (K : PySem.W.Frag) (H : Hp) (a : Addr) (l : List Nat) : Prop := SqT K H a (l.map nV)
/-- a tuple of 0 and 1 -/
def TupB (K : PySem.W.Frag) (H : Hp) (a : Addr) (l : List Bool) : Prop := SqT K H a (l.map bV)
/-- the addresses ps hold tuples of naturals -/
def AllN (K : PySem.W.Frag) (H : Hp) : List Addr → List (List Nat) → Prop := Paired fun p r => TupN K H p r
/-- a tuple of tuples of naturals -/
def RowsAt (K : PySem.W.Frag) (H : Hp) (a : Addr) (rows : List (List Nat)) : Prop := ∃ ps : List Addr, SqT K H a (ps.map V.ref) ∧ AllN K H ps rows
section
variable {K : PySem.W.Frag} {H H' : Hp}
theorem TupN.same {a : Addr} {l : List Nat} (h : TupN K H a l) (s : Same H H') : TupN K H' a l := Same.tup s h
theorem TupB.same {a : Addr} {l : List Bool} (h : TupB K H a l) (s : Same H H') : TupB K H' a l := Same.tup s h
theorem AllN.same {ps : List Addr} {rows : List (List Nat)} (h : AllN K H ps rows) (s : Same H H') : AllN K H' ps rows := Paired.mapP h fun _ _ k => k.same s
theorem RowsAt.same {a : Addr} {rows : List (List Nat)} (h : RowsAt K H a rows) (s : Same H H') : RowsAt K H' a rows :=
  let ⟨ps, h1, h2⟩ := h; ⟨ps, Same.tup s h1, h2.same s⟩
theorem paired_get {α β : Type} {R : α → β → Prop} : ∀ {xs : List α} {ys : List β} {i : Nat} {x : α}, Paired R xs ys → xs[i]? = some x → ∃ y, ys[i]? = some y ∧ R x y
  | _, _, _, _, .nil, e => by simp at e
  | _, _, 0, _, .cons r _, e => by simp at e; subst e; exact ⟨_, rfl, r⟩
  | _, _, i + 1, x, .cons _ t, e => by
    obtain ⟨u, h1, h2⟩ := paired_get (i := i) (x := x) t (by simpa using e)
    exact ⟨u, by simpa using h1, h2⟩
theorem paired_get' {α β : Type} {R : α → β → Prop} : ∀ {xs : List α} {ys : List β} {i : Nat} {y : β}, Paired R xs ys → ys[i]? = some y → ∃ x, xs[i]? = some x ∧ R x y
  | _, _, _, _, .nil, e => by simp at e
  | _, _, 0, _, .cons r _, e => by simp at e; subst e; exact ⟨_, rfl, r⟩
  | _, _, i + 1, y, .cons _ t, e => by
    obtain ⟨u, h1, h2⟩ := paired_get' (i := i) (y := y) t (by simpa using e)
    exact ⟨u, by simpa using h1, h2⟩
theorem AllN.get {ps : List Addr} {rows : List (List Nat)} {i : Nat} {p : Addr} (h : AllN K H ps rows) (e : ps[i]? = some p) : ∃ r, rows[i]? = some r ∧ TupN K H p r := paired_get h e
theorem AllN.len {ps : List Addr} {rows : List (List Nat)} (h : AllN K H ps rows) : ps.length = rows.length := Paired.length h
theorem AllN.snoc {ps : List Addr} {rows : List (List Nat)} {p : Addr} {r : List Nat} (h : AllN K H ps rows) (q : TupN K H p r) : AllN K H (ps ++ [p]) (rows ++ [r]) := by
  unfold AllN at h ⊢
  induction h with
  | nil => exact .cons q .nil
  | cons a _ ih => exact .cons a ih
end
end Pq

namespace Pq
open PySem L2
section
variable {P : Program} {w : World} {K : PySem.W.Frag} {mg : Str → Option Value} {base : Heap}
/-! ### is_whole, is_integer -/
theorem scIsWhole : FnScope ["value"] ["value"] (C8.fnScope sIsWhole) := C8.fnScope_by (by decide +kernel)
theorem scIsInteger : FnScope ["value"] ["value"] (C8.fnScope sIsInteger) := C8.fnScope_by (by decide +kernel)
theorem tyIs_int {K : PySem.W.Frag} {H : Hp} (n : Int) : TyX K H (.int n) (.type "int") := .base (.int n)
def spWhole : Sp := fun vs H Q _ => ∃ n : Int, vs = [.int n] ∧ Q (.bl true) H
theorem ok_isWhole {f : Addr} {fd : FuncData} (F : C8.Def K mg "is_whole" sIsWhole f fd) (b : Binds K fd ["value"] []) (T : Nm mg) : C8.Cal P w K mg base 1 "is_whole" spWhole [] := by
  refine C8.cal0 F b .nil scIsWhole (fun vs H Q E h => ?_) (fun cdv A outer s H vs Q E hr h => ?_)
  · obtain ⟨n, rfl, _⟩ := h
    rfl
  · obtain ⟨n, rfl, q⟩ := h
    refine ⟨_, pss_one (ps_ret (pe_and
      (pe_callB call_isi (by rfl) T.isi (by decide +kernel) (pa_cons (pv 0) (pa_cons (pe_bltn (v := .ty "int") (by rfl) T.int (by decide +kernel) rfl) pa_nil)))
      (pe_one (pe_not (pe_callB call_isi (by rfl) T.isi (by decide +kernel) (pa_cons (pv 0) (pa_cons (pe_bltn (v := .ty "bool") (by rfl) T.bool (by decide +kernel) rfl) pa_nil))))))), ?_⟩
    refine ⟨_, rfl, _, _, _, _, true, rfl, .ty _, tyIs_int n, kit_ty (by decide +kernel), true, rfl, iteT ?_⟩
    exact ⟨_, rfl, _, _, _, _, false, rfl, .ty _, tyIs_int n, kit_ty (by decide +kernel), false, rfl, q⟩
def spInteger : Sp := fun vs H Q _ => ∃ n : Int, vs = [.int n] ∧ -(10 ^ 60) < n ∧ n < 10 ^ 60 ∧ Q (.bl true) H
theorem ok_isInteger {f : Addr} {fd : FuncData} (F : C8.Def K mg "is_integer" sIsInteger f fd) (b : Binds K fd ["value"] []) (T : Nm mg) (cW : C8.Cal P w K mg base 1 "is_whole" spWhole []) : C8.Cal P w K mg base 2 "is_integer" spInteger [] := by
  refine C8.cal0 F b .nil scIsInteger (fun vs H Q E h => ?_) (fun cdv A outer s H vs Q E hr h => ?_)
  · obtain ⟨n, rfl, _⟩ := h
    rfl
  · obtain ⟨n, rfl, h1, h2, q⟩ := h
    refine ⟨_, pss_one (ps_ret (pe_and (C8.pe_c cW hr (by decide) (by rfl) (pa_cons (pv 0) pa_nil))
      (pe_one (pe_chain op_lt op_lt (pe_un un_neg (C8.pe_gc (by rfl) T.beyond)) (pv 0) (C8.pe_gc (by rfl) T.beyond))))), ?_⟩
    refine ⟨_, rfl, n, rfl, true, rfl, iteT ?_⟩
    refine ⟨_, rfl, _, rfl, _, _, rfl, rfl, true, congrArg V.bl (decide_eq_true h1), iteT ?_⟩
    refine ⟨_, _, rfl, rfl, ?_⟩
    have e : (decide (n < (10 : Int) ^ 60)) = true := decide_eq_true h2
    show Q (V.bl (decide (n < (10 : Int) ^ 60))) H
    rw [e]
    exact q
/-! ### are_ascending, are_within -/
theorem cut1 (xs : List V) : cutV xs (some 1) none = xs.drop 1 := by
  unfold cutV
  rw [show HT.sIx xs.length 0 (some 1) = min 1 xs.length from HT.sIx_nat xs.length 0 1, HT.sIx_none]
  cases xs with
  | nil => rfl
  | cons x r =>
    rw [show min 1 (x :: r).length = 1 by rw [List.length_cons]; omega, List.length_cons, Nat.add_sub_cancel]
    exact List.take_length
theorem scAscending : FnScope ["value", "first", "second"] ["value"] (C8.fnScope sAscending) := C8.fnScope_by (by decide +kernel)
def spAscending (K : PySem.W.Frag) : Sp := fun vs H Q _ => ∃ (a : Addr) (l : List Nat), vs = [.ref a] ∧ TupN K H a l ∧ l.Pairwise (· < ·) ∧ l.length ≤ 1000 ∧ ∀ H', Same H H' → Q (.bl true) H'
theorem trues (i : Nat) : List.replicate i (V.bl true) = (List.replicate i true).map V.bl := by rw [List.map_replicate]
theorem all_trues (i : Nat) : (List.replicate i true).all id = true := by
  rw [List.all_eq_true]
  intro x hx
  rw [List.eq_of_mem_replicate hx]
  rfl
theorem ok_ascending {f : Addr} {fd : FuncData} (F : C8.Def K mg "are_ascending" sAscending f fd) (b : Binds K fd ["value"] []) (T : Nm mg) : C8.Cal P w K mg base 1 "are_ascending" (spAscending K) [] := by
  refine C8.cal0 F b .nil scAscending (fun vs H Q E h => ?_) (fun cdv A outer s H vs Q E hr h => ?_)
  · obtain ⟨a, l, rfl, _⟩ := h
    rfl
  · obtain ⟨a, l, rfl, hq, hp, hl, q⟩ := h
    refine ⟨_, pss_one (ps_ret (pe_callB (cr_all rfl) (by rfl) T.all (by decide +kernel) (pa_cons
      (pe_lc (own := [("first", 1), ("second", 2)]) (g := gTup K 2 (gCons (gName 1) (gCons (gName 2) gNil))) rfl scAscending.nd
        (RZ.pi_zipA (by rfl) T.zip (pa_cons (pv 0) (pa_cons (pe_slice sl_tupS (pv 0) (po_some pe_int) po_none) pa_nil)))
        (blkOk_by (own := [("first", 1), ("second", 2)]) (N := ["value", "first", "second"]) (sc := C8.fnScope sAscending) (by decide +kernel))
        (fun _ _ _ _ _ => pg_tup rfl (pgs_cons (pg_name (i := 1) scAscending.nd rfl (Or.inl rfl) (Or.inr rfl)) (pgs_cons (pg_name (i := 2) scAscending.nd rfl (Or.inl rfl) (Or.inr rfl)) pgs_nil)))
        (fun _ _ _ _ _ => pts_nil)
        (fun _ _ _ _ _ => pe_cmp (pc_lt (pv 1) (pv 2)))) pa_nil))), ?_⟩
    refine ⟨_, rfl, _, rfl, 1, rfl, a, _, rfl, hq, fun b H1 s1 hb => ?_⟩
    rw [cut1] at hb
    refine ⟨a, b, _, _, rfl, .inr ⟨Same.tup s1 hq, hb, fun D hD => ?_⟩⟩
    refine lc_it (walk_zipT (xs := l.map nV) (ys := (l.map nV).drop 1) (n := l.length - 1) (by rw [List.length_drop, List.length_map]; omega)) (LcP H1 D fun i => List.replicate i (V.bl true)) (lcp_0 hD rfl)
      (fun i H2 _ p => ⟨Same.tup p.1 (Same.tup s1 hq), Same.tup p.1 hb⟩) (fun i x H2 H3 hi p y => ?_) (fun H2 p => ?_)
    · obtain ⟨t, x, y, rfl, ht, rfl, hx, hy⟩ := y
      obtain ⟨m, hm, rfl⟩ := map_get hx
      rw [← List.map_drop] at hy
      obtain ⟨n, hn, rfl⟩ := map_get hy
      rw [List.getElem?_drop] at hn
      have lt : m < n := by
        obtain ⟨h1, e1⟩ := List.getElem?_eq_some_iff.mp hm
        obtain ⟨h2, e2⟩ := List.getElem?_eq_some_iff.mp hn
        have := List.pairwise_iff_getElem.mp hp i (1 + i) h1 h2 (by omega)
        omega
      refine ⟨t, _, rfl, SqT.of upd_same, rfl, _, _, rfl, _, _, rfl, rfl, rfl, ?_⟩
      refine ⟨_, rfl, _, rfl, _, _, rfl, rfl, ?_⟩
      exact lcp_addE hD p (same_upd ht) List.replicate_succ' (congrArg V.bl (decide_eq_true (show (m : Int) < n by omega))) (by rw [List.length_replicate]; exact small (by omega))
    · refine ⟨D, List.replicate (l.length - 1) true, rfl, sqL_eq p.2 (trues _), ?_⟩
      rw [all_trues]
      exact q H2 (s1.trans p.1)
end
end Pq

namespace Pq
open PySem L2
theorem tyX_tup {K : PySem.W.Frag} {H : Hp} {a : Addr} {xs : List V} (h : SqT K H a xs) : TyX K H (.ref a) (.type "tuple") := by
  rcases h with (h | ⟨o, h⟩) | ⟨o, its, n, h, c, _⟩
  · exact .base (.tup h)
  · exact .fTuple h
  · exact .kTuple h c
section
variable {P : Program} {w : World} {K : PySem.W.Frag} {mg : Str → Option Value} {base : Heap}
/-! ### are_within -/
theorem scWithin : FnScope ["value", "most", "entry"] ["value", "most"] (C8.fnScope sWithin) := C8.fnScope_by (by decide +kernel)
def spWithin (K : PySem.W.Frag) : Sp := fun vs H Q _ => ∃ (a : Addr) (l : List Nat) (m : Int), vs = [.ref a, .int m] ∧ TupN K H a l ∧ l.Pairwise (· < ·) ∧ (∀ n ∈ l, (n : Int) ≤ m) ∧ l.length ≤ 1000 ∧ ∀ H', Same H H' → Q (.bl true) H'
theorem ok_within {f : Addr} {fd : FuncData} (F : C8.Def K mg "are_within" sWithin f fd) (b : Binds K fd ["value", "most"] []) (T : Nm mg) (cW : C8.Cal P w K mg base 1 "is_whole" spWhole []) (cA : C8.Cal P w K mg base 1 "are_ascending" (spAscending K) []) :
    C8.Cal P w K mg base 2 "are_within" (spWithin K) [] := by
  refine C8.cal0 F b .nil scWithin (fun vs H Q E h => ?_) (fun cdv A outer s H vs Q E hr h => ?_)
  · obtain ⟨a, l, m, rfl, _⟩ := h
    rfl
  · obtain ⟨a, l, m, rfl, hq, hp, hm, hl, q⟩ := h
    refine ⟨_, pss_cons (ps_if (PW.pt (pw_or (pt_not (pt_val (pe_callB call_isi (by rfl) T.isi (by decide +kernel) (pa_cons (pv 0) (pa_cons (pe_bltn (v := .ty "tuple") (by rfl) T.tuple (by decide +kernel) rfl) pa_nil)))))
        (pw_or1 (pt_not (pt_val (pe_callB (cr_all rfl) (by rfl) T.all (by decide +kernel) (pa_cons
          (pe_lc (own := [("entry", 2)]) (g := gName 2) rfl scWithin.nd (pi_tup (pv 0))
            (blkOk_by (own := [("entry", 2)]) (N := ["value", "most", "entry"]) (sc := C8.fnScope sWithin) (by decide +kernel))
            (fun _ _ _ _ _ => pg_name (i := 2) scWithin.nd rfl (Or.inl rfl) (Or.inr rfl))
            (fun _ _ _ _ _ => pts_nil)
            (fun _ _ _ _ _ => pe_and (C8.pe_c cW hr (by decide) (by rfl) (pa_cons (pv 2) pa_nil)) (pe_one (pe_chain op_le op_le pe_int (pv 2) (pv 1))))) pa_nil)))))))
        pss_never pss_nil)
      (pss_one (ps_ret (C8.pe_c cA hr (by decide) (by rfl) (pa_cons (pv 0) pa_nil)))), ?_⟩
    refine ⟨_, rfl, _, _, _, _, true, rfl, .ty _, tyX_tup hq, kit_ty (by decide +kernel), true, rfl, ?_⟩
    refine ⟨_, rfl, a, rfl, ⟨_, hq⟩, fun D hD => ?_⟩
    refine lc_it (walk_tup (xs := l.map nV)) (LcP H D fun i => List.replicate i (V.bl true)) (lcp_0 hD rfl) (fun i H2 _ p => Same.tup p.1 hq) (fun i x H2 H3 hi p y => ?_) (fun H2 p => ?_)
    · obtain ⟨rfl, hx⟩ := y
      obtain ⟨n, hn, rfl⟩ := map_get hx
      have h2 : (n : Int) ≤ m := hm n (get_mem hn)
      refine ⟨rfl, ?_⟩
      refine ⟨_, rfl, n, rfl, true, rfl, ?_⟩
      refine ⟨_, rfl, _, _, rfl, rfl, true, congrArg V.bl (decide_eq_true (show (0 : Int) ≤ n by omega)), ?_⟩
      refine ⟨_, rfl, _, _, rfl, rfl, ?_⟩
      exact lcp_addE hD p (Same.refl _) List.replicate_succ' (congrArg V.bl (decide_eq_true h2)) (by rw [List.length_replicate]; rw [List.length_map] at hi; exact small (by omega))
    · rw [List.length_map] at p
      refine ⟨D, List.replicate l.length true, rfl, sqL_eq p.2 (trues _), true, congrArg V.bl (all_trues _), ?_⟩
      exact ⟨_, rfl, a, l, rfl, hq.same p.1, hp, hl, fun H' s' => q H' (p.1.trans s')⟩
/-! ### require_question -/
theorem scRequire : FnScope ["rows", "sides", "row", "side"] ["rows", "sides"] (C8.fnScope sRequire) := C8.fnScope_by (by decide +kernel)
def spRequire (K : PySem.W.Frag) : Sp := fun vs H Q _ => ∃ (a b : Addr) (rows : List (List Nat)) (sides : List Bool), vs = [.ref a, .ref b] ∧ RowsAt K H a rows ∧ TupB K H b sides ∧ Quest 1000 rows sides ∧ rows.length ≤ 60 ∧ ∀ H', Same H H' → Q .non H'
theorem ok_require {f : Addr} {fd : FuncData} (F : C8.Def K mg "require_question" sRequire f fd) (b : Binds K fd ["rows", "sides"] []) (T : Nm mg) (cI : C8.Cal P w K mg base 2 "is_integer" spInteger []) (cW : C8.Cal P w K mg base 2 "are_within" (spWithin K) []) :
    C8.Cal P w K mg base 3 "require_question" (spRequire K) [] := by
  refine C8.cal0 F b .nil scRequire (fun vs H Q E h => ?_) (fun cdv A outer s H vs Q E hr h => ?_)
  · obtain ⟨a, b, rows, sides, rfl, _⟩ := h
    rfl
  · obtain ⟨a, b, rows, sides, rfl, ⟨ps, ha, hrows⟩, hb, hQ, hlen, q⟩ := h
    have hpl : ps.length = rows.length := hrows.len
    refine ⟨_, pss_cons (ps_if (PW.pt (pw_or (pt_not (pt_val (pe_callB call_isi (by rfl) T.isi (by decide +kernel) (pa_cons (pv 0) (pa_cons (pe_bltn (v := .ty "tuple") (by rfl) T.tuple (by decide +kernel) rfl) pa_nil)))))
        (pw_or (pt_cmpR op_gt (pe_callB call_len_seq (by rfl) T.len PySem.boot_len (pa_cons (pv 0) pa_nil)) (C8.pe_gc (by rfl) T.maxRows) (nomark _))
        (pw_or1 (pt_not (pt_val (pe_callB (cr_all rfl) (by rfl) T.all (by decide +kernel) (pa_cons
          (pe_lc (own := [("row", 2)]) (g := gName 2) rfl scRequire.nd (pi_tup (pv 0))
            (blkOk_by (own := [("row", 2)]) (N := ["rows", "sides", "row", "side"]) (sc := C8.fnScope sRequire) (by decide +kernel))
            (fun _ _ _ _ _ => pg_name (i := 2) scRequire.nd rfl (Or.inl rfl) (Or.inr rfl))
            (fun _ _ _ _ _ => pts_nil)
            (fun _ _ _ _ _ => C8.pe_c cW hr (by decide) (by rfl) (pa_cons (pv 2) (pa_cons (C8.pe_gc (by rfl) T.maxPlace) pa_nil)))) pa_nil))))))))
        pss_never pss_nil)
      (pss_cons (ps_if (PW.pt (pw_or (pt_not (pt_val (pe_callB call_isi (by rfl) T.isi (by decide +kernel) (pa_cons (pv 1) (pa_cons (pe_bltn (v := .ty "tuple") (by rfl) T.tuple (by decide +kernel) rfl) pa_nil)))))
        (pw_or1 (pt_cmpR op_ne (pe_callB call_len_seq (by rfl) T.len PySem.boot_len (pa_cons (pv 1) pa_nil)) (pe_callB call_len_seq (by rfl) T.len PySem.boot_len (pa_cons (pv 0) pa_nil)) (nomark _)))))
        pss_never pss_nil)
      (pss_one (ps_if (pt_not (pt_val (pe_callB (cr_all rfl) (by rfl) T.all (by decide +kernel) (pa_cons
          (pe_lc (own := [("side", 3)]) (g := gName 3) rfl scRequire.nd (pi_tup (pv 1))
            (blkOk_by (own := [("side", 3)]) (N := ["rows", "sides", "row", "side"]) (sc := C8.fnScope sRequire) (by decide +kernel))
            (fun _ _ _ _ _ => pg_name (i := 3) scRequire.nd rfl (Or.inl rfl) (Or.inr rfl))
            (fun _ _ _ _ _ => pts_nil)
            (fun _ _ _ _ _ => pe_and (C8.pe_c cI hr (by decide) (by rfl) (pa_cons (pv 3) pa_nil)) (pe_one (pe_chain op_le op_le pe_int (pv 3) pe_int)))) pa_nil))))
        pss_never pss_nil))), ?_⟩
    -- the rows
    refine ⟨_, rfl, _, _, _, _, true, rfl, .ty _, tyX_tup ha, kit_ty (by decide +kernel), true, rfl, ?_⟩
    refine ⟨_, rfl, a, _, rfl, .inr ha, _, _, rfl, rfl, false, congrArg V.bl (decide_eq_false (by rw [List.length_map, hpl]; omega)), ?_⟩
    refine ⟨_, rfl, a, rfl, ⟨_, ha⟩, fun D hD => ?_⟩
    refine lc_it (walk_tup (xs := ps.map V.ref)) (LcP H D fun i => List.replicate i (V.bl true)) (lcp_0 hD rfl) (fun i H2 _ p => Same.tup p.1 ha) (fun i x H2 H3 hi p y => ?_) (fun H2 p => ?_)
    · obtain ⟨rfl, hx⟩ := y
      obtain ⟨c, hc, rfl⟩ := map_get hx
      obtain ⟨r, hr', hcr⟩ := hrows.get hc
      have hA := hQ.asc r (get_mem hr')
      refine ⟨rfl, ?_⟩
      refine ⟨_, rfl, c, r, 999, rfl, hcr.same p.1, hA.1, fun n hn => ?_, hA.len, fun H4 s4 => ?_⟩
      · have := hA.2 n hn
        omega
      · exact lcp_addE hD p s4 List.replicate_succ' rfl (by rw [List.length_replicate]; rw [List.length_map] at hi; exact small (by omega))
    · rw [List.length_map] at p
      refine ⟨D, List.replicate ps.length true, rfl, sqL_eq p.2 (trues _), true, congrArg V.bl (all_trues _), ?_⟩
      -- the sides
      have hb2 : SqT K H2 b (sides.map bV) := Same.tup p.1 hb
      refine ⟨_, rfl, _, _, _, _, true, rfl, .ty _, tyX_tup hb2, kit_ty (by decide +kernel), true, rfl, ?_⟩
      refine ⟨_, rfl, b, _, rfl, .inr hb2, _, rfl, a, _, rfl, .inr (Same.tup p.1 ha), rfl, false, ?_, ?_⟩
      · rw [List.length_map, List.length_map, hpl, hQ.len, decide_eq_true rfl]
        rfl
      refine ⟨_, rfl, b, rfl, ⟨_, hb2⟩, fun D2 hD2 => ?_⟩
      refine lc_it (walk_tup (xs := sides.map bV)) (LcP H2 D2 fun i => List.replicate i (V.bl true)) (lcp_0 hD2 rfl) (fun i H3 _ p3 => Same.tup p3.1 hb2) (fun i x H3 H4 hi p3 y => ?_) (fun H3 p3 => ?_)
      · obtain ⟨rfl, hx⟩ := y
        obtain ⟨c, hc, rfl⟩ := map_get hx
        have h01 := bI_le c
        refine ⟨rfl, ?_⟩
        refine ⟨_, rfl, bI c, rfl, ?_, ?_, true, rfl, ?_⟩
        · exact Int.lt_of_lt_of_le (by decide) h01.1
        · exact Int.lt_of_le_of_lt h01.2 (by decide)
        refine ⟨_, rfl, _, _, rfl, rfl, true, congrArg V.bl (decide_eq_true h01.1), ?_⟩
        refine ⟨_, _, rfl, rfl, ?_⟩
        exact lcp_addE hD2 p3 (Same.refl _) List.replicate_succ' (congrArg V.bl (decide_eq_true h01.2)) (by rw [List.length_replicate]; rw [List.length_map, hQ.len] at hi; exact small (by omega))
      · rw [List.length_map] at p3
        refine ⟨D2, List.replicate sides.length true, rfl, sqL_eq p3.2 (trues _), true, congrArg V.bl (all_trues _), ?_⟩
        exact q H3 (p.1.trans p3.1)
end
end Pq

namespace Pq
open PySem L2
/-! ### bits of ints -/
theorem xor_nat (a b : Nat) : Builtin.bitXor (a : Int) (b : Int) = ((a ^^^ b : Nat) : Int) := by
  rw [Bits.bitXor_pp (Int.natCast_nonneg _) (Int.natCast_nonneg _), Int.toNat_natCast, Int.toNat_natCast]
theorem and_neg (e a : Nat) : Builtin.bitAnd ((2 ^ (e + 1) * a + 2 ^ e : Nat) : Int) (-((2 ^ (e + 1) * a + 2 ^ e : Nat) : Int)) = ((2 ^ e : Nat) : Int) := by
  have pos : 0 < 2 ^ (e + 1) * a + 2 ^ e := by have := Nat.two_pow_pos e; omega
  generalize hm : 2 ^ (e + 1) * a + 2 ^ e = m at pos
  rw [PyProof.Rows.bitAnd_pn (Int.natCast_nonneg _) (by omega), Int.toNat_natCast]
  have h1 : (Builtin.bitNot (-(m : Int))).toNat = m - 1 := by
    show (- -(m : Int) - 1).toNat = m - 1
    omega
  have h2 : m &&& (m - 1) = 2 ^ (e + 1) * a := by rw [← hm]; exact low_and e a
  rw [h1, h2]
  omega
theorem bits_pow (e : Nat) : Builtin.Int.intBits ((2 ^ e : Nat) : Int) = e + 1 := by
  have pos := Nat.two_pow_pos e
  unfold Builtin.Int.intBits
  rw [if_neg (by rw [beq_iff_eq]; omega), Int.natAbs_natCast, Nat.log2_two_pow]
theorem bits_bl (m : Nat) : Builtin.Int.intBits (m : Int) = bl m := by
  unfold Builtin.Int.intBits bl
  by_cases h : m = 0
  · subst h; rfl
  · rw [if_neg (by rw [beq_iff_eq]; omega), if_neg h, Int.natAbs_natCast]
theorem small1000000 {n : Nat} (h : n ≤ 1000000) : n < sizeLine := Nat.lt_of_le_of_lt h (by decide)
section
variable {P : Program} {w : World} {K : PySem.W.Frag} {mg : Str → Option Value} {base : Heap}
/-! ### doubled_to -/
theorem scDoubled : FnScope ["size", "found", "turn"] ["size"] (C8.fnScope sDoubled) := C8.fnScope_by (by decide +kernel)
def powV (i : Nat) : V := nV (2 ^ i)
def spDoubled : Sp := fun vs H Q _ => ∃ n : Nat, vs = [nV n] ∧ n ≤ 2000 ∧ ∀ (p : Addr) (H' : Hp), Same H H' → H' p = some (.lst ((List.range (n + 1)).map powV)) → Q (.ref p) H'
theorem ok_doubled {f : Addr} {fd : FuncData} (F : C8.Def K mg "doubled_to" sDoubled f fd) (b : Binds K fd ["size"] []) (T : Nm mg) : C8.Cal P w K mg base 1 "doubled_to" spDoubled [] := by
  refine C8.cal0 F b .nil scDoubled (fun vs H Q E h => ?_) (fun cdv A outer s H vs Q E hr h => ?_)
  · obtain ⟨n, rfl, _⟩ := h
    rfl
  · obtain ⟨n, rfl, hn, q⟩ := h
    refine ⟨_, pss_cons (ps_set (i := 1) scDoubled.nd rfl (.inl rfl) (pe_lst (pa_cons pe_int pa_nil)))
      (pss_cons (ps_for PassesOwn.never rfl (pi_range1 (by rfl) T.range (pa_cons (pv 0) pa_nil)) (pg_name (i := 2) scDoubled.nd rfl (.inl rfl))
        (pss_one (ps_expr (pe_bm PySem.F.plainAttrs_list PySem.F.slot_list_append PySem.F.type_list_append mt_append (pv 1)
          (pa_cons (pe_op op_mul pe_int (pe_ix ix_list (pv 1) (pe_un un_neg pe_int) (fun _ _ => rfl))) pa_nil)))))
      (pss_one (ps_ret (pv 1)))), ?_⟩
    refine ⟨by show 1 ≤ sizeLine; decide, fun p hp => ?_⟩
    have e1 : (n : Int).toNat = n := Int.toNat_natCast n
    refine ⟨_, rfl, (n : Int), rfl, by omega, by omega, ?_⟩
    rw [e1]
    refine for_it walk_range (fun i σ H' => ∃ v2, σ = [some (nV n), some (.ref p), v2] ∧ Same H H' ∧ H' p = some (.lst ((List.range (i + 1)).map powV))) ⟨none, rfl, same_upd hp, upd_same⟩ (fun _ _ _ _ _ => trivial)
      (fun i x σ H2 H3 hi hP hY => ?_) (fun σ H2 hP => ?_)
    · obtain ⟨v2, rfl, sm, hl⟩ := hP
      obtain ⟨rfl, rfl⟩ := hY
      have last : (List.range (i + 1)).map powV = (List.range i).map powV ++ [powV i] := by rw [List.range_succ, List.map_append]; rfl
      refine ⟨_, rfl, .inl ⟨rfl, _, SqL.of hl⟩, ?_⟩
      refine ⟨_, rfl, _, rfl, p, _, _, powV i, rfl, rfl, SqL.of hl, ?_, _, _, rfl, rfl, .inl ⟨by decide, by decide⟩, ?_⟩
      · rw [last]
        exact atI_last _ _
      refine ⟨p, _, _, rfl, rfl, hl, by rw [List.length_map, List.length_range]; exact small1000000 (by omega), ?_⟩
      refine ⟨_, rfl, fun b o e => ?_, ?_⟩
      · rw [upd_ne (ne_of_none e hp)]
        exact sm _ _ e
      · rw [upd_same, List.range_succ (n := i + 1), List.map_append]
        have e2 : (2 : Int) * ((2 ^ i : Nat) : Int) = ((2 ^ (i + 1) : Nat) : Int) := by rw [Nat.pow_succ]; omega
        show some (HO.lst (_ ++ [V.int ((2 : Int) * ((2 ^ i : Nat) : Int))])) = _
        rw [e2]
        rfl
    · obtain ⟨v2, rfl, sm, hl⟩ := hP
      exact ⟨_, rfl, q p H2 sm hl⟩
/-! ### bits_of -/
theorem scBits : FnScope ["mask", "found", "left", "lowest"] ["mask"] (C8.fnScope sBits) := C8.fnScope_by (by decide +kernel)
def spBits : Sp := fun vs H Q _ => ∃ m n : Nat, vs = [nV m] ∧ m < 2 ^ n ∧ n ≤ 1000 ∧ ∀ (p : Addr) (H' : Hp), Same H H' → H' p = some (.lst ((bits n m).map nV)) → Q (.ref p) H'
theorem ok_bits {f : Addr} {fd : FuncData} (F : C8.Def K mg "bits_of" sBits f fd) (b : Binds K fd ["mask"] []) (T : Nm mg) : C8.Cal P w K mg base 1 "bits_of" spBits [] := by
  refine C8.cal0 F b .nil scBits (fun vs H Q E h => ?_) (fun cdv A outer s H vs Q E hr h => ?_)
  · obtain ⟨m, n, rfl, _⟩ := h
    rfl
  · obtain ⟨m, n, rfl, hm, hn, q⟩ := h
    refine ⟨_, pss_cons (ps_par (i := 1) (j := 2) rfl scBits.nd rfl rfl (by decide) rfl rfl (pa_cons (pe_lst pa_nil) (pa_cons (pv 0) pa_nil)) (by rfl))
      (pss_cons (ps_while PassesOwn.never (pt_cmpR op_gt (pv 2) pe_int (nomark _))
        (pss_cons (ps_set (i := 3) scBits.nd rfl (.inl rfl) (pe_op op_and (pv 2) (pe_un un_neg (pv 2))))
        (pss_cons (ps_expr (pe_bm PySem.F.plainAttrs_list PySem.F.slot_list_append PySem.F.type_list_append mt_append (pv 1) (pa_cons (pe_op op_sub (pe_bits (pv 3)) pe_int) pa_nil)))
        (pss_one (ps_aug (i := 2) scBits.nd rfl (.inl rfl) (pv 3) ip_xor)))))
      (pss_one (ps_ret (pv 1)))), ?_⟩
    refine ⟨Nat.zero_le _, fun p hp => ?_⟩
    refine ⟨_, rfl, _, _, rfl, ?_⟩
    refine ⟨fun l σ H' => ∃ k v3, σ = [some (nV m), some (.ref p), some (nV l), v3] ∧ Same H H' ∧ H' p = some (.lst ((bits k m).map nV)) ∧ (∀ q, l.testBit q = (decide (k ≤ q) && m.testBit q)) ∧ k ≤ n,
      ⟨m, 0, none, rfl, same_upd hp, upd_same, fun q => by simp, Nat.zero_le _⟩, fun l σ H' hW => ?_⟩
    obtain ⟨k, v3, rfl, sm, hl, hb, hk⟩ := hW
    refine ⟨_, rfl, _, _, rfl, rfl, _, rfl, ite2 (fun hpos => ?_) (fun hz => ?_)⟩
    · have pos : 0 < l := by have := of_decide_eq_true hpos; omega
      obtain ⟨e, a, he⟩ := lowest l pos
      obtain ⟨t1, t2⟩ := bits_turn hb he
      have elt : e < n := by
        have h1 : l.testBit e = true := by rw [he, low_bit]; simp
        rw [hb e, Bool.and_eq_true] at h1
        rcases Nat.lt_or_ge e n with z | z
        · exact z
        · rw [Nat.testBit_lt_two_pow (Nat.lt_of_lt_of_le hm (Nat.pow_le_pow_right (by decide) z))] at h1
          cases h1.2
      refine ⟨fun σ' H2 => ∃ k v3, σ' = [some (nV m), some (.ref p), some (nV (2 ^ (e + 1) * a)), v3] ∧ Same H H2 ∧ H2 p = some (.lst ((bits k m).map nV)) ∧ (∀ q, (2 ^ (e + 1) * a).testBit q = (decide (k ≤ q) && m.testBit q)) ∧ k ≤ n,
        fun σ' H2 hN => ⟨2 ^ (e + 1) * a, by have := Nat.two_pow_pos e; omega, hN⟩, ?_⟩
      subst he
      have ea : Builtin.bitAnd ((2 ^ (e + 1) * a + 2 ^ e : Nat) : Int) (-((2 ^ (e + 1) * a + 2 ^ e : Nat) : Int)) = ((2 ^ e : Nat) : Int) := and_neg e a
      refine ⟨_, rfl, _, rfl, _, rfl, _, _, rfl, rfl, ?_⟩
      show (tSeq _ _) _ [some (nV m), some (V.ref p), some (nV (2 ^ (e + 1) * a + 2 ^ e)), some (V.int (Builtin.bitAnd ((2 ^ (e + 1) * a + 2 ^ e : Nat) : Int) (-((2 ^ (e + 1) * a + 2 ^ e : Nat) : Int))))] _
      rw [ea]
      refine ⟨_, rfl, .inl ⟨rfl, _, SqL.of hl⟩, ?_⟩
      refine ⟨_, rfl, _, rfl, _, _, rfl, rfl, ?_⟩
      have el : (bits k m).length ≤ 1000 := Nat.le_trans (bits_asc k m).len (by omega)
      refine ⟨p, _, _, rfl, rfl, hl, by rw [List.length_map]; exact small el, ?_⟩
      refine ⟨_, rfl, _, rfl, _, _, rfl, rfl, ?_⟩
      refine ⟨e + 1, some (nV (2 ^ e)), ?_, fun b o z => ?_, ?_, t2, elt⟩
      · show [some (nV m), some (V.ref p), some (V.int (Builtin.bitXor ((2 ^ (e + 1) * a + 2 ^ e : Nat) : Int) ((2 ^ e : Nat) : Int))), some (nV (2 ^ e))] = _
        rw [xor_nat, low_xor]
      · rw [upd_ne (ne_of_none z hp)]
        exact sm _ _ z
      · rw [upd_same, ← t1, List.map_append]
        have ee : ((Builtin.Int.intBits ((2 ^ e : Nat) : Int) : Nat) : Int) - 1 = (e : Int) := by rw [bits_pow]; omega
        show some (HO.lst (_ ++ [V.int (((Builtin.Int.intBits ((2 ^ e : Nat) : Int) : Nat) : Int) - 1)])) = _
        rw [ee]
        rfl
    · have l0 : l = 0 := by
        have : ¬ (0 : Int) < (l : Int) := fun z => hz (decide_eq_true z)
        omega
      subst l0
      refine ⟨_, rfl, q p H' sm ?_⟩
      rw [hl, bits_end hm hb]
end
end Pq

namespace Pq
open PySem L2
/-! ### heads in the heap -/
def hdV (h : Hd) : List V := [nV h.m, nV h.lot, bV h.s]
def hdK (h : Hd) : Key := Sum.inl ((bl h.m : Nat) : Int)
/-- a dict's pairs are these heads -/
def HeadsAt (H : Hp) : List (Key × V) → List Hd → Prop := Paired fun kv h => kv.1 = hdK h ∧ ∃ t, kv.2 = .ref t ∧ H t = some (.tup (hdV h))
theorem HeadsAt.mono {H H' : Hp} {kvs : List (Key × V)} {hs : List Hd} (x : HeadsAt H kvs hs) (k : ∀ t xs, H t = some (.tup xs) → H' t = some (.tup xs)) : HeadsAt H' kvs hs :=
  Paired.mapP x fun _ _ ⟨h1, t, h2, h3⟩ => ⟨h1, t, h2, k _ _ h3⟩
theorem HeadsAt.none {H : Hp} : ∀ {kvs : List (Key × V)} {hs : List Hd} {L : Nat}, HeadsAt H kvs hs → valV kvs (Sum.inl (L : Int)) = Option.none → L ∉ hs.map fun h => bl h.m
  | _, _, _, .nil, _ => fun h => nomatch h
  | kv :: kvs, h :: hs, L, .cons ⟨h1, _⟩ r, e => fun m => by
    by_cases z : kv.1 = Sum.inl (L : Int)
    · rw [valV_pos z] at e
      cases e
    · rw [valV_neg z] at e
      rcases List.mem_cons.mp m with q | q
      · exact z (by rw [h1, q]; rfl)
      · exact HeadsAt.none r e q
theorem HeadsAt.some {H : Hp} : ∀ {kvs : List (Key × V)} {hs : List Hd} {L : Nat} {v : V}, HeadsAt H kvs hs → valV kvs (Sum.inl (L : Int)) = Option.some v → ∃ h ∈ hs, bl h.m = L ∧ ∃ t, v = .ref t ∧ H t = Option.some (.tup (hdV h))
  | _, _, _, _, .nil, e => nomatch e
  | kv :: kvs, h :: hs, L, v, .cons ⟨h1, t, h2, h3⟩ r, e => by
    by_cases z : kv.1 = Sum.inl (L : Int)
    · rw [valV_pos z] at e
      refine ⟨h, List.mem_cons_self .., ?_, t, (Option.some.inj e).symm.trans h2, h3⟩
      rw [h1] at z
      have q : ((bl h.m : Nat) : Int) = (L : Int) := Sum.inl.inj z
      omega
    · rw [valV_neg z] at e
      obtain ⟨g, hg, q⟩ := HeadsAt.some r e
      exact ⟨g, List.mem_cons_of_mem _ hg, q⟩
theorem HeadsAt.snoc {H : Hp} {kvs : List (Key × V)} {hs : List Hd} {h : Hd} {t : Addr} (x : HeadsAt H kvs hs) (ht : H t = Option.some (.tup (hdV h))) : HeadsAt H (kvs ++ [(hdK h, .ref t)]) (hs ++ [h]) := by
  unfold HeadsAt at x ⊢
  induction x with
  | nil => exact .cons ⟨rfl, t, rfl, ht⟩ .nil
  | cons a _ ih => exact .cons a ih
theorem HeadsAt.len {H : Hp} {kvs : List (Key × V)} {hs : List Hd} (x : HeadsAt H kvs hs) : kvs.length = hs.length := Paired.length x
def SweptOk (rows : List (List Nat)) (sides : List Bool) (lot : Nat) (hs : List Hd) : Prop :=
  (0 < lot ∧ lot < 2 ^ rows.length ∧ OddLot rows sides (bits rows.length lot)) ∨ (lot = 0 ∧ HeadsOk rows sides rows.length hs)
theorem sum_pow (l : List Nat) : (l.map fun p => ((2 ^ p : Nat) : Int)).sum = ((msk l : Nat) : Int) := by
  unfold msk
  induction l with
  | nil => rfl
  | cons p r ih =>
    rw [List.map_cons, List.sum_cons, ih, List.map_cons, List.sum_cons]
    omega
theorem xor_bI (a b : Bool) : Builtin.bitXor (bI a) (bI b) = bI (a ^^ b) := by cases a <;> cases b <;> decide
theorem bI_one {s : Bool} : bV s = V.int 1 ↔ s = true := by cases s <;> decide
theorem rowAt_get {rows : List (List Nat)} {i : Nat} {r : List Nat} (h : rows[i]? = some r) : rowAt rows i = r := by
  unfold rowAt
  rw [List.getD, h]
  rfl
theorem sideAt_get {sides : List Bool} {i : Nat} {r : Bool} (h : sides[i]? = some r) : sideAt sides i = r := by
  unfold sideAt
  rw [List.getD, h]
  rfl
section
variable {P : Program} {w : World} {K : PySem.W.Frag} {mg : Str → Option Value} {base : Heap}
/-! ### swept -/
abbrev nSwept : List Str := ["rows", "sides", "powers", "heads", "index", "row", "mask", "lot", "side", "head", "place"]
theorem scSwept : FnScope nSwept ["rows", "sides"] (C8.fnScope sSwept) := C8.fnScope_by (by decide +kernel)
def spSwept (K : PySem.W.Frag) : Sp := fun vs H Q _ => ∃ (a b : Addr) (rows : List (List Nat)) (sides : List Bool), vs = [.ref a, .ref b] ∧ RowsAt K H a rows ∧ TupB K H b sides ∧ Quest 1000 rows sides ∧ rows.length ≤ 60 ∧
  ∀ (p d : Addr) (lot : Nat) (kvs : List (Key × V)) (hs : List Hd) (H' : Hp), Same H H' → H' p = some (.tup [.ref d, nV lot]) → H' d = some (.dK kvs) → HeadsAt H' kvs hs → SweptOk rows sides lot hs → Q (.ref p) H'
theorem ok_swept {f : Addr} {fd : FuncData} (F : C8.Def K mg "swept" sSwept f fd) (b : Binds K fd ["rows", "sides"] []) (T : Nm mg) (cD : C8.Cal P w K mg base 1 "doubled_to" spDoubled []) :
    C8.Cal P w K mg base 2 "swept" (spSwept K) [] := by
  refine C8.cal0 F b .nil scSwept (fun vs H Q E h => ?_) (fun cdv A outer s H vs Q E hr h => ?_)
  · obtain ⟨a, b, rows, sides, rfl, _⟩ := h
    rfl
  · obtain ⟨a, b, rows, sides, rfl, ⟨ps, ha, hrows⟩, hb, hQ, hlen, q⟩ := h
    have hpl : ps.length = rows.length := hrows.len
    have hu := hu_of hr
    refine ⟨_, pss_cons (ps_asg (pe_tup (pa_cons (C8.pe_c cD hr (by decide) (by rfl) (pa_cons (pe_callB (call_max2 rfl) (by rfl) T.max (by decide +kernel) (pa_cons (pe_callB call_len_seq (by rfl) T.len PySem.boot_len (pa_cons (pv 0) pa_nil)) (pa_cons (C8.pe_gc (by rfl) T.maxPlace) pa_nil))) pa_nil)) (pa_cons pe_dnewK pa_nil)))
        (pg_tup rfl (pgs_cons (pg_name (i := 2) scSwept.nd rfl (.inr rfl)) (pgs_cons (pg_name (i := 3) scSwept.nd rfl (.inl rfl)) pgs_nil))))
      (pss_cons (ps_for PassesOwn.never rfl (pi_enumT (by rfl) T.enumerate (pa_cons (pv 0) pa_nil)) (pg_tup rfl (pgs_cons (pg_name (i := 4) scSwept.nd rfl (.inl rfl)) (pgs_cons (pg_name (i := 5) scSwept.nd rfl (.inl rfl)) pgs_nil)))
        (pss_cons (ps_par3 (i := 6) (j := 7) (l := 8) rfl scSwept.nd rfl rfl rfl (by decide) (by decide) (by decide) rfl rfl rfl
          (pa_cons (pe_callB (cr_sum rfl) (by rfl) T.sum (by decide +kernel) (pa_cons
            (pe_lc (own := [("place", 10)]) (g := gName 10) (te := tOp (rIxL K) (tVar 2) (tVar 10)) rfl scSwept.nd (pi_tup (pv 5))
              (blkOk_by (own := [("place", 10)]) (N := nSwept) (sc := C8.fnScope sSwept) (by decide +kernel))
              (fun _ _ _ _ _ => pg_name (i := 10) scSwept.nd rfl (Or.inl rfl) (Or.inr rfl))
              (fun _ _ _ _ _ => pts_nil)
              (fun _ _ _ _ _ => pe_ix ix_list (pv 2) (pv 10) (fun _ _ => rfl))) pa_nil))
          (pa_cons (pe_ix ix_list (pv 2) (pv 4) (fun _ _ => rfl)) (pa_cons (pe_ix ix_tup (pv 1) (pv 4) (fun _ _ => rfl)) pa_nil))) (by rfl))
        (pss_cons (ps_while PassesOwn.never (PW.pt (pw_and (pt_cmpR op_gt (pv 6) pe_int (nomark _)) (pw_and1 (pt_cmp (pc_din hu (pe_bits (pv 6)) (pv 3))))))
          (pss_cons (ps_set (i := 9) scSwept.nd rfl (.inl rfl) (pe_dget hu (pv 3) (pe_bits (pv 6)) (fun _ _ => rfl)))
          (pss_one (ps_par3 (i := 6) (j := 7) (l := 8) rfl scSwept.nd rfl rfl rfl (by decide) (by decide) (by decide) rfl rfl rfl
            (pa_cons (pe_op op_xor (pv 6) (pe_ix ix_tup (pv 9) pe_int (fun _ _ => rfl)))
            (pa_cons (pe_op op_xor (pv 7) (pe_ix ix_tup (pv 9) pe_int (fun _ _ => rfl)))
            (pa_cons (pe_op op_xor (pv 8) (pe_ix ix_tup (pv 9) pe_int (fun _ _ => rfl))) pa_nil))) (by rfl)))))
        (pss_one (ps_if (pt_cmpR op_gt (pv 6) pe_int (nomark _))
          (pss_one (ps_dput hu (pv 3) (pe_bits (pv 6)) (pe_tup (pa_cons (pv 6) (pa_cons (pv 7) (pa_cons (pv 8) pa_nil)))) rfl))
          (pss_one (ps_if (pt_cmpR op_eq (pv 8) pe_int (nomark _))
            (pss_one (ps_ret (pe_tup (pa_cons (pv 3) (pa_cons (pv 7) pa_nil))))) pss_nil)))))))
      (pss_one (ps_ret (pe_tup (pa_cons (pv 3) (pa_cons pe_int pa_nil)))))), ?_⟩
    -- powers, heads
    refine ⟨_, rfl, a, _, rfl, .inr ha, _, _, rfl, 999, ?_, by decide, fun pw H1 s1 hpw => ?_⟩
    · rw [if_pos (by rw [List.length_map, hpl]; omega)]
      rfl
    refine fun d hd => ⟨by show 2 ≤ sizeLine; decide, fun t ht => ?_⟩
    refine ⟨t, _, rfl, SqT.of upd_same, rfl, _, _, rfl, _, _, rfl, rfl, ?_⟩
    have s2 : Same H (upd (upd H1 d (.dK [])) t (.tup [.ref pw, .ref d])) := (s1.trans (same_upd hd)).trans (same_upd ht)
    have hd0 : H d = Option.none := s1.free hd
    have ndt : d ≠ t := fun e => by
      rw [e, upd_same] at ht
      cases ht
    have npw : pw ≠ d := ne_of_none hpw hd
    have npt : pw ≠ t := ne_of_none (show upd H1 d (.dK []) pw = some _ from (upd_ne npw).trans hpw) ht
    -- for index, row in enumerate(rows)
    refine ⟨_, rfl, a, _, rfl, Same.tup s2 ha, ?_⟩
    refine for_it (walk_enumT (xs := ps.map V.ref)) (fun i σ H' => ∃ hs kvs v4 v5 v6 v7 v8 v9, σ = [some (.ref a), some (.ref b), some (.ref pw), some (.ref d), v4, v5, v6, v7, v8, v9, none] ∧ Same H H' ∧
        H' pw = some (.lst ((List.range 1000).map powV)) ∧ H' d = some (.dK kvs) ∧ HeadsAt H' kvs hs ∧ HeadsOk rows sides i hs)
      ⟨[], [], none, none, none, none, none, none, rfl, s2, by rw [upd_ne npt, upd_ne npw]; exact hpw, by rw [upd_ne ndt, upd_same], .nil, .nil⟩
      (fun i σ H' _ hP => ?_) (fun i x σ H2 H3 hi hP hY => ?_) (fun σ H2 hP => ?_)
    · obtain ⟨_, _, _, _, _, _, _, _, _, sm, _⟩ := hP
      exact Same.tup sm ha
    · obtain ⟨hs, kvs, v4, v5, v6, v7, v8, v9, rfl, sm, hpw2, hd2, hAt, hOk⟩ := hP
      obtain ⟨t2, x1, y1, rfl, ht2, rfl, hx1, hy1⟩ := hY
      cases hx1
      obtain ⟨c, hc, rfl⟩ := map_get hy1
      obtain ⟨r, hr1, hcr⟩ := hrows.get hc
      have hin : i < rows.length := get_lt hr1
      have hA : Asc 1000 r := hQ.asc r (get_mem hr1)
      have sT : Same H2 (upd H2 t2 (.tup [nV i, .ref c])) := same_upd ht2
      generalize hH3 : upd H2 t2 (.tup [nV i, .ref c]) = H3 at *
      have hpw3 := sT _ _ hpw2
      have hd3 := sT _ _ hd2
      have hAt3 : HeadsAt H3 kvs hs := hAt.mono fun z xs e => sT z _ e
      have sm3 : Same H H3 := sm.trans sT
      refine ⟨t2, _, rfl, SqT.of (by rw [← hH3]; exact upd_same), rfl, _, _, rfl, _, _, rfl, rfl, ?_⟩
      -- mask, lot, side
      refine ⟨_, rfl, c, rfl, ⟨_, (hcr.same sm3 : SqT K H3 c (r.map nV))⟩, fun D hD => ?_⟩
      refine lc_it (walk_tup (xs := r.map nV)) (LcP H3 D fun j => (r.take j).map powV) (lcp_0 hD rfl) (fun j H4 _ p => Same.tup p.1 (hcr.same sm3)) (fun j x H4 H5 hj p y => ?_) (fun H4 p => ?_)
      · obtain ⟨rfl, hx⟩ := y
        obtain ⟨n, hn, rfl⟩ := map_get hx
        have n1000 : n < 1000 := hA.2 n (get_mem hn)
        refine ⟨rfl, ?_⟩
        refine ⟨_, rfl, _, rfl, pw, _, _, powV n, rfl, rfl, SqL.of (p.1 _ _ hpw3), atI_nat (by rw [List.getElem?_map, List.getElem?_range n1000]; rfl), ?_⟩
        exact lcp_add hD p (Same.refl _) (by rw [take_next hn, List.map_append]; rfl) (by rw [List.length_map]; exact small (take_len hA.len))
      · rw [List.length_map] at p
        have sm4 : Same H H4 := sm3.trans p.1
        have hpw4 := p.1 _ _ hpw3
        have hd4 := p.1 _ _ hd3
        have hAt4 : HeadsAt H4 kvs hs := hAt3.mono fun z xs e => p.1 z _ e
        have hin2 : i < sides.length := by rw [hQ.len]; exact hin
        have hs1 : sides[i]? = some sides[i] := List.getElem?_eq_getElem hin2
        have eD : H4 D = some (.lst (r.map powV)) := lcp_end p (congrArg (List.map powV) List.take_length)
        refine ⟨D, r.map fun p => ((2 ^ p : Nat) : Int), rfl, sqL_eq eD (by rw [List.map_map]; rfl), ?_⟩
        refine ⟨_, rfl, _, rfl, pw, _, _, powV i, rfl, rfl, SqL.of hpw4, atI_nat (by rw [List.getElem?_map, List.getElem?_range (by omega)]; rfl), ?_⟩
        refine ⟨_, rfl, _, rfl, b, _, _, bV sides[i], rfl, rfl, hb.same sm4, atI_nat (by rw [List.getElem?_map, hs1]; rfl), ?_⟩
        refine ⟨_, _, _, rfl, ?_⟩
        rw [sum_pow]
        have hcur := CurOk.start hQ hin hs
        -- while
        refine ⟨fun m σ H' => ∃ (k : Hd) (u : Option V), m = k.m ∧ σ = [some (.ref a), some (.ref b), some (.ref pw), some (.ref d), some (nV i), some (.ref c), some (nV k.m), some (nV k.lot), some (bV k.s), u, none] ∧ H' = H4 ∧ CurOk rows sides i hs k,
          ⟨_, .row rows sides i, v9, rfl, ?_, rfl, hcur⟩, fun m σ H' hW => ?_⟩
        · unfold Hd.row
          rw [rowAt_get hr1, sideAt_get hs1]
          rfl
        · obtain ⟨k, u, rfl, rfl, rfl, hk⟩ := hW
          refine ⟨_, rfl, _, _, rfl, rfl, _, rfl, ite2 (fun hpos => ?_) (fun hz => ?_)⟩
          · -- the mask is above 0
            have pos0 : (0 : Int) < (k.m : Int) := of_decide_eq_true hpos
            have pos : 0 < k.m := by omega
            have ek : valV kvs (Sum.inl ((Builtin.Int.intBits (k.m : Int) : Nat) : Int)) = valV kvs (Sum.inl ((bl k.m : Nat) : Int)) := by rw [bits_bl]
            refine ⟨_, rfl, _, rfl, _, rfl, d, valV kvs (Sum.inl ((bl k.m : Nat) : Int)), rfl, .inl ⟨kvs, Sum.inl _, .inl hd4, rfl, ek.symm⟩, _, rfl, ?_⟩
            cases e : valV kvs (Sum.inl ((bl k.m : Nat) : Int)) with
            | none =>
              have hnew := hAt4.none e
              refine iteF ?_
              refine ⟨_, rfl, _, _, rfl, rfl, true, congrArg V.bl (decide_eq_true pos0), ?_⟩
              refine ⟨_, rfl, _, rfl, _, rfl, by show 3 ≤ sizeLine; decide, fun t3 ht3 => ?_⟩
              have s3 : Same H' (upd H' t3 (.tup (hdV k))) := same_upd ht3
              have nd3 : d ≠ t3 := ne_of_none hd4 ht3
              have npd : pw ≠ d := npw
              refine ⟨_, rfl, _, rfl, _, rfl, d, _, rfl, .inl ⟨kvs, Sum.inl _, s3 _ _ hd4, rfl, by rw [hAt4.len]; exact small (Nat.le_trans hOk.len (by omega)), rfl⟩, ?_⟩
              have ep : putK kvs (Sum.inl ((Builtin.Int.intBits (k.m : Int) : Nat) : Int)) (V.ref t3) = kvs ++ [(hdK k, .ref t3)] := by
                rw [bits_bl, putK_new _ e]
                rfl
              refine ⟨hs ++ [k], kvs ++ [(hdK k, .ref t3)], _, _, _, _, _, _, rfl, fun z o ez => ?_, ?_, ?_, ?_, hOk.add hk pos hnew⟩
              · rw [upd_ne (ne_of_none ez hd0)]
                exact s3 _ _ (sm4 _ _ ez)
              · rw [upd_ne npd]
                exact s3 _ _ hpw4
              · rw [upd_same, ep]
              · have base1 : HeadsAt (upd H' t3 (.tup (hdV k))) (kvs ++ [(hdK k, .ref t3)]) (hs ++ [k]) := (hAt4.mono fun z xs ez => s3 z _ ez).snoc upd_same
                refine base1.mono fun z xs ez => ?_
                have nz : z ≠ d := ne_of ez (s3 _ _ hd4) (by intro q; cases q)
                exact (upd_ne nz).trans ez
            | some v =>
              obtain ⟨g, hg, eg, tg, rfl, htg⟩ := hAt4.some e
              have hless := xor_less pos (hOk.ok g hg).2 eg.symm
              refine iteT ?_
              refine ⟨fun σ' H2 => ∃ (u : Option V), σ' = [some (.ref a), some (.ref b), some (.ref pw), some (.ref d), some (nV i), some (.ref c), some (nV (k.xor g).m), some (nV (k.xor g).lot), some (bV (k.xor g).s), u, none] ∧ H2 = H',
                fun σ' H2 ⟨u, e1, e2⟩ => ⟨(k.xor g).m, hless.2, k.xor g, u, rfl, e1, e2, hk.turn hOk hg⟩, ?_⟩
              refine ⟨_, rfl, _, rfl, _, rfl, d, _, rfl, .inl ⟨kvs, Sum.inl _, .inl hd4, rfl, (ek.trans e).symm⟩, ?_⟩
              have ht : SqT K H' tg (hdV g) := SqT.of htg
              refine ⟨_, rfl, _, rfl, tg, _, _, nV g.m, rfl, rfl, ht, atI_nat (j := 0) rfl, _, _, rfl, rfl, ?_⟩
              refine ⟨_, rfl, _, rfl, tg, _, _, nV g.lot, rfl, rfl, ht, atI_nat (j := 1) rfl, _, _, rfl, rfl, ?_⟩
              refine ⟨_, rfl, _, rfl, tg, _, _, bV g.s, rfl, rfl, ht, atI_nat (j := 2) rfl, _, _, rfl, rfl, ?_⟩
              refine ⟨_, _, _, rfl, some (.ref tg), ?_, rfl⟩
              show [some (V.ref a), some (V.ref b), some (V.ref pw), some (V.ref d), some (nV i), some (V.ref c), some (V.int (Builtin.bitXor (k.m : Int) (g.m : Int))), some (V.int (Builtin.bitXor (k.lot : Int) (g.lot : Int))), some (V.int (Builtin.bitXor (bI k.s) (bI g.s))), some (V.ref tg), none] = _
              rw [xor_nat, xor_nat, xor_bI]
              rfl
          · have z0 : ¬ (0 : Int) < (k.m : Int) := fun z => hz (decide_eq_true z)
            have m0 : k.m = 0 := by omega
            refine ⟨_, rfl, _, _, rfl, rfl, false, congrArg V.bl (decide_eq_false z0), ?_⟩
            refine ⟨_, rfl, rfl, _, rfl, ite2 (fun h1 => ?_) (fun h1 => ?_)⟩
            · have e1 : k.s = true := bI_one.mp (of_decide_eq_true h1)
              obtain ⟨lp, lo⟩ := odd_of hQ hk.ok m0 e1
              refine ⟨_, rfl, _, rfl, by show 2 ≤ sizeLine; decide, fun p hp => ?_⟩
              have sp : Same H' (upd H' p (.tup [.ref d, nV k.lot])) := same_upd hp
              exact q p d k.lot kvs hs _ (sm4.trans sp) upd_same (sp _ _ hd4) (hAt4.mono fun z xs e => sp z _ e) (.inl ⟨lp, hk.ok.lotLt, lo⟩)
            · have e1 : k.s = false := by
                cases z : k.s with
                | false => rfl
                | true => exact absurd (decide_eq_true (bI_one.mpr z)) h1
              exact ⟨hs, kvs, _, _, _, _, _, _, rfl, sm4, hpw4, hd4, hAt4, hOk.skip hk m0 e1⟩
    · obtain ⟨hs, kvs, v4, v5, v6, v7, v8, v9, rfl, sm, hpw2, hd2, hAt, hOk⟩ := hP
      rw [List.length_map, hpl] at hOk
      refine ⟨_, rfl, by show 2 ≤ sizeLine; decide, fun p hp => ?_⟩
      have sp : Same H2 (upd H2 p (.tup [.ref d, .int 0])) := same_upd hp
      exact q p d 0 kvs hs _ (sm.trans sp) upd_same (sp _ _ hd2) (hAt.mono fun z xs e => sp z _ e) (.inr ⟨rfl, hOk⟩)
end
end Pq

namespace Pq
open PySem L2
theorem HeadsAt.find {H : Hp} : ∀ {kvs : List (Key × V)} {hs : List Hd} {g : Hd}, HeadsAt H kvs hs → (hs.map fun h => bl h.m).Nodup → g ∈ hs → ∃ t, valV kvs (hdK g) = Option.some (.ref t) ∧ H t = Option.some (.tup (hdV g))
  | _, _, _, .nil, _, m => nomatch m
  | kv :: kvs, h :: hs, g, .cons ⟨h1, t, h2, h3⟩ r, nd, m => by
    obtain ⟨n1, n2⟩ := List.nodup_cons.mp nd
    rcases List.mem_cons.mp m with rfl | m
    · exact ⟨t, by rw [valV_pos h1, h2], h3⟩
    · have z : ¬ kv.1 = hdK g := fun e => by
        rw [h1] at e
        have e2 : ((bl h.m : Nat) : Int) = ((bl g.m : Nat) : Int) := Sum.inl.inj e
        exact n1 (List.mem_map.mpr ⟨g, m, by show bl g.m = bl h.m; omega⟩)
      rw [valV_neg z]
      exact HeadsAt.find r n2 m
theorem HeadsAt.keys {H : Hp} {kvs : List (Key × V)} {hs : List Hd} (x : HeadsAt H kvs hs) : kvs.map (·.1) = (hs.map fun h => ((bl h.m : Nat) : Int)).map Sum.inl := by
  unfold HeadsAt at x
  induction x with
  | nil => rfl
  | cons a _ ih => rw [List.map_cons, List.map_cons, List.map_cons, ih, a.1]; rfl
/-! ### the dict of found places -/
def fdK (F : List Nat) : List (Key × V) := F.map fun p : Nat => (Sum.inl (p : Int), V.bl true)
theorem fdK_some (F : List Nat) (q : Nat) : (valV (fdK F) (Sum.inl (q : Int))).isSome = mem F q := by
  unfold mem
  induction F with
  | nil => rfl
  | cons p r ih =>
    show (valV ((Sum.inl (p : Int), V.bl true) :: fdK r) _).isSome = _
    by_cases e : p = q
    · subst e
      rw [valV_pos rfl]
      simp
    · rw [valV_neg (fun z => e (by have z2 : (p : Int) = (q : Int) := Sum.inl.inj z; omega)), ih]
      have : ¬ q = p := fun z => e z.symm
      simp [this]
theorem fdK_snoc {F : List Nat} {q : Nat} (h : q ∉ F) : putK (fdK F) (Sum.inl (q : Int)) (V.bl true) = fdK (F ++ [q]) := by
  have n : valV (fdK F) (Sum.inl (q : Int)) = none := by
    have e := fdK_some F q
    unfold mem at e
    rw [decide_eq_false h] at e
    cases z : valV (fdK F) (Sum.inl (q : Int)) with
    | none => rfl
    | some v => rw [z] at e; cases e
  rw [putK_new _ n]
  unfold fdK
  rw [List.map_append]
  rfl
theorem fdK_keys (F : List Nat) : (fdK F).map (·.1) = (F.map fun p : Nat => (p : Int)).map Sum.inl := by
  unfold fdK
  rw [List.map_map, List.map_map]
  rfl
theorem nV_map (F : List Nat) : F.map nV = (F.map fun p : Nat => (p : Int)).map V.int := by rw [List.map_map]; rfl
section
variable {P : Program} {w : World} {K : PySem.W.Frag} {mg : Str → Option Value} {base : Heap}
/-! ### solution_of -/
abbrev nSolOf : List Str := ["heads", "found", "highest", "mask", "lot", "side", "place"]
theorem scSolOf : FnScope nSolOf ["heads"] (C8.fnScope sSolutionOf) := C8.fnScope_by (by decide +kernel)
def spSolOf (K : PySem.W.Frag) : Sp := fun vs H Q _ => ∃ (d : Addr) (kvs : List (Key × V)) (hs : List Hd), vs = [.ref d] ∧ H d = some (.dK kvs) ∧ HeadsAt H kvs hs ∧ (∀ h ∈ hs, 0 < h.m ∧ h.m < 2 ^ 1000) ∧ (hs.map fun h => bl h.m).Nodup ∧ hs.length ≤ 60 ∧
  ∀ (p : Addr) (F : List Nat) (H' : Hp), Same H H' → TupN K H' p F → Asc 1000 F → (∀ h ∈ hs, SatH h (mem F)) → F.length ≤ 60 → Q (.ref p) H'
theorem ok_solOf {f : Addr} {fd : FuncData} (F : C8.Def K mg "solution_of" sSolutionOf f fd) (b : Binds K fd ["heads"] []) (T : Nm mg) (cB : C8.Cal P w K mg base 1 "bits_of" spBits []) :
    C8.Cal P w K mg base 2 "solution_of" (spSolOf K) [] := by
  refine C8.cal0 F b .nil scSolOf (fun vs H Q E h => ?_) (fun cdv A outer s H vs Q E hr h => ?_)
  · obtain ⟨d, kvs, hs, rfl, _⟩ := h
    rfl
  · obtain ⟨d, kvs, hs, rfl, hd, hAt, hpos, hnd, hlen, q⟩ := h
    have hu := hu_of hr
    refine ⟨_, pss_cons (ps_set (i := 1) scSolOf.nd rfl (.inr rfl) pe_dnewK)
      (pss_cons (ps_for PassesOwn.never rfl (pi_list (pe_callB (call_sortedDI rfl) (by rfl) T.sorted (by decide +kernel) (pa_cons (pv 0) pa_nil))) (pg_name (i := 2) scSolOf.nd rfl (.inl rfl))
        (pss_cons (ps_asg (pe_dget hu (pv 0) (pv 2) (fun _ _ => rfl)) (pg_tup rfl (pgs_cons (pg_name (i := 3) scSolOf.nd rfl (.inl rfl)) (pgs_cons (pg_name (i := 4) scSolOf.nd rfl (.inl rfl)) (pgs_cons (pg_name (i := 5) scSolOf.nd rfl (.inl rfl)) pgs_nil)))))
        (pss_one (ps_if (pt_cmpR op_eq (pe_op op_mod (pe_op op_add (pv 5) (pe_callB call_len_seq (by rfl) T.len PySem.boot_len (pa_cons
            (pe_lc (own := [("place", 6)]) (g := gName 6) rfl scSolOf.nd (pi_list (C8.pe_c cB hr (by decide) (by rfl) (pa_cons (pv 3) pa_nil)))
              (blkOk_by (own := [("place", 6)]) (N := nSolOf) (sc := C8.fnScope sSolutionOf) (by decide +kernel))
              (fun _ _ _ _ _ => pg_name (i := 6) scSolOf.nd rfl (Or.inl rfl) (Or.inr rfl))
              (fun _ _ _ _ _ => pts_one (pt_cmp (pc_din hu (pv 6) (pv 1))))
              (fun _ _ _ _ _ => pv 6)) pa_nil))) pe_int) pe_int (nomark _))
          (pss_one (ps_dput hu (pv 1) (pe_op op_sub (pv 2) pe_int) pe_bl rfl)) pss_nil))))
      (pss_one (ps_ret (pe_callTy call_tuple_of (by rfl) T.tuple (by decide +kernel) (pa_cons (pe_callB (call_sortedDI rfl) (by rfl) T.sorted (by decide +kernel) (pa_cons (pv 1) pa_nil)) pa_nil))))), ?_⟩
    intro fd hfd
    have s1 : Same H (upd H fd (.dK [])) := same_upd hfd
    refine ⟨_, rfl, d, kvs, _, rfl, .inl (s1 _ _ hd), hAt.keys, by rw [List.length_map]; omega, fun ys p hperm hsrt hp => ?_⟩
    obtain ⟨gs, hg, eg⟩ := perm_map_inv hperm
    have hgm : ∀ h, h ∈ gs ↔ h ∈ hs := fun h => hg.mem_iff
    have hgl : gs.length = hs.length := hg.length_eq
    have gnd : (gs.map fun h => bl h.m).Nodup := (hg.map _).symm.nodup hnd
    have up : ∀ (i j : Nat) (x y : Hd), gs[i]? = some x → gs[j]? = some y → i < j → bl x.m < bl y.m := fun i j x y hx hy hij => by
      obtain ⟨h1, e1⟩ := List.getElem?_eq_some_iff.mp hx
      obtain ⟨h2, e2⟩ := List.getElem?_eq_some_iff.mp hy
      have le : ((bl x.m : Nat) : Int) ≤ ((bl y.m : Nat) : Int) := by
        rw [← eg] at hsrt
        have := (List.pairwise_map.mp hsrt)
        have := List.pairwise_iff_getElem.mp this i j h1 h2 hij
        rw [e1, e2] at this
        exact this
      have ne : bl x.m ≠ bl y.m := by
        have := List.pairwise_iff_getElem.mp gnd i j (by rw [List.length_map]; exact h1) (by rw [List.length_map]; exact h2) hij
        rw [List.getElem_map, List.getElem_map, e1, e2] at this
        exact this
      omega
    have np : fd ≠ p := fun e => by
      rw [← e, upd_same] at hp
      cases hp
    have s2 : Same H (upd (upd H fd (.dK [])) p (.lst (ys.map V.int))) := s1.trans (same_upd hp)
    have eys : ys.map V.int = gs.map fun h => nV (bl h.m) := by rw [← eg, List.map_map]; rfl
    rw [eys] at s2 ⊢
    refine ⟨p, rfl, ⟨_, SqL.of upd_same⟩, ?_⟩
    refine for_it (walk_list (xs := gs.map fun h => nV (bl h.m))) (fun i σ H' => ∃ F v2 v3 v4 v5, σ = [some (.ref d), some (.ref fd), v2, v3, v4, v5, none] ∧ Same H H' ∧ H' p = some (.lst (gs.map fun h => nV (bl h.m))) ∧ H' fd = some (.dK (fdK F)) ∧ FndOk (gs.take i) F)
      ⟨[], none, none, none, none, rfl, s2, upd_same, by rw [upd_ne np, upd_same]; rfl, .nil⟩ (fun i σ H' _ ⟨_, _, _, _, _, _, _, e, _⟩ => SqL.of e) (fun i x σ H2 H3 hi hP hY => ?_) (fun σ H2 hP => ?_)
    · obtain ⟨G, v2, v3, v4, v5, rfl, sm, hp2, hf2, hF⟩ := hP
      obtain ⟨rfl, hx⟩ := hY
      obtain ⟨g, hgi, rfl⟩ := map_get hx
      have hgh : g ∈ hs := (hgm g).mp (get_mem hgi)
      obtain ⟨t, hv, ht⟩ := (hAt.mono fun z xs e => sm z _ e).find hnd hgh
      obtain ⟨gp, g1000⟩ := hpos g hgh
      have upg : ∀ h ∈ gs.take i, bl h.m < bl g.m := fun h hm => by
        obtain ⟨j, hj⟩ := List.getElem?_of_mem hm
        rw [List.getElem?_take] at hj
        split at hj
        · exact up j i h g hj hgi (by assumption)
        · cases hj
      have glen : G.length ≤ 60 := by
        have := hF.len
        rw [List.length_take] at this
        omega
      refine ⟨_, rfl, _, rfl, d, _, rfl, .inl ⟨kvs, hdK g, .inl (sm _ _ hd), rfl, hv.symm⟩, ?_⟩
      refine ⟨t, _, rfl, SqT.of ht, rfl, _, _, rfl, _, _, rfl, _, _, rfl, rfl, ?_⟩
      -- the places of the mask that are found
      refine ⟨_, rfl, _, rfl, g.m, 1000, rfl, g1000, by decide, fun B H4 s4 hB => ?_⟩
      refine ⟨B, rfl, ⟨_, SqL.of hB⟩, fun D hD => ?_⟩
      refine lc_it (walk_list (xs := (bits 1000 g.m).map nV)) (LcP H4 D fun j => (((bits 1000 g.m).take j).filter (mem G)).map nV) (lcp_0 hD rfl) (fun j H5 _ k => SqL.of (k.1 _ _ hB)) (fun j y H5 H6 hj k hy => ?_) (fun H5 k => ?_)
      · obtain ⟨rfl, hy⟩ := hy
        obtain ⟨n, hn, rfl⟩ := map_get hy
        refine ⟨rfl, ?_⟩
        refine ⟨_, rfl, _, rfl, fd, _, rfl, .inl ⟨fdK G, Sum.inl (n : Int), .inl (k.1 _ _ (s4 _ _ hf2)), rfl, rfl⟩, _, rfl, ?_⟩
        rw [fdK_some]
        cases e : mem G n with
        | true =>
          refine iteT ?_
          exact ⟨_, rfl, lcp_add hD k (Same.refl _) (by rw [take_next hn, List.filter_append, List.map_append]; simp [e]) (by rw [List.length_map]; exact small (Nat.le_trans (List.length_filter_le ..) (take_len (bits_asc 1000 g.m).len)))⟩
        | false =>
          refine iteF ?_
          exact lcp_skip k (Same.refl _) (by rw [take_next hn, List.filter_append]; simp [e])
      · rw [List.length_map] at k
        have eD := lcp_end k (congrArg (fun l => (List.filter (mem G) l).map nV) List.take_length)
        have s5 : Same H H5 := sm.trans (s4.trans k.1)
        have hf5 := k.1 _ _ (s4 _ _ hf2)
        have hp5 := k.1 _ _ (s4 _ _ hp2)
        refine ⟨D, _, rfl, .inl (SqL.of eD), _, _, rfl, rfl, _, _, rfl, rfl, (by show (0 : Int) < 2; decide), rfl, _, rfl, ?_⟩
        have hv2 : (bI g.s + (((((bits 1000 g.m).filter (mem G)).map nV).length : Nat) : Int)) % 2 = bI (g.s ^^ par 1000 g.m.testBit (mem G)) := by
          rw [List.length_map, ← bits_par g.m g1000, ← bI_xor, ← lp_filter]
          omega
        have htk : gs.take (i + 1) = gs.take i ++ [g] := take_next hgi
        refine ite2 (fun h1 => ?_) (fun h1 => ?_)
        · have e1 : (g.s ^^ par 1000 g.m.testBit (mem G)) = true := by
            have z := of_decide_eq_true h1
            have z2 : (V.int (bI (g.s ^^ par 1000 g.m.testBit (mem G)))) = V.int 1 := by rw [← hv2]; exact z
            exact bI_one.mp z2
          have F2 := hF.add gp g1000 upg e1
          have hnot : bl g.m - 1 ∉ G := fun m => by
            have := hF.out gp upg _ m
            omega
          have eb : ((bl g.m : Nat) : Int) - 1 = ((bl g.m - 1 : Nat) : Int) := by
            have : 0 < bl g.m := by rw [bl_pos gp]; omega
            omega
          refine ⟨_, rfl, _, rfl, _, _, rfl, rfl, fd, _, rfl, .inl ⟨fdK G, Sum.inl _, hf5, rfl, by unfold fdK; rw [List.length_map]; exact small (by omega), rfl⟩, ?_⟩
          refine ⟨G ++ [bl g.m - 1], _, _, _, _, rfl, fun z o ez => ?_, ?_, ?_, by rw [htk]; exact F2⟩
          · rw [upd_ne (ne_of_none ez hfd)]
            exact s5 _ _ ez
          · rw [upd_ne np.symm]
            exact hp5
          · rw [upd_same, eb, fdK_snoc hnot]
        · have e1 : (g.s ^^ par 1000 g.m.testBit (mem G)) = false := by
            cases z : (g.s ^^ par 1000 g.m.testBit (mem G)) with
            | false => rfl
            | true =>
              rw [z] at hv2
              exact absurd (decide_eq_true (congrArg V.int hv2)) h1
          exact ⟨G, _, _, _, _, rfl, s5, hp5, hf5, by rw [htk]; exact hF.skip e1⟩
    · obtain ⟨G, v2, v3, v4, v5, rfl, sm, hp2, hf2, hF⟩ := hP
      rw [List.length_map, List.take_length] at hF
      have glen : G.length ≤ 60 := by
        have := hF.len
        omega
      refine ⟨_, rfl, fd, fdK G, _, rfl, .inl hf2, fdK_keys G, by rw [List.length_map]; omega, fun ys2 p2 hperm2 hsrt2 hp2' => ?_⟩
      have e2 := sorted_nat hF.asc.1 hperm2 hsrt2
      have s3 : Same H2 (upd H2 p2 (.lst (ys2.map V.int))) := same_upd hp2'
      refine ⟨p2, _, rfl, .inl ⟨SqL.of upd_same, fun l hl => ?_⟩⟩
      have s4 := same_upd (o := .tup (ys2.map V.int)) hl
      refine q l G _ ((sm.trans s3).trans s4) ?_ hF.asc (fun h hm => hF.sat h ((hgm h).mpr hm)) glen
      rw [e2, ← nV_map]
      exact SqT.of upd_same
end
end Pq

namespace Pq
open PySem L2
/-- a dict comprehension over a walk -/
theorem dc_it {J : It} {n : Nat} {G : Hp → Prop} {Y : Nat → Hp → V → Hp → Prop} (wk : Walk J n G Y) {g : TG} {tt : TT} {tk tv : TE} {vs : List Nat} {σ : St} {H1 : Hp} {D : Addr} {Qd : Hp → Prop} (Pv : Nat → Hp → Prop)
    (h0 : Pv 0 (upd H1 D (.dK []))) (hG : ∀ i H, i ≤ n → Pv i H → G H)
    (hs : ∀ i x H H', i < n → Pv i H → Y i H x H' → g x (wipe σ vs) H' fun σ2 H2 => wipe σ2 vs = wipe σ vs ∧ tt σ2 H2 fun b H3 =>
      if b = true then tk σ2 H3 fun y H4 => tv σ2 H4 fun z H5 => ∃ kvs k, y = kV k ∧ H5 D = some (.dK kvs) ∧ kvs.length < sizeLine ∧ Pv (i + 1) (upd H5 D (.dK (putK kvs k z))) else Pv (i + 1) H3)
    (hd : ∀ H, Pv n H → Qd H) :
    ∃ W : Nat → Nat → Hp → Prop, (∃ m, W 0 m (upd H1 D (.dK []))) ∧ ∀ i m H, W i m H → (J.stop i H ∧ Qd H) ∨ (J.go i H ∧ ∃ Nx : Hp → Prop, (∀ H', Nx H' → ∃ m', m' < m ∧ W (i + 1) m' H') ∧
      ∀ x H', J.yld i H x H' → g x (wipe σ vs) H' fun σ2 H2 => wipe σ2 vs = wipe σ vs ∧ tt σ2 H2 fun b H3 =>
        if b = true then tk σ2 H3 fun y H4 => tv σ2 H4 fun z H5 => ∃ kvs k, y = kV k ∧ H5 D = some (.dK kvs) ∧ kvs.length < sizeLine ∧ Nx (upd H5 D (.dK (putK kvs k z))) else Nx H3) := by
  refine ⟨fun i m H => (m = n - i ∧ i ≤ n) ∧ Pv i H, ⟨n, ⟨rfl, Nat.zero_le _⟩, h0⟩, ?_⟩
  rintro i m H ⟨⟨rfl, hi⟩, p⟩
  rcases Nat.lt_or_ge i n with hlt | hge
  · exact .inr ⟨wk.goes i H hlt (hG i H hi p), Pv (i + 1), fun H' p' => ⟨n - (i + 1), by omega, ⟨rfl, hlt⟩, p'⟩, fun x H' y => hs i x H H' hlt p (wk.yields i H x H' hlt (hG i H hi p) y)⟩
  · have e : i = n := Nat.le_antisymm hi hge
    subst e
    exact .inl ⟨wk.stops H (hG i H hi p), hd H p⟩
/-! ### parts of the text -/
def stAt (l : List Stmt) (i : Nat) : Stmt := l.getD i (.Pass ⟨0, 0, 0, 0⟩)
def asgVal : Stmt → Expr
  | .Assign _ v _ => v
  | .Return (some v) _ => v
  | .If c _ _ _ => c
  | _ => .Constant .none 0 ⟨0, 0, 0, 0⟩
def lcScope : Expr → Scope
  | .ListComp _ _ sc _ => sc
  | .Compare (.ListComp _ _ sc _) _ _ _ => sc
  | _ => { kind := .function, names := [], isGenerator := false, isCoroutine := false }
def wordS (b : Bool) : Str := if b then "solution" else "odd"
/-- what a value tells holds -/
def TellOk (rows : List (List Nat)) (sides : List Bool) (b : Bool) (l : List Nat) : Prop := if b then Sat rows sides (mem l) else OddLot rows sides l
/-- what a value tells is well formed -/
def TellFit (rows : List (List Nat)) (b : Bool) (l : List Nat) : Prop := l.length ≤ 60 ∧ Asc 1000 l ∧ (b = false → Asc rows.length l)
/-- a pair of a word and a tuple stands at p -/
def PairAt (K : PySem.W.Frag) (H : Hp) (p : Addr) (b : Bool) (l : List Nat) : Prop := ∃ t : Addr, SqT K H p [.str (wordS b), .ref t] ∧ TupN K H t l
theorem PairAt.same {K : PySem.W.Frag} {H H' : Hp} {p : Addr} {b : Bool} {l : List Nat} (h : PairAt K H p b l) (s : Same H H') : PairAt K H' p b l :=
  let ⟨t, h1, h2⟩ := h; ⟨t, Same.tup s h1, h2.same s⟩
section
variable {P : Program} {w : World} {K : PySem.W.Frag} {mg : Str → Option Value} {base : Heap}
/-! ### solved -/
theorem scSolved : FnScope ["rows", "sides", "heads", "lot"] ["rows", "sides"] (C8.fnScope sSolved) := C8.fnScope_by (by decide +kernel)
def spSolved (K : PySem.W.Frag) : Sp := fun vs H Q _ => ∃ (a b : Addr) (rows : List (List Nat)) (sides : List Bool), vs = [.ref a, .ref b] ∧ RowsAt K H a rows ∧ TupB K H b sides ∧ Quest 1000 rows sides ∧ rows.length ≤ 60 ∧
  ∀ (p : Addr) (bb : Bool) (l : List Nat) (H' : Hp), Same H H' → PairAt K H' p bb l → TellFit rows bb l → TellOk rows sides bb l → Q (.ref p) H'
theorem ok_solved {f : Addr} {fd : FuncData} (F : C8.Def K mg "solved" sSolved f fd) (b : Binds K fd ["rows", "sides"] []) (T : Nm mg) (cR : C8.Cal P w K mg base 3 "require_question" (spRequire K) []) (cS : C8.Cal P w K mg base 2 "swept" (spSwept K) [])
    (cB : C8.Cal P w K mg base 1 "bits_of" spBits []) (cO : C8.Cal P w K mg base 2 "solution_of" (spSolOf K) []) : C8.Cal P w K mg base 4 "solved" (spSolved K) [] := by
  refine C8.cal0 F b .nil scSolved (fun vs H Q E h => ?_) (fun cdv A outer s H vs Q E hr h => ?_)
  · obtain ⟨a, b, rows, sides, rfl, _⟩ := h
    rfl
  · obtain ⟨a, b, rows, sides, rfl, ha, hb, hQ, hlen, q⟩ := h
    refine ⟨_, pss_cons (ps_expr (C8.pe_c cR hr (by decide) (by rfl) (pa_cons (pv 0) (pa_cons (pv 1) pa_nil))))
      (pss_cons (ps_asg (C8.pe_c cS hr (by decide) (by rfl) (pa_cons (pv 0) (pa_cons (pv 1) pa_nil))) (pg_tup rfl (pgs_cons (pg_name (i := 2) scSolved.nd rfl (.inl rfl)) (pgs_cons (pg_name (i := 3) scSolved.nd rfl (.inl rfl)) pgs_nil))))
      (pss_cons (ps_if (pt_cmpR op_gt (pv 3) pe_int (nomark _))
        (pss_one (ps_ret (pe_tup (pa_cons (C8.pe_gc (by rfl) T.odd) (pa_cons (pe_callTy call_tuple_of (by rfl) T.tuple (by decide +kernel) (pa_cons (C8.pe_c cB hr (by decide) (by rfl) (pa_cons (pv 3) pa_nil)) pa_nil)) pa_nil))))) pss_nil)
      (pss_one (ps_ret (pe_tup (pa_cons (C8.pe_gc (by rfl) T.solution) (pa_cons (C8.pe_c cO hr (by decide) (by rfl) (pa_cons (pv 2) pa_nil)) pa_nil))))))), ?_⟩
    refine ⟨_, rfl, _, rfl, a, b, rows, sides, rfl, ha, hb, hQ, hlen, fun H1 s1 => ?_⟩
    refine ⟨_, rfl, _, rfl, a, b, rows, sides, rfl, ha.same s1, hb.same s1, hQ, hlen, fun p d lot kvs hs H2 s2 hp hd hAt hOk => ?_⟩
    refine ⟨p, _, rfl, SqT.of hp, rfl, _, _, rfl, _, _, rfl, rfl, ?_⟩
    refine ⟨_, rfl, _, _, rfl, rfl, _, rfl, ite2 (fun h1 => ?_) (fun h1 => ?_)⟩
    · have pos : (0 : Int) < (lot : Int) := of_decide_eq_true h1
      rcases hOk with ⟨_, lt, lo⟩ | ⟨z, _⟩
      · refine ⟨_, rfl, lot, rows.length, rfl, lt, by omega, fun B H3 s3 hB => ?_⟩
        refine ⟨B, _, rfl, .inl ⟨SqL.of hB, fun t ht => ⟨by show 2 ≤ sizeLine; decide, fun r hr2 => ?_⟩⟩⟩
        have s4 := same_upd (o := .tup ((bits rows.length lot).map nV)) ht
        have s5 := same_upd (o := .tup [.str "odd", .ref t]) hr2
        have hA := bits_asc rows.length lot
        exact q r false (bits rows.length lot) _ ((((s1.trans s2).trans s3).trans s4).trans s5) ⟨t, SqT.of upd_same, TupN.same (SqT.of upd_same) s5⟩ ⟨Nat.le_trans hA.len hlen, hA.mono (by omega), fun _ => hA⟩ lo
      · omega
    · have z : ¬ (0 : Int) < (lot : Int) := fun z => h1 (decide_eq_true z)
      rcases hOk with ⟨lp, _⟩ | ⟨_, hH⟩
      · omega
      · refine ⟨_, rfl, d, kvs, hs, rfl, hd, hAt, fun h hm => ⟨(hH.ok h hm).2, (hH.ok h hm).1.mLt⟩, hH.nd, Nat.le_trans hH.len hlen, fun t G H3 s3 hG hA hsat hl => ?_⟩
        refine ⟨by show 2 ≤ sizeLine; decide, fun r hr2 => ?_⟩
        have s5 := same_upd (o := .tup [.str "solution", .ref t]) hr2
        exact q r true G _ (((s1.trans s2).trans s3).trans s5) ⟨t, SqT.of upd_same, hG.same s5⟩ ⟨hl, hA, fun e => by cases e⟩ (hH.solves hQ hsat)
/-! ### is_solution -/
abbrev nIsSol : List Str := ["rows", "sides", "places", "known", "counts", "place", "row", "count", "side"]
theorem scIsSol : FnScope nIsSol ["rows", "sides", "places"] (C8.fnScope sIsSolution) := C8.fnScope_by (by decide +kernel)
def spIsSol (K : PySem.W.Frag) : Sp := fun vs H Q _ => ∃ (a b c : Addr) (rows : List (List Nat)) (sides : List Bool) (l : List Nat), vs = [.ref a, .ref b, .ref c] ∧ RowsAt K H a rows ∧ TupB K H b sides ∧ TupN K H c l ∧ Quest 1000 rows sides ∧ rows.length ≤ 60 ∧ Asc 1000 l ∧
  ∀ (v : Bool) (H' : Hp), Same H H' → (v = true ↔ Sat rows sides (mem l)) → Q (.bl v) H'
abbrev tCount (K : PySem.W.Frag) : TE := tCB (fun xs H Q => ∃ p ys, xs = [.ref p] ∧ (SqL K H p ys ∨ SqT K H p ys) ∧ Q (.int ys.length) H) (tCons (tLc (iTup K (tVar 6)) (gName 5) (tB (tDIn (tVar 5) (tVar 3))) (tVar 5) [5]) tNil)
theorem ok_isSol {f : Addr} {fd : FuncData} (F : C8.Def K mg "is_solution" sIsSolution f fd) (b : Binds K fd ["rows", "sides", "places"] []) (T : Nm mg) : C8.Cal P w K mg base 1 "is_solution" (spIsSol K) [] := by
  refine C8.cal0 F b .nil scIsSol (fun vs H Q E h => ?_) (fun cdv A outer s H vs Q E hr h => ?_)
  · obtain ⟨a, b, c, rows, sides, l, rfl, _⟩ := h
    rfl
  · obtain ⟨a, b, c, rows, sides, l, rfl, ⟨ps, ha, hrows⟩, hb, hc, hQ, hlen, hA, q⟩ := h
    have hpl : ps.length = rows.length := hrows.len
    have hu := hu_of hr
    refine ⟨_, pss_cons (ps_set (i := 3) scIsSol.nd rfl (.inr rfl) (pe_dc (own := [("place", 5)]) (g := gName 5) rfl scIsSol.nd (pi_tup (pv 2))
          (blkOk_by (own := [("place", 5)]) (N := nIsSol) (sc := C8.fnScope sIsSolution) (by decide +kernel))
          (fun _ _ _ _ _ => pg_name (i := 5) scIsSol.nd rfl (Or.inl rfl) (Or.inr rfl)) (fun _ _ _ _ _ => pts_nil) (fun _ _ _ _ _ => pv 5) (fun _ _ _ _ _ => pe_bl)))
      (pss_cons (ps_setLc (i := 4) (own := [("row", 6)]) (g := gName 6) (te := tCount K) rfl scIsSol.nd rfl rfl (sw_true rfl rfl rfl (by decide +kernel)) (pi_tup (pv 0))
          (blkOk_by (own := [("row", 6)]) (N := nIsSol) (sc := C8.fnScope sIsSolution) (by decide +kernel))
          (fun _ _ _ _ _ => pg_name (i := 6) scIsSol.nd rfl (Or.inl rfl) (Or.inr rfl)) (fun _ _ _ _ _ => pts_nil)
          (fun _ _ _ _ _ => pe_callB call_len_seq (by rfl) T.len PySem.boot_len (pa_cons
            (pe_lc (own := [("place", 5)]) (g := gName 5) rfl scIsSol.nd (pi_tup (pv 6))
              (blkOk_by (own := [("place", 5)]) (N := nIsSol) (sc := relS (lcScope (asgVal (stAt (C8.fnBody sIsSolution) 1))) (C8.fnScope sIsSolution)) (by decide +kernel))
              (fun _ _ _ _ _ => pg_name (i := 5) scIsSol.nd rfl (Or.inl rfl) (Or.inr rfl))
              (fun _ _ _ _ _ => pts_one (pt_cmp (pc_din hu (pv 5) (pv 3))))
              (fun _ _ _ _ _ => pv 5)) pa_nil)))
      (pss_one (ps_ret (pe_callB (cr_all rfl) (by rfl) T.all (by decide +kernel) (pa_cons
        (pe_lc (own := [("count", 7), ("side", 8)]) (g := gTup K 2 (gCons (gName 7) (gCons (gName 8) gNil))) rfl scIsSol.nd (pi_zipLT (by rfl) T.zip (pa_cons (pv 4) (pa_cons (pv 1) pa_nil)))
          (blkOk_by (own := [("count", 7), ("side", 8)]) (N := nIsSol) (sc := C8.fnScope sIsSolution) (by decide +kernel))
          (fun _ _ _ _ _ => pg_tup rfl (pgs_cons (pg_name (i := 7) scIsSol.nd rfl (Or.inl rfl) (Or.inr rfl)) (pgs_cons (pg_name (i := 8) scIsSol.nd rfl (Or.inl rfl) (Or.inr rfl)) pgs_nil)))
          (fun _ _ _ _ _ => pts_nil)
          (fun _ _ _ _ _ => pe_cmpR op_eq (pe_op op_mod (pv 7) pe_int) (pv 8) (nomark _))) pa_nil))))), ?_⟩
    -- known
    refine ⟨_, rfl, c, rfl, ⟨_, hc⟩, fun kd hkd => ?_⟩
    refine dc_it (walk_tup (xs := l.map nV)) (fun i H' => Same H H' ∧ H' kd = some (.dK (fdK (l.take i)))) ⟨same_upd hkd, upd_same⟩ (fun i H' _ p => Same.tup p.1 hc) (fun i x H2 H3 hi p y => ?_) (fun H2 p => ?_)
    · obtain ⟨rfl, hx⟩ := y
      obtain ⟨n, hn, rfl⟩ := map_get hx
      refine ⟨rfl, ?_⟩
      refine ⟨_, rfl, fdK (l.take i), Sum.inl (n : Int), rfl, p.2, by unfold fdK; rw [List.length_map]; exact small (take_len hA.len), fun z o ez => ?_, ?_⟩
      · rw [upd_ne (ne_of_none ez hkd)]
        exact p.1 _ _ ez
      · have hnot : n ∉ l.take i := fun m => by
          have h1 : (l.take (i + 1)).Nodup := (hA.take (i + 1)).nd
          rw [take_next hn] at h1
          exact (List.nodup_append.mp h1).2.2 n m n (List.mem_singleton.mpr rfl) rfl
        rw [upd_same, fdK_snoc hnot, ← take_next hn]
    · have hk2 : H2 kd = some (.dK (fdK l)) := by
        have := p.2
        rw [List.length_map, List.take_length] at this
        exact this
      have s2 : Same H H2 := p.1
      -- counts
      refine ⟨_, rfl, a, rfl, ⟨_, Same.tup s2 ha⟩, fun D hD => ?_⟩
      refine lc_it (walk_tup (xs := ps.map V.ref)) (LcP H2 D fun i => (rows.take i).map fun r => V.int ((r.filter (mem l)).length : Int)) (lcp_0 hD rfl) (fun i H3 _ p => Same.tup p.1 (Same.tup s2 ha)) (fun i x H3 H4 hi p3 y => ?_) (fun H3 p3 => ?_)
      · obtain ⟨rfl, hx⟩ := y
        obtain ⟨d, hd, rfl⟩ := map_get hx
        obtain ⟨r, hr1, hdr⟩ := hrows.get hd
        have hAr := hQ.asc r (get_mem hr1)
        have hdr4 : SqT K H4 d (r.map nV) := hdr.same (s2.trans p3.1)
        refine ⟨rfl, ?_⟩
        refine ⟨_, rfl, d, rfl, ⟨_, hdr4⟩, fun D2 hD2 => ?_⟩
        refine lc_it (walk_tup (xs := r.map nV)) (LcP H4 D2 fun j => ((r.take j).filter (mem l)).map nV) (lcp_0 hD2 rfl) (fun j H5 _ k => Same.tup k.1 hdr4) (fun j x H5 H6 hj k y => ?_) (fun H5 k => ?_)
        · obtain ⟨rfl, hx⟩ := y
          obtain ⟨n, hn, rfl⟩ := map_get hx
          refine ⟨rfl, ?_⟩
          refine ⟨_, rfl, _, rfl, kd, _, rfl, .inl ⟨fdK l, Sum.inl (n : Int), .inl (k.1 _ _ (p3.1 _ _ hk2)), rfl, rfl⟩, _, rfl, ?_⟩
          rw [fdK_some]
          cases e : mem l n with
          | true =>
            refine iteT ?_
            exact ⟨_, rfl, lcp_add hD2 k (Same.refl _) (by rw [take_next hn, List.filter_append, List.map_append]; simp [e]) (by rw [List.length_map]; exact small (Nat.le_trans (List.length_filter_le ..) (take_len hAr.len)))⟩
          | false =>
            refine iteF ?_
            exact lcp_skip k (Same.refl _) (by rw [take_next hn, List.filter_append]; simp [e])
        · rw [List.length_map] at k
          have eD := lcp_end k (congrArg (fun z => (List.filter (mem l) z).map nV) List.take_length)
          refine ⟨D2, _, rfl, .inl (SqL.of eD), ?_⟩
          exact lcp_addE hD p3 k.1 (by rw [take_next hr1, List.map_append]; rfl) (by rw [List.length_map]) (by rw [List.length_map]; exact small (take_len (Nat.le_trans hlen (by decide))))
      · rw [List.length_map, hpl] at p3
        have eC : H3 D = some (.lst (rows.map fun r => V.int ((r.filter (mem l)).length : Int))) := lcp_end p3 (congrArg (List.map fun r => V.int ((List.filter (mem l) r).length : Int)) List.take_length)
        have s3 := s2.trans p3.1
        have hb3 : SqT K H3 b (sides.map bV) := hb.same s3
        -- all of zip
        refine ⟨_, rfl, _, rfl, D, b, _, _, rfl, SqL.of eC, hb3, fun D2 hD2 => ?_⟩
        have hzl : (rows.zip sides).length = rows.length := by rw [List.length_zip, hQ.len, Nat.min_self]
        refine lc_it (walk_zipLT (xs := rows.map fun r => V.int ((r.filter (mem l)).length : Int)) (ys := sides.map bV) (by rw [List.length_map, List.length_map, hQ.len])) (LcP H3 D2 fun i => ((rows.zip sides).take i).map fun z => V.bl (decide (lp z.1 (mem l) = z.2))) (lcp_0 hD2 rfl)
          (fun i H4 _ k => ⟨SqL.of (k.1 _ _ eC), Same.tup k.1 hb3⟩) (fun i x H4 H5 hi k y => ?_) (fun H4 k => ?_)
        · obtain ⟨t, x, y, rfl, ht, rfl, hx, hy⟩ := y
          obtain ⟨r, hr1, rfl⟩ := map_get hx
          obtain ⟨sd, hs1, rfl⟩ := map_get hy
          have hz : (rows.zip sides)[i]? = some (r, sd) := by rw [List.getElem?_zip_eq_some]; exact ⟨hr1, hs1⟩
          refine ⟨t, _, rfl, SqT.of upd_same, rfl, _, _, rfl, _, _, rfl, rfl, rfl, ?_⟩
          refine ⟨_, rfl, _, _, rfl, rfl, (by show (0 : Int) < 2; decide), _, rfl, rfl, ?_⟩
          refine lcp_addE hD2 k (same_upd ht) (by rw [take_next hz, List.map_append]; rfl) ?_ (by rw [List.length_map]; exact small (take_len (by rw [hzl]; omega)))
          show V.bl (decide (V.int (((List.filter (mem l) r).length : Int) % 2) = bV sd)) = V.bl (decide (lp r (mem l) = sd))
          rw [lp_filter]
          exact congrArg V.bl (decide_eq_decide.mpr ⟨fun e => bI_inj.mp (V.int.inj e), fun e => congrArg V.int (bI_inj.mpr e)⟩)
        · rw [List.length_map, ← hzl] at k
          have eD := lcp_end k (congrArg (List.map fun z : List Nat × Bool => V.bl (decide (lp z.1 (mem l) = z.2))) List.take_length)
          refine ⟨D2, (rows.zip sides).map fun z => decide (lp z.1 (mem l) = z.2), rfl, sqL_eq eD (by rw [List.map_map]; rfl), ?_⟩
          refine q _ H4 (s3.trans k.1) ?_
          rw [List.all_eq_true, ← satL_zip hQ.len]
          exact ⟨fun h z hz => of_decide_eq_true (h _ (List.mem_map.mpr ⟨z, hz, rfl⟩)), fun h v hv => by
            obtain ⟨z, hz, rfl⟩ := List.mem_map.mp hv
            exact decide_eq_true (h z hz)⟩
end
end Pq

namespace Pq
open PySem L2
/-! ### a dict of counts -/
def cntK (ks : List Nat) (c : Nat → Nat) : List (Key × V) := ks.map fun p : Nat => (Sum.inl (p : Int), nV (c p))
theorem cntK_val (ks : List Nat) (c : Nat → Nat) (q : Nat) : valV (cntK ks c) (Sum.inl (q : Int)) = if q ∈ ks then some (nV (c q)) else none := by
  induction ks with
  | nil => rfl
  | cons p r ih =>
    show valV ((Sum.inl (p : Int), nV (c p)) :: cntK r c) _ = _
    by_cases e : p = q
    · subst e
      rw [valV_pos rfl, if_pos (List.mem_cons_self ..)]
    · rw [valV_neg (fun z => e (by have z2 : (p : Int) = (q : Int) := Sum.inl.inj z; omega)), ih]
      have : q ∈ p :: r ↔ q ∈ r := ⟨fun m => (List.mem_cons.mp m).resolve_left fun z => e z.symm, List.mem_cons_of_mem _⟩
      by_cases m : q ∈ r
      · rw [if_pos m, if_pos (this.mpr m)]
      · rw [if_neg m, if_neg fun z => m (this.mp z)]
theorem cntK_put (ks : List Nat) (c : Nat → Nat) (q : Nat) : putK (cntK ks c) (Sum.inl (q : Int)) (nV (c q + 1)) = cntK (if q ∈ ks then ks else ks ++ [q]) (fun p => if p = q then c q + 1 else c p) := by
  by_cases m : q ∈ ks
  · rw [if_pos m]
    unfold putK
    rw [valV_any, cntK_val, if_pos m, if_pos (show (some (nV (c q))).isSome = true from rfl)]
    unfold cntK
    rw [List.map_map]
    refine List.map_congr_left fun p hp => ?_
    show (if (Sum.inl (p : Int) : Key) = Sum.inl (q : Int) then ((Sum.inl (p : Int) : Key), nV (c q + 1)) else (Sum.inl (p : Int), nV (c p))) = _
    by_cases e : p = q
    · subst e
      rw [if_pos rfl]
      dsimp only
      rw [if_pos rfl]
    · dsimp only
      rw [if_neg (fun z => e (by have z2 : (p : Int) = (q : Int) := Sum.inl.inj z; omega)), if_neg e]
  · rw [if_neg m, putK_new _ (by rw [cntK_val, if_neg m])]
    unfold cntK
    rw [List.map_append]
    refine congr (congrArg _ (List.map_congr_left fun p hp => ?_)) ?_
    · dsimp only
      rw [if_neg (show ¬ p = q from fun e => m (e ▸ hp))]
    · show [((Sum.inl (q : Int) : Key), nV (c q + 1))] = [(Sum.inl (q : Int), nV (if q = q then c q + 1 else c q))]
      rw [if_pos rfl]
/-- the keys ks are the members of fl -/
structure CntOk (ks fl : List Nat) : Prop where
  nd : ks.Nodup
  iff : ∀ p, p ∈ ks ↔ p ∈ fl
theorem CntOk.nil : CntOk [] [] := ⟨List.nodup_nil, fun _ => Iff.rfl⟩
theorem CntOk.snoc {ks fl : List Nat} (h : CntOk ks fl) (q : Nat) : CntOk (if q ∈ ks then ks else ks ++ [q]) (fl ++ [q]) := by
  by_cases m : q ∈ ks
  · rw [if_pos m]
    refine ⟨h.nd, fun p => ?_⟩
    rw [List.mem_append, List.mem_singleton, h.iff]
    exact ⟨.inl, fun z => z.elim id fun e => e ▸ (h.iff q).mp m⟩
  · rw [if_neg m]
    refine ⟨nd_snoc h.nd m, fun p => ?_⟩
    rw [List.mem_append, List.mem_append, h.iff]
theorem nodup_len {N : Nat} {ks : List Nat} (h : ks.Nodup) (k : ∀ p ∈ ks, p < N) : ks.length ≤ N := by
  have a : Asc N ((List.range N).filter (mem ks)) := Asc.filter _
  have p : ks.Perm ((List.range N).filter (mem ks)) := (List.perm_ext_iff_of_nodup h a.nd).mpr fun q => by
    rw [List.mem_filter, List.mem_range]
    unfold mem
    exact ⟨fun m => ⟨k q m, decide_eq_true m⟩, fun m => of_decide_eq_true m.2⟩
  rw [p.length_eq]
  exact a.len
theorem count_snoc (fl : List Nat) (q : Nat) : (fun p => (fl ++ [q]).count p) = fun p => if p = q then fl.count q + 1 else fl.count p := by
  funext p
  rw [List.count_append, List.count_cons, List.count_nil]
  by_cases e : p = q
  · subst e
    simp
  · have : (q == p) = false := by simpa using fun z => e z.symm
    rw [if_neg e, this]
    simp
theorem sum_bI (t : List Nat) (g : Nat → Bool) : (t.map fun i => bI (g i)).sum % 2 = bI (lp t g) := by
  induction t with
  | nil => rfl
  | cons i r ih =>
    show (bI (g i) + (r.map fun i => bI (g i)).sum) % 2 = bI (g i ^^ lp r g)
    rw [← bI_xor, ← ih]
    omega
theorem any_odd {ks fl : List Nat} (h : CntOk ks fl) : (ks.map fun p => decide ((fl.count p : Int) % 2 = 1)).any id = false ↔ ∀ p, fl.count p % 2 = 0 := by
  rw [List.any_eq_false]
  constructor
  · intro k p
    by_cases m : p ∈ ks
    · have := k _ (List.mem_map.mpr ⟨p, m, rfl⟩)
      have z : ¬ ((fl.count p : Int) % 2 = 1) := fun e => this (decide_eq_true e)
      omega
    · have : p ∉ fl := fun z => m ((h.iff p).mpr z)
      rw [List.count_eq_zero.mpr this]
  · intro k x hx
    obtain ⟨p, _, rfl⟩ := List.mem_map.mp hx
    have := k p
    have z : ¬ ((fl.count p : Int) % 2 = 1) := by omega
    rw [decide_eq_false z]
    exact Bool.false_ne_true
theorem rowAt_lt {rows : List (List Nat)} {i : Nat} (h : i < rows.length) : rows[i]? = some (rowAt rows i) := by
  unfold rowAt
  rw [List.getD, List.getElem?_eq_getElem h]
  rfl
theorem sideAt_lt {sides : List Bool} {i : Nat} (h : i < sides.length) : sides[i]? = some (sideAt sides i) := by
  unfold sideAt
  rw [List.getD, List.getElem?_eq_getElem h]
  rfl
/-- the heap behind a lock -/
theorem unlock_same {H H' : Hp} {d : Addr} {u w : HO} (h : H d = some u) (s : Same (upd H d w) H') : Same H (upd H' d u) := fun b o e => by
  by_cases z : b = d
  · subst z
    rw [upd_same, ← e, h]
  · rw [upd_ne z]
    exact s b o (by rw [upd_ne z]; exact e)
section
variable {P : Program} {w : World} {K : PySem.W.Frag} {mg : Str → Option Value} {base : Heap}
/-! ### is_odd_lot -/
abbrev nIsOdd : List Str := ["rows", "sides", "indices", "counts", "index", "place", "count"]
theorem scIsOdd : FnScope nIsOdd ["rows", "sides", "indices"] (C8.fnScope sIsOdd) := C8.fnScope_by (by decide +kernel)
def spIsOdd (K : PySem.W.Frag) : Sp := fun vs H Q _ => ∃ (a b c : Addr) (rows : List (List Nat)) (sides : List Bool) (t : List Nat), vs = [.ref a, .ref b, .ref c] ∧ RowsAt K H a rows ∧ TupB K H b sides ∧ TupN K H c t ∧ Quest 1000 rows sides ∧ t.length ≤ 60 ∧ (∀ i ∈ t, i < rows.length) ∧
  ∀ (v : Bool) (H' : Hp), Same H H' → (v = true ↔ OddLot rows sides t) → Q (.bl v) H'
theorem ok_isOdd {f : Addr} {fd : FuncData} (F : C8.Def K mg "is_odd_lot" sIsOdd f fd) (b : Binds K fd ["rows", "sides", "indices"] []) (T : Nm mg) : C8.Cal P w K mg base 1 "is_odd_lot" (spIsOdd K) [] := by
  refine C8.cal0 F b .nil scIsOdd (fun vs H Q E h => ?_) (fun cdv A outer s H vs Q E hr h => ?_)
  · obtain ⟨a, b, c, rows, sides, t, rfl, _⟩ := h
    rfl
  · obtain ⟨a, b, c, rows, sides, t, rfl, ⟨ps, ha, hrows⟩, hb, hc, hQ, hlen, hin, q⟩ := h
    have hpl : ps.length = rows.length := hrows.len
    have hu := hu_of hr
    refine ⟨_, pss_cons (ps_set (i := 3) scIsOdd.nd rfl (.inl rfl) pe_dnewK)
      (pss_cons (ps_for PassesOwn.never rfl (pi_tup (pv 2)) (pg_name (i := 4) scIsOdd.nd rfl (.inl rfl))
        (pss_one (ps_for PassesOwn.never rfl (pi_tup (pe_ix ix_tup (pv 0) (pv 4) (fun _ _ => rfl))) (pg_name (i := 5) scIsOdd.nd rfl (.inl rfl))
          (pss_one (ps_dput hu (pv 3) (pv 5) (pe_op op_add (pe_dget2 hu (pv 3) (pv 5) pe_int ⟨rfl, rfl, rfl, rfl⟩) pe_int) rfl)))))
      (pss_cons (ps_if (pt_val (pe_callB (cr_any rfl) (by rfl) T.any (by decide +kernel) (pa_cons (pe_lock
          (pe_lc (own := [("count", 6)]) (g := gName 6) rfl scIsOdd.nd (pi_values (pv 3))
            (blkOk_by (own := [("count", 6)]) (N := nIsOdd) (sc := C8.fnScope sIsOdd) (by decide +kernel))
            (fun _ _ _ _ _ => pg_name (i := 6) scIsOdd.nd rfl (Or.inl rfl) (Or.inr rfl)) (fun _ _ _ _ _ => pts_nil)
            (fun _ _ _ _ _ => pe_cmpR op_eq (pe_op op_mod (pv 6) pe_int) pe_int (nomark _)))) pa_nil)))
        (pss_one (ps_ret pe_bl)) pss_nil)
      (pss_one (ps_ret (pe_cmpR op_eq (pe_op op_mod (pe_callB (cr_sum rfl) (by rfl) T.sum (by decide +kernel) (pa_cons
          (pe_lc (own := [("index", 4)]) (g := gName 4) (te := tOp (rIxT K) (tVar 1) (tVar 4)) rfl scIsOdd.nd (pi_tup (pv 2))
            (blkOk_by (own := [("index", 4)]) (N := nIsOdd) (sc := C8.fnScope sIsOdd) (by decide +kernel))
            (fun _ _ _ _ _ => pg_name (i := 4) scIsOdd.nd rfl (Or.inl rfl) (Or.inr rfl)) (fun _ _ _ _ _ => pts_nil)
            (fun _ _ _ _ _ => pe_ix ix_tup (pv 1) (pv 4) (fun _ _ => rfl))) pa_nil)) pe_int) pe_int (nomark _)))))), ?_⟩
    intro cd hcd
    refine ⟨_, rfl, c, rfl, ⟨_, Same.tup (same_upd hcd) hc⟩, ?_⟩
    refine for_it (walk_tup (xs := t.map nV)) (fun i σ H' => ∃ ks v4 v5, σ = [some (.ref a), some (.ref b), some (.ref c), some (.ref cd), v4, v5, none] ∧ Same H H' ∧
        H' cd = some (.dK (cntK ks fun p => ((t.take i).flatMap (rowAt rows)).count p)) ∧ CntOk ks ((t.take i).flatMap (rowAt rows)))
      ⟨[], none, none, rfl, same_upd hcd, upd_same, .nil⟩ (fun i σ H' _ ⟨_, _, _, _, sm, _⟩ => Same.tup sm hc) (fun i x σ H2 H3 hi hP hY => ?_) (fun σ H2 hP => ?_)
    · obtain ⟨ks, v4, v5, rfl, sm, hcd2, hck⟩ := hP
      obtain ⟨rfl, hx⟩ := hY
      obtain ⟨n, hn, rfl⟩ := map_get hx
      have hnr := rowAt_lt (hin n (get_mem hn))
      obtain ⟨d, hd, hdr⟩ := paired_get' hrows hnr
      have hA : Asc 1000 (rowAt rows n) := hQ.row n
      refine ⟨_, rfl, _, rfl, a, _, _, .ref d, rfl, rfl, Same.tup sm ha, atI_nat (by rw [List.getElem?_map, hd]; rfl), ?_⟩
      refine ⟨d, rfl, ⟨_, (hdr.same sm : SqT K H3 d _)⟩, ?_⟩
      generalize hfl : (t.take i).flatMap (rowAt rows) = fl at *
      have efl : (t.take (i + 1)).flatMap (rowAt rows) = fl ++ rowAt rows n := by rw [take_next hn, List.flatMap_append, hfl]; simp
      have hfl1000 : ∀ p ∈ fl, p < 1000 := fun p hp => by
        rw [← hfl] at hp
        obtain ⟨j, _, hj⟩ := List.mem_flatMap.mp hp
        exact (hQ.row j).2 p hj
      refine for_it (walk_tup (xs := (rowAt rows n).map nV)) (fun j σ H' => ∃ ks v5, σ = [some (.ref a), some (.ref b), some (.ref c), some (.ref cd), some (nV n), v5, none] ∧ Same H H' ∧
          H' cd = some (.dK (cntK ks fun p => (fl ++ (rowAt rows n).take j).count p)) ∧ CntOk ks (fl ++ (rowAt rows n).take j))
        ⟨ks, v5, rfl, sm, by rw [List.take_zero, List.append_nil]; exact hcd2, by rw [List.take_zero, List.append_nil]; exact hck⟩ (fun j σ H' _ ⟨_, _, _, s5, _⟩ => hdr.same s5) (fun j x σ H4 H5 hj hP hY => ?_) (fun σ H4 hP => ?_)
      · obtain ⟨ks, v5, rfl, s5, hcd5, hck5⟩ := hP
        obtain ⟨rfl, hx⟩ := hY
        obtain ⟨p, hp, rfl⟩ := map_get hx
        have key : valV (cntK ks fun p => (fl ++ (rowAt rows n).take j).count p) (Sum.inl (p : Int)) = if p ∈ ks then some (nV ((fl ++ (rowAt rows n).take j).count p)) else none := cntK_val _ _ _
        have hget : (valV (cntK ks fun p => (fl ++ (rowAt rows n).take j).count p) (Sum.inl (p : Int))).getD (.int 0) = nV ((fl ++ (rowAt rows n).take j).count p) := by
          rw [key]
          by_cases m : p ∈ ks
          · rw [if_pos m]; rfl
          · rw [if_neg m, List.count_eq_zero.mpr fun z => m ((hck5.iff p).mpr z)]; rfl
        have hkl : ks.length ≤ 1000 := nodup_len hck5.nd fun z hz => by
          rcases List.mem_append.mp ((hck5.iff z).mp hz) with m | m
          · exact hfl1000 z m
          · exact hA.2 z (List.mem_of_mem_take m)
        refine ⟨_, rfl, cd, rfl, .inl ⟨_, .inl hcd5⟩, _, rfl, _, .inl ⟨_, Sum.inl (p : Int), .inl hcd5, rfl, rfl⟩, ?_⟩
        refine ⟨((fl ++ (rowAt rows n).take j).count p : Int), 1, hget, rfl, ?_⟩
        refine ⟨_, rfl, _, rfl, cd, _, rfl, .inl ⟨_, Sum.inl (p : Int), hcd5, rfl, by unfold cntK; rw [List.length_map]; exact small hkl, rfl⟩, ?_⟩
        refine ⟨if p ∈ ks then ks else ks ++ [p], _, rfl, fun z o ez => ?_, ?_, ?_⟩
        · rw [upd_ne (ne_of_none ez hcd)]
          exact s5 _ _ ez
        · rw [upd_same, take_next hp, ← List.append_assoc, count_snoc]
          have e1 : ((fl ++ (rowAt rows n).take j).count p : Int) + 1 = (((fl ++ (rowAt rows n).take j).count p + 1 : Nat) : Int) := by omega
          have e3 := cntK_put ks (fun p => (fl ++ (rowAt rows n).take j).count p) p
          rw [show nV ((fl ++ (rowAt rows n).take j).count p + 1) = V.int (((fl ++ (rowAt rows n).take j).count p : Int) + 1) from congrArg V.int e1.symm] at e3
          exact congrArg (fun z => some (HO.dK z)) e3
        · rw [take_next hp, ← List.append_assoc]
          exact hck5.snoc p
      · obtain ⟨ks, v5, rfl, s5, hcd5, hck5⟩ := hP
        rw [List.length_map, List.take_length] at hcd5 hck5
        exact ⟨ks, _, _, rfl, s5, by rw [efl]; exact hcd5, by rw [efl]; exact hck5⟩
    · obtain ⟨ks, v4, v5, rfl, sm, hcd2, hck⟩ := hP
      rw [List.length_map, List.take_length] at hcd2 hck
      generalize hfl : t.flatMap (rowAt rows) = fl at *
      have hkl : ks.length ≤ 1000 := nodup_len hck.nd fun z hz => by
        have hz2 := (hck.iff z).mp hz
        rw [← hfl] at hz2
        obtain ⟨j, _, hj⟩ := List.mem_flatMap.mp hz2
        exact (hQ.row j).2 z hj
      -- any count odd
      refine ⟨cd, _, hcd2, trivial, fun od => ?_⟩
      refine ⟨_, rfl, cd, od, _, rfl, upd_same, fun D hD => ?_⟩
      have ndc : D ≠ cd := fun e => by
        rw [e, upd_same] at hD
        cases hD
      refine lc_it (walk_values (kvs := cntK ks fun p => fl.count p)) (LcP (upd H2 cd (.frz od (.dK (cntK ks fun p => fl.count p)))) D fun i => (ks.take i).map fun p => V.bl (decide ((fl.count p : Int) % 2 = 1))) (lcp_0 hD rfl) (fun i H3 _ k => k.1 _ _ upd_same) (fun i x H3 H4 hi k y => ?_) (fun H3 k => ?_)
      · obtain ⟨rfl, kk, hx⟩ := y
        unfold cntK at hx
        rw [List.getElem?_map] at hx
        cases e : ks[i]? with
        | none => rw [e] at hx; cases hx
        | some p =>
          rw [e] at hx
          cases hx
          refine ⟨rfl, ?_⟩
          refine ⟨_, rfl, _, _, rfl, rfl, (by show (0 : Int) < 2; decide), rfl, ?_⟩
          exact lcp_addE hD k (Same.refl _) (by rw [take_next e, List.map_append]; rfl) (congrArg V.bl (decide_eq_decide.mpr ⟨fun z => V.int.inj z, fun z => congrArg V.int z⟩)) (by rw [List.length_map]; exact small (take_len hkl))
      · have hkk : (cntK ks fun p => fl.count p).length = ks.length := by unfold cntK; rw [List.length_map]
        rw [hkk] at k
        have eD := lcp_end k (congrArg (List.map fun p => V.bl (decide ((fl.count p : Int) % 2 = 1))) List.take_length)
        refine ⟨k.1 _ _ upd_same, ?_⟩
        have s3 : Same H2 (upd H3 cd (.dK (cntK ks fun p => fl.count p))) := unlock_same hcd2 k.1
        generalize hH4 : upd H3 cd (.dK (cntK ks fun p => fl.count p)) = H4 at *
        have eD4 : H4 D = some (.lst (ks.map fun p => V.bl (decide ((fl.count p : Int) % 2 = 1)))) := by rw [← hH4, upd_ne ndc]; exact eD
        refine ⟨D, ks.map fun p => decide ((fl.count p : Int) % 2 = 1), rfl, sqL_eq eD4 (by rw [List.map_map]; rfl), _, rfl, ?_⟩
        cases hany : (ks.map fun p => decide ((fl.count p : Int) % 2 = 1)).any id with
        | true =>
          refine iteT ?_
          refine q false H4 (sm.trans s3) ⟨fun e => (by cases e), fun o => ?_⟩
          have z := (any_odd hck).mpr (by rw [← hfl]; exact o.1)
          rw [hany] at z
          cases z
        | false =>
          refine iteF ?_
          have even := (any_odd hck).mp hany
          -- the sum of the sides
          have sm4 := sm.trans s3
          have hc4 : SqT K H4 c (t.map nV) := hc.same sm4
          refine ⟨_, rfl, c, rfl, ⟨_, hc4⟩, fun D2 hD2 => ?_⟩
          refine lc_it (walk_tup (xs := t.map nV)) (LcP H4 D2 fun i => (t.take i).map fun i => bV (sideAt sides i)) (lcp_0 hD2 rfl) (fun i H5 _ k => Same.tup k.1 hc4) (fun i x H5 H6 hi k y => ?_) (fun H5 k => ?_)
          · obtain ⟨rfl, hx⟩ := y
            obtain ⟨n, hn, rfl⟩ := map_get hx
            have hns := sideAt_lt (sides := sides) (i := n) (by rw [hQ.len]; exact hin n (get_mem hn))
            refine ⟨rfl, ?_⟩
            refine ⟨_, rfl, _, rfl, b, _, _, bV (sideAt sides n), rfl, rfl, hb.same (sm4.trans k.1), atI_nat (by rw [List.getElem?_map, hns]; rfl), ?_⟩
            exact lcp_add hD2 k (Same.refl _) (by rw [take_next hn, List.map_append]; rfl) (by rw [List.length_map]; exact small (take_len (Nat.le_trans hlen (by decide))))
          · rw [List.length_map] at k
            have eD2 := lcp_end k (congrArg (List.map fun i => bV (sideAt sides i)) List.take_length)
            refine ⟨D2, t.map fun i => bI (sideAt sides i), rfl, sqL_eq eD2 (by rw [List.map_map]; rfl), ?_⟩
            refine ⟨_, _, rfl, rfl, (by show (0 : Int) < 2; decide), rfl, ?_⟩
            have es : (t.map fun i => bI (sideAt sides i)).sum % 2 = bI (lp t (sideAt sides)) := sum_bI t _
            show Q (V.bl (decide (V.int ((t.map fun i => bI (sideAt sides i)).sum % 2) = V.int 1))) _
            refine q _ H5 (sm4.trans k.1) ?_
            rw [es, decide_eq_true_iff]
            exact ⟨fun e => ⟨by rw [hfl]; exact even, bI_one.mp e⟩, fun o => bI_one.mpr o.2⟩
end
end Pq

namespace Pq
open PySem L2
theorem word_ne : (V.str (wordS false) = V.str "solution") ↔ False := by decide +kernel
theorem word_eqS (b : Bool) : decide (V.str (wordS b) = V.str "solution") = b := by
  cases b <;> decide +kernel
theorem word_eqO (b : Bool) : decide (V.str (wordS b) = V.str "odd") = !b := by
  cases b <;> decide +kernel
theorem tyIs_str {K : PySem.W.Frag} {H : Hp} (x : Str) : TyX K H (.str x) (.type "str") := .base (.str x)
section
variable {P : Program} {w : World} {K : PySem.W.Frag} {mg : Str → Option Value} {base : Heap}
/-! ### is_solved -/
theorem scIsSolved : FnScope ["rows", "sides", "value", "word", "told"] ["rows", "sides", "value"] (C8.fnScope sIsSolved) := C8.fnScope_by (by decide +kernel)
def spIsSolved (K : PySem.W.Frag) : Sp := fun vs H Q _ => ∃ (a b c : Addr) (rows : List (List Nat)) (sides : List Bool) (bb : Bool) (l : List Nat), vs = [.ref a, .ref b, .ref c] ∧ RowsAt K H a rows ∧ TupB K H b sides ∧ PairAt K H c bb l ∧ Quest 1000 rows sides ∧ rows.length ≤ 60 ∧ TellFit rows bb l ∧
  ∀ (v : Bool) (H' : Hp), Same H H' → (v = true ↔ TellOk rows sides bb l) → Q (.bl v) H'
theorem ok_isSolved {f : Addr} {fd : FuncData} (F : C8.Def K mg "is_solved" sIsSolved f fd) (b : Binds K fd ["rows", "sides", "value"] []) (T : Nm mg) (cR : C8.Cal P w K mg base 3 "require_question" (spRequire K) []) (cW : C8.Cal P w K mg base 2 "are_within" (spWithin K) [])
    (cS : C8.Cal P w K mg base 1 "is_solution" (spIsSol K) []) (cO : C8.Cal P w K mg base 1 "is_odd_lot" (spIsOdd K) []) : C8.Cal P w K mg base 4 "is_solved" (spIsSolved K) [] := by
  refine C8.cal0 F b .nil scIsSolved (fun vs H Q E h => ?_) (fun cdv A outer s H vs Q E hr h => ?_)
  · obtain ⟨a, b, c, rows, sides, bb, l, rfl, _⟩ := h
    rfl
  · obtain ⟨a, b, c, rows, sides, bb, l, rfl, ha, hb, ⟨t, hc, ht⟩, hQ, hlen, ⟨hl, hA, hO⟩, q⟩ := h
    refine ⟨_, pss_cons (ps_expr (C8.pe_c cR hr (by decide) (by rfl) (pa_cons (pv 0) (pa_cons (pv 1) pa_nil))))
      (pss_cons (ps_if (PW.pt (pw_or (pt_not (pt_val (pe_callB call_isi (by rfl) T.isi (by decide +kernel) (pa_cons (pv 2) (pa_cons (pe_bltn (v := .ty "tuple") (by rfl) T.tuple (by decide +kernel) rfl) pa_nil)))))
          (pw_or (pt_cmpR op_ne (pe_callB call_len_seq (by rfl) T.len PySem.boot_len (pa_cons (pv 2) pa_nil)) pe_int (nomark _))
          (pw_or1 (pt_not (pt_val (pe_callB call_isi (by rfl) T.isi (by decide +kernel) (pa_cons (pe_ix ix_tup (pv 2) pe_int (fun _ _ => rfl)) (pa_cons (pe_bltn (v := .ty "str") (by rfl) T.str (by decide +kernel) rfl) pa_nil)))))))))
        pss_never pss_nil)
      (pss_cons (ps_asg (pv 2) (pg_tup rfl (pgs_cons (pg_name (i := 3) scIsSolved.nd rfl (.inl rfl)) (pgs_cons (pg_name (i := 4) scIsSolved.nd rfl (.inl rfl)) pgs_nil))))
      (pss_cons (ps_if (pt_cmpR op_eq (pv 3) (C8.pe_gc (by rfl) T.solution) (nomark _))
        (pss_one (ps_ret (pe_and (C8.pe_c cW hr (by decide) (by rfl) (pa_cons (pv 4) (pa_cons (C8.pe_gc (by rfl) T.maxPlace) pa_nil))) (pe_one (C8.pe_c cS hr (by decide) (by rfl) (pa_cons (pv 0) (pa_cons (pv 1) (pa_cons (pv 4) pa_nil)))))))) pss_nil)
      (pss_one (ps_ret (pe_and (pe_cmpR op_eq (pv 3) (C8.pe_gc (by rfl) T.odd) (nomark _)) (pe_and (C8.pe_c cW hr (by decide) (by rfl) (pa_cons (pv 4) (pa_cons (pe_op op_sub (pe_callB call_len_seq (by rfl) T.len PySem.boot_len (pa_cons (pv 0) pa_nil)) pe_int) pa_nil)))
        (pe_one (C8.pe_c cO hr (by decide) (by rfl) (pa_cons (pv 0) (pa_cons (pv 1) (pa_cons (pv 4) pa_nil)))))))))))), ?_⟩
    refine ⟨_, rfl, _, rfl, a, b, rows, sides, rfl, ha, hb, hQ, hlen, fun H1 s1 => ?_⟩
    have hc1 : SqT K H1 c [.str (wordS bb), .ref t] := Same.tup s1 hc
    have ht1 := ht.same s1
    refine ⟨_, rfl, _, _, _, _, true, rfl, .ty _, tyX_tup hc1, kit_ty (by decide +kernel), true, rfl, ?_⟩
    refine ⟨_, rfl, c, _, rfl, .inr hc1, rfl, false, rfl, ?_⟩
    refine ⟨_, rfl, c, _, _, .str (wordS bb), rfl, rfl, hc1, atI_nat (j := 0) rfl, _, _, _, _, true, rfl, .ty _, tyIs_str _, kit_ty (by decide +kernel), true, rfl, ?_⟩
    refine ⟨_, rfl, c, _, rfl, hc1, rfl, _, _, rfl, _, _, rfl, rfl, ?_⟩
    refine ⟨_, rfl, rfl, bb, congrArg V.bl (word_eqS bb), ?_⟩
    cases bb with
    | true =>
      refine iteT ?_
      refine ⟨_, rfl, t, l, 999, rfl, ht1, hA.1, fun n hn => ?_, hA.len, fun H2 s2 => ⟨true, rfl, ?_⟩⟩
      · have := hA.2 n hn
        omega
      · have s12 := s1.trans s2
        exact ⟨_, rfl, _, rfl, _, rfl, a, b, t, rows, sides, l, rfl, ha.same s12, hb.same s12, ht.same s12, hQ, hlen, hA, fun v H3 s3 hv => q v H3 (s12.trans s3) hv⟩
    | false =>
      refine iteF ?_
      have hAr := hO rfl
      obtain ⟨ps, ha1, hrows⟩ := ha
      have hpl : ps.length = rows.length := hrows.len
      refine ⟨_, rfl, rfl, true, congrArg V.bl (word_eqO false), ?_⟩
      refine ⟨_, rfl, _, rfl, a, _, rfl, .inr (Same.tup s1 ha1), _, _, rfl, rfl, t, l, _, rfl, ht1, hA.1, fun n hn => ?_, hA.len, fun H2 s2 => ⟨true, rfl, ?_⟩⟩
      · have := hAr.2 n hn
        rw [List.length_map, hpl]
        omega
      · have s12 := s1.trans s2
        exact ⟨_, rfl, _, rfl, _, rfl, a, b, t, rows, sides, l, rfl, ⟨ps, Same.tup s12 ha1, hrows.same s12⟩, hb.same s12, ht.same s12, hQ, hl, hAr.2, fun v H3 s3 hv => q v H3 (s12.trans s3) hv⟩
end
end Pq

namespace Pq
open PySem L2
/-! ### the well: a list of three ints that is drawn from -/
def WellAt (H : Hp) (w : Addr) : Prop := ∃ x y z : Int, H w = some (.lst [.int x, .int y, .int z])
/-- all but the well is as it was -/
def SameW (w : Addr) (H H' : Hp) : Prop := ∀ b o, b ≠ w → H b = some o → H' b = some o
section
variable {w : Addr} {H H1 H2 : Hp}
theorem SameW.of (s : Same H H1) : SameW w H H1 := fun b o _ e => s b o e
theorem SameW.trans (a : SameW w H H1) (b : SameW w H1 H2) : SameW w H H2 := fun c o n e => b c o n (a c o n e)
theorem SameW.put {o : HO} : SameW w H (upd H w o) := fun b u n e => (upd_ne n).trans e
theorem SameW.new {p : Addr} {o : HO} (h : H p = none) : SameW w H (upd H p o) := .of (same_upd h)
/-- a well that is new to a heap: to that heap nothing is changed -/
theorem SameW.same {H0 : Hp} (n : H0 w = none) (s0 : Same H0 H) (s : SameW w H H1) : Same H0 H1 := fun b o e => s b o (ne_of_none e n) (s0 b o e)
theorem WellAt.ne {p : Addr} (h : WellAt H w) (e : H p = none) : p ≠ w := by
  obtain ⟨x, y, z, h⟩ := h
  exact (ne_of_none h e).symm
theorem WellAt.same (h : WellAt H w) (s : Same H H1) : WellAt H1 w := by
  obtain ⟨x, y, z, h⟩ := h
  exact ⟨x, y, z, s _ _ h⟩
end
theorem inV_nat (n : Nat) (l : List Nat) : inV (nV n) (l.map nV) = mem l n := by
  unfold inV mem
  induction l with
  | nil => rfl
  | cons p r ih =>
    rw [List.map_cons, List.any_cons, ih]
    show (((p : Int) == (n : Int)) || decide (n ∈ r)) = decide (n ∈ p :: r)
    by_cases e : p = n
    · subst e
      simp
    · have h1 : ((p : Int) == (n : Int)) = false := by rw [beq_eq_false_iff_ne]; omega
      have h2 : ¬ n = p := fun z => e z.symm
      rw [h1]
      simp [h2]
theorem flat_nat (l : List Nat) : (l.map nV).all flatV = true := by
  rw [List.all_eq_true]
  intro x hx
  obtain ⟨n, _, rfl⟩ := List.mem_map.mp hx
  rfl
theorem cut_nat (l : List Nat) (lo hi : Option Int) : ∃ m : List Nat, cutV (l.map nV) lo hi = m.map nV ∧ m.Sublist l := by
  unfold cutV
  rw [← List.map_drop, ← List.map_take]
  exact ⟨_, rfl, (List.take_sublist ..).trans (List.drop_sublist ..)⟩
theorem Asc.sub {N : Nat} {l m : List Nat} (h : Asc N l) (s : m.Sublist l) : Asc N m := ⟨h.1.sublist s, fun p hp => h.2 p (s.subset hp)⟩
theorem Asc.snoc {n : Nat} {l : List Nat} (h : Asc n l) : Asc (n + 1) (l ++ [n]) := by
  refine ⟨List.pairwise_append.mpr ⟨h.1, List.pairwise_singleton .., fun x hx y hy => ?_⟩, fun p m => ?_⟩
  · rw [List.mem_singleton.mp hy]
    exact h.2 x hx
  · rcases List.mem_append.mp m with m | m
    · exact Nat.lt_succ_of_lt (h.2 p m)
    · rw [List.mem_singleton.mp m]
      exact Nat.lt_succ_self n
section
variable {P : Program} {w : World} {K : PySem.W.Frag} {mg : Str → Option Value} {base : Heap}
/-! ### _law_well -/
theorem scWell : FnScope ["_law_script", "_law_at", "_law_cell", "_law_great", "_law_start"] ["_law_script", "_law_at"] (C8.fnScope sWell) := C8.fnScope_by (by decide +kernel)
def spWell (K : PySem.W.Frag) : Sp := fun vs H Q _ => ∃ (a : Addr) (ns : List Int) (k : Nat), vs = [.ref a, nV k] ∧ SqL K H a (ns.map V.int) ∧ ∀ (p : Addr) (H' : Hp), Same H H' → H p = none → WellAt H' p → Q (.ref p) H'
theorem ok_well {f : Addr} {fd : FuncData} (F : C8.Def K mg "_law_well" sWell f fd) (b : Binds K fd ["_law_script", "_law_at"] []) (T : Nm mg) : C8.Cal P w K mg base 1 "_law_well" (spWell K) [] := by
  refine C8.cal0 F b .nil scWell (fun vs H Q E h => ?_) (fun cdv A outer s H vs Q E hr h => ?_)
  · obtain ⟨a, ns, k, rfl, _⟩ := h
    rfl
  · obtain ⟨a, ns, k, rfl, ha, q⟩ := h
    refine ⟨_, C8.pss_cut (ps_set (i := 2) scWell.nd rfl (.inl rfl) (pe_ifExp (pt_cmpR op_lt (pv 1) (pe_callB call_len_seq (by rfl) T.len PySem.boot_len (pa_cons (pv 0) pa_nil)) (nomark _))
        (pe_callTy call_int1 (by rfl) T.int (by decide +kernel) (pa_cons (pe_ix ix_list (pv 0) (pv 1) (fun _ _ => rfl)) pa_nil)) (pe_op op_add (pe_op op_mul pe_int (pv 1)) pe_int)))
      (pss_cons (ps_set (i := 3) scWell.nd rfl (.inl rfl) (pe_op op_mod (pe_callB call_abs (by rfl) T.abs (by decide +kernel) (pa_cons (pv 2) pa_nil)) (pe_op op_powW (pe_op op_pow pe_int pe_int) pe_int)))
      (pss_cons (ps_set (i := 4) scWell.nd rfl (.inl rfl) (pe_op op_add (pe_op op_add (pe_op op_add (pe_op op_mul (pe_op op_mod (pv 3) pe_int) pe_int) (pe_op op_mul pe_int (pv 1)))
        (pe_op op_mul pe_int (pe_callTy call_int1 (by rfl) T.int (by decide +kernel) (pa_cons (pe_cmpR op_lt (pv 2) pe_int (nomark _)) pa_nil)))) pe_int))
      (pss_one (ps_ret (pe_lst (pa_cons (pe_callB (call_max2 rfl) (by rfl) T.max (by decide +kernel) (pa_cons pe_int (pa_cons (pe_op op_sub (pv 3) (pe_op op_pow pe_int pe_int)) pa_nil))) (pa_cons (pv 4) (pa_cons pe_int pa_nil)))))))), ?_⟩
    refine ⟨fun σ' H' => ∃ c : Int, σ' = [some (.ref a), some (nV k), some (.int c), none, none] ∧ H' = H, ?_, ?_⟩
    · refine ⟨_, rfl, _, rfl, a, _, rfl, .inl ha, _, _, rfl, rfl, _, rfl, ite2 (fun h1 => ?_) (fun h1 => ?_)⟩
      · have lt : k < ns.length := by
          have := of_decide_eq_true h1
          rw [List.length_map] at this
          omega
        refine ⟨_, rfl, _, rfl, a, _, _, .int ns[k], rfl, rfl, ha, atI_nat (by rw [List.getElem?_map, List.getElem?_eq_getElem lt]; rfl), .inl ⟨_, rfl, _, rfl, rfl⟩⟩
      · exact ⟨_, rfl, _, _, rfl, rfl, .inl ⟨by decide, by decide⟩, _, _, rfl, rfl, _, rfl, rfl⟩
    · rintro _ _ ⟨c, rfl, rfl⟩
      refine ⟨_, rfl, _, rfl, _, _, rfl, rfl, ⟨by decide, by decide, by decide⟩, _, _, rfl, rfl, ⟨by decide, by decide +kernel⟩, _, _, rfl, rfl, Int.pow_pos (Int.pow_pos (by decide)), ?_⟩
      refine ⟨_, rfl, _, _, rfl, rfl, (by show (0 : Int) < 4611686018427387709; decide), _, _, rfl, rfl, .inr ⟨by decide, by decide⟩, ?_⟩
      refine ⟨_, rfl, _, _, rfl, rfl, .inl ⟨by decide, by decide⟩, _, _, rfl, rfl, ?_⟩
      refine ⟨_, rfl, _, _, rfl, rfl, .inr ⟨_, rfl, ?_⟩⟩
      refine ⟨_, _, rfl, rfl, .inl ⟨by decide, by decide⟩, _, _, rfl, rfl, _, _, rfl, rfl, ?_⟩
      refine ⟨_, rfl, _, _, rfl, rfl, ⟨by decide, by decide, by decide⟩, _, _, rfl, rfl, _, _, rfl, _, rfl, by show 3 ≤ sizeLine; decide, fun p hp => ?_⟩
      exact q p _ (same_upd hp) hp ⟨_, _, _, upd_same⟩
/-! ### _law_dip -/
theorem scDip : FnScope ["_law_well_here", "_law_total", "_law_found", "_law_one", "_law_two"] ["_law_well_here", "_law_total"] (C8.fnScope sDip) := C8.fnScope_by (by decide +kernel)
def spDip : Sp := fun vs H Q _ => ∃ (w : Addr) (t : Int), vs = [.ref w, .int t] ∧ WellAt H w ∧ 0 < t ∧ t < 1073741824 ∧ ∀ (r : Int) (H' : Hp), 0 ≤ r → r < t → SameW w H H' → WellAt H' w → Q (.int r) H'
theorem ok_dip {f : Addr} {fd : FuncData} (F : C8.Def K mg "_law_dip" sDip f fd) (b : Binds K fd ["_law_well_here", "_law_total"] []) (T : Nm mg) : C8.Cal P w K mg base 1 "_law_dip" spDip [] := by
  refine C8.cal0 F b .nil scDip (fun vs H Q E h => ?_) (fun cdv A outer s H vs Q E hr h => ?_)
  · obtain ⟨w, t, rfl, _⟩ := h
    rfl
  · obtain ⟨w, t, rfl, ⟨x, y, z, hw⟩, t0, t1, q⟩ := h
    refine ⟨_, pss_cons (ps_if (pt_cmpR op_gt (pe_ix ix_list (pv 0) pe_int (fun _ _ => rfl)) pe_int (nomark _))
        (pss_cons (ps_set (i := 2) scDip.nd rfl (.inl rfl) (pe_op op_mod (pe_callTy call_int1 (by rfl) T.int (by decide +kernel) (pa_cons (pe_ix ix_list (pv 0) pe_int (fun _ _ => rfl)) pa_nil)) (pv 1)))
        (pss_cons (ps_asg (pe_op op_fdiv (pe_ix ix_list (pv 0) pe_int (fun _ _ => rfl)) (pv 1)) (pg_sub (pv 0) pe_int set_list))
        (pss_one (ps_ret (pv 2))))) pss_nil)
      (pss_cons (ps_asg (pe_op op_add (pe_ix ix_list (pv 0) pe_int (fun _ _ => rfl)) pe_int) (pg_sub (pv 0) pe_int set_list))
      (pss_cons (ps_set (i := 3) scDip.nd rfl (.inl rfl) (pe_op op_mod (pe_callTy call_int1 (by rfl) T.int (by decide +kernel) (pa_cons (pe_op op_add (pe_ix ix_list (pv 0) pe_int (fun _ _ => rfl)) (pe_op op_mul pe_int (pe_ix ix_list (pv 0) pe_int (fun _ _ => rfl)))) pa_nil)) pe_int))
      (pss_cons (ps_set (i := 4) scDip.nd rfl (.inl rfl) (pe_op op_mod (pe_callTy call_int1 (by rfl) T.int (by decide +kernel) (pa_cons (pe_op op_add (pe_op op_mul (pv 3) (pv 3)) (pe_op op_mul pe_int (pe_ix ix_list (pv 0) pe_int (fun _ _ => rfl)))) pa_nil)) pe_int))
      (pss_one (ps_ret (pe_op op_mod (pe_callTy call_int1 (by rfl) T.int (by decide +kernel) (pa_cons (pe_op op_fdiv (pe_callTy call_int1 (by rfl) T.int (by decide +kernel) (pa_cons (pe_op op_add (pe_op op_mul (pv 4) pe_int) (pv 3)) pa_nil)) pe_int) pa_nil)) (pv 1))))))), ?_⟩
    have sq : SqL K H w [.int x, .int y, .int z] := SqL.of hw
    refine ⟨_, rfl, w, _, _, .int x, rfl, rfl, sq, atI_nat (j := 0) rfl, _, _, rfl, rfl, _, rfl, ite2 (fun h1 => ?_) (fun h1 => ?_)⟩
    · refine ⟨_, rfl, w, _, _, .int x, rfl, rfl, sq, atI_nat (j := 0) rfl, .inl ⟨_, rfl, ?_⟩⟩
      refine ⟨_, rfl, _, _, rfl, rfl, t0, ?_⟩
      refine ⟨_, rfl, w, _, _, .int x, rfl, rfl, sq, atI_nat (j := 0) rfl, _, rfl, _, _, rfl, rfl, ⟨t0, t1⟩, ?_⟩
      refine ⟨_, rfl, w, _, _, 0, rfl, rfl, hw, rfl, ?_⟩
      refine ⟨_, rfl, q (x % t) _ (Int.emod_nonneg _ (by omega)) (Int.emod_lt_of_pos _ t0) SameW.put ⟨x / t, y, z, upd_same⟩⟩
    · refine ⟨_, rfl, w, _, _, .int z, rfl, rfl, sq, atI_nat (j := 2) rfl, _, _, rfl, rfl, ?_⟩
      refine ⟨_, rfl, w, _, _, 2, rfl, rfl, hw, rfl, ?_⟩
      have sq2 : SqL K (upd H w (.lst [.int x, .int y, .int (z + 1)])) w [.int x, .int y, .int (z + 1)] := SqL.of upd_same
      refine ⟨_, rfl, w, _, _, .int y, rfl, rfl, sq2, atI_nat (j := 1) rfl, ?_⟩
      refine ⟨_, rfl, w, _, _, .int (z + 1), rfl, rfl, sq2, atI_nat (j := 2) rfl, _, _, rfl, rfl, .inl ⟨by decide, by decide⟩, _, _, rfl, rfl, .inl ⟨_, rfl, ?_⟩⟩
      refine ⟨_, _, rfl, rfl, (by show (0 : Int) < 4611686018427387709; decide), ?_⟩
      have o0 := Int.emod_nonneg (y + 9719 * (z + 1)) (show (4611686018427387709 : Int) ≠ 0 by decide)
      have o1 := Int.emod_lt_of_pos (y + 9719 * (z + 1)) (show (0 : Int) < 4611686018427387709 by decide)
      refine ⟨_, rfl, _, rfl, _, _, rfl, rfl, .inl ⟨Int.lt_of_lt_of_le (by decide) o0, Int.lt_trans o1 (by decide)⟩, ?_⟩
      refine ⟨_, rfl, w, _, _, .int (z + 1), rfl, rfl, sq2, atI_nat (j := 2) rfl, _, _, rfl, rfl, .inl ⟨by decide, by decide⟩, _, _, rfl, rfl, .inl ⟨_, rfl, ?_⟩⟩
      refine ⟨_, _, rfl, rfl, (by show (0 : Int) < 4611686018427387737; decide), ?_⟩
      refine ⟨_, rfl, _, _, rfl, rfl, .inr ⟨by decide, by decide⟩, _, rfl, _, _, rfl, rfl, .inl ⟨_, rfl, _, _, rfl, rfl, ⟨by decide, by decide⟩, .inl ⟨_, rfl, ?_⟩⟩⟩
      refine ⟨_, rfl, _, _, rfl, rfl, t0, ?_⟩
      exact q _ _ (Int.emod_nonneg _ (by omega)) (Int.emod_lt_of_pos _ t0) SameW.put ⟨x, y, z + 1, upd_same⟩
/-! ### _law_places -/
abbrev nPlaces : List Str := ["_law_well_here", "_law_most", "_law_many", "_law_found", "_law_place"]
theorem scPlaces : FnScope nPlaces ["_law_well_here", "_law_most", "_law_many"] (C8.fnScope sPlaces) := C8.fnScope_by (by decide +kernel)
def spPlaces (K : PySem.W.Frag) : Sp := fun vs H Q _ => ∃ (w : Addr) (m : Nat) (k : Int), vs = [.ref w, nV m, .int k] ∧ WellAt H w ∧ m ≤ 1000 ∧ ∀ (p : Addr) (l : List Nat) (H' : Hp), SameW w H H' → WellAt H' w → TupN K H' p l → Asc m l → Q (.ref p) H'
theorem ok_places {f : Addr} {fd : FuncData} (F : C8.Def K mg "_law_places" sPlaces f fd) (b : Binds K fd ["_law_well_here", "_law_most", "_law_many"] []) (T : Nm mg) (cD : C8.Cal P w K mg base 1 "_law_dip" spDip []) :
    C8.Cal P w K mg base 2 "_law_places" (spPlaces K) [] := by
  refine C8.cal0 F b .nil scPlaces (fun vs H Q E h => ?_) (fun cdv A outer s H vs Q E hr h => ?_)
  · obtain ⟨w, m, k, rfl, _⟩ := h
    rfl
  · obtain ⟨w, m, k, rfl, hw, hm, q⟩ := h
    refine ⟨_, pss_cons (ps_setLc (i := 3) (own := [("_law_place", 4)]) (g := gName 4) rfl scPlaces.nd rfl rfl (sw_true rfl rfl rfl (by decide +kernel)) (pi_range1 (by rfl) T.range (pa_cons (pv 1) pa_nil))
        (blkOk_by (own := [("_law_place", 4)]) (N := nPlaces) (sc := C8.fnScope sPlaces) (by decide +kernel))
        (fun _ _ _ _ _ => pg_name (i := 4) scPlaces.nd rfl (Or.inl rfl) (Or.inr rfl))
        (fun _ _ _ _ _ => pts_one (pt_cmpR op_eq (C8.pe_c cD hr (by decide) (by rfl) (pa_cons (pv 0) (pa_cons pe_int pa_nil))) pe_int (nomark _)))
        (fun _ _ _ _ _ => pv 4))
      (pss_one (ps_ret (pe_callTy call_tuple_of (by rfl) T.tuple (by decide +kernel) (pa_cons (pe_slice sl_list (pv 3) po_none (po_some (pv 2))) pa_nil)))), ?_⟩
    have e1 : (m : Int).toNat = m := Int.toNat_natCast m
    refine ⟨_, rfl, (m : Int), rfl, by omega, by omega, ?_⟩
    rw [e1]
    refine fun D hD => ?_
    have nD : D ≠ w := hw.ne hD
    refine lc_it walk_range (fun i H' => SameW w H H' ∧ WellAt H' w ∧ ∃ l, H' D = some (.lst (l.map nV)) ∧ Asc i l) ⟨SameW.new hD, hw.same (same_upd hD), [], upd_same, .nil, (fun _ h => nomatch h)⟩ (fun _ _ _ _ => trivial) (fun i x H2 H3 hi hP hY => ?_) (fun H2 hP => ?_)
    · obtain ⟨sm, hw2, l, hl, hA⟩ := hP
      obtain ⟨rfl, rfl⟩ := hY
      refine ⟨rfl, ?_⟩
      refine ⟨_, rfl, w, 3, rfl, hw2, by decide, by decide, fun r H4 r0 r1 s4 hw4 => ?_⟩
      have hl4 := s4 _ _ nD hl
      refine ⟨rfl, _, rfl, ite2 (fun h1 => ?_) (fun h1 => ?_)⟩
      · refine ⟨_, rfl, l.map nV, hl4, by rw [List.length_map]; exact small (Nat.le_trans hA.len (by omega)), ?_⟩
        have nDw := nD
        refine ⟨fun z o nz ez => ?_, ?_, l ++ [i], ?_, hA.snoc⟩
        · rw [upd_ne (ne_of_none ez hD)]
          exact s4 _ _ nz (sm _ _ nz ez)
        · obtain ⟨x, y, z, e⟩ := hw4
          exact ⟨x, y, z, (upd_ne (Ne.symm nD)).trans e⟩
        · rw [upd_same, List.map_append]
          have e2 : (0 : Int) + ((i : Nat) : Int) = i := Int.zero_add _
          show some (HO.lst (l.map nV ++ [V.int (0 + (i : Int))])) = _
          rw [e2]
          rfl
      · exact ⟨sm.trans s4, hw4, l, hl4, hA.mono (Nat.le_succ i)⟩
    · obtain ⟨sm, hw2, l, hl, hA⟩ := hP
      obtain ⟨l2, e2, hs⟩ := cut_nat l none (some k)
      refine ⟨_, rfl, _, rfl, k, rfl, D, _, rfl, SqL.of hl, fun p hp => ?_⟩
      rw [e2]
      refine ⟨p, _, rfl, .inl ⟨SqL.of upd_same, fun t ht => ?_⟩⟩
      have s1 := same_upd (o := .lst (l2.map nV)) hp
      have s2 := same_upd (o := .tup (l2.map nV)) ht
      exact q t l2 _ (sm.trans (.of (s1.trans s2))) (hw2.same (s1.trans s2)) (SqT.of upd_same) (hA.sub hs)
/-! ### _law_side -/
theorem scSide : FnScope ["_law_row", "_law_places_here", "_law_place"] ["_law_row", "_law_places_here"] (C8.fnScope sSide) := C8.fnScope_by (by decide +kernel)
def spSide (K : PySem.W.Frag) : Sp := fun vs H Q _ => ∃ (a b : Addr) (r l : List Nat), vs = [.ref a, .ref b] ∧ TupN K H a r ∧ (SqL K H b (l.map nV) ∨ SqT K H b (l.map nV)) ∧ r.length ≤ 1000 ∧ ∀ H', Same H H' → Q (bV (lp r (mem l))) H'
theorem ok_side {f : Addr} {fd : FuncData} (F : C8.Def K mg "_law_side" sSide f fd) (b : Binds K fd ["_law_row", "_law_places_here"] []) (T : Nm mg) : C8.Cal P w K mg base 1 "_law_side" (spSide K) [] := by
  refine C8.cal0 F b .nil scSide (fun vs H Q E h => ?_) (fun cdv A outer s H vs Q E hr h => ?_)
  · obtain ⟨a, b, r, l, rfl, _⟩ := h
    rfl
  · obtain ⟨a, b, r, l, rfl, ha, hb, hl, q⟩ := h
    refine ⟨_, pss_one (ps_ret (pe_op op_mod (pe_callB call_len_seq (by rfl) T.len PySem.boot_len (pa_cons
        (pe_lc (own := [("_law_place", 2)]) (g := gName 2) (tt := tTest (tOp (rIn K false) (tVar 2) (tVar 1))) rfl scSide.nd (pi_tup (pv 0))
          (blkOk_by (own := [("_law_place", 2)]) (N := ["_law_row", "_law_places_here", "_law_place"]) (sc := C8.fnScope sSide) (by decide +kernel))
          (fun _ _ _ _ _ => pg_name (i := 2) scSide.nd rfl (Or.inl rfl) (Or.inr rfl))
          (fun _ _ _ _ _ => pts_one (pt_cmpR op_in_seq (pv 2) (pv 1) (by rfl)))
          (fun _ _ _ _ _ => pv 2)) pa_nil)) pe_int)), ?_⟩
    refine ⟨_, rfl, a, rfl, ⟨_, ha⟩, fun D hD => ?_⟩
    refine lc_it (walk_tup (xs := r.map nV)) (LcP H D fun i => ((r.take i).filter (mem l)).map nV) (lcp_0 hD rfl) (fun i H2 _ k => Same.tup k.1 ha) (fun i x H2 H3 hi k y => ?_) (fun H2 k => ?_)
    · obtain ⟨rfl, hx⟩ := y
      obtain ⟨n, hn, rfl⟩ := map_get hx
      refine ⟨rfl, ?_⟩
      refine ⟨_, rfl, _, rfl, b, _, rfl, hb.elim (fun z => .inl (k.1.seq z)) (fun z => .inr (Same.tup k.1 z)), rfl, flat_nat l, _, rfl, ?_⟩
      show if inV (nV n) (l.map nV) = true then _ else _
      rw [inV_nat]
      cases e : mem l n with
      | true =>
        refine iteT ?_
        exact ⟨_, rfl, lcp_add hD k (Same.refl _) (by rw [take_next hn, List.filter_append, List.map_append]; simp [e]) (by rw [List.length_map]; exact small (Nat.le_trans (List.length_filter_le ..) (take_len hl)))⟩
      | false =>
        refine iteF ?_
        exact lcp_skip k (Same.refl _) (by rw [take_next hn, List.filter_append]; simp [e])
    · rw [List.length_map] at k
      have eD := lcp_end k (congrArg (fun z => (List.filter (mem l) z).map nV) List.take_length)
      refine ⟨D, _, rfl, .inl (SqL.of eD), _, _, rfl, rfl, (by show (0 : Int) < 2; decide), ?_⟩
      have e1 : ((((r.filter (mem l)).map nV).length : Nat) : Int) % 2 = bI (lp r (mem l)) := by rw [List.length_map, lp_filter]
      have e2 := q H2 k.1
      rw [show bV (lp r (mem l)) = V.int (((((r.filter (mem l)).map nV).length : Nat) : Int) % 2) from congrArg V.int e1.symm] at e2
      exact e2
end
end Pq

namespace Pq
open PySem L2
/-! ### equations in the heap: a tuple of a list and a side, the list not the one at lf -/
def EqAt (lf : Addr) (H : Hp) (t : Addr) (q : Eqn) : Prop := ∃ c, c ≠ lf ∧ H t = some (.tup [.ref c, bV q.2]) ∧ H c = some (.lst (q.1.map nV))
def Eqns (lf : Addr) (H : Hp) : List Addr → List Eqn → Prop := Paired (EqAt lf H)
theorem EqAt.same {lf t : Addr} {H H' : Hp} {q : Eqn} (h : EqAt lf H t q) (s : Same H H') : EqAt lf H' t q :=
  let ⟨c, n, h1, h2⟩ := h; ⟨c, n, s _ _ h1, s _ _ h2⟩
theorem EqAt.put {lf t : Addr} {H : Hp} {q : Eqn} {xs : List V} {o : HO} (h : EqAt lf H t q) (hl : H lf = some (.lst xs)) : EqAt lf (upd H lf o) t q := by
  obtain ⟨c, n, h1, h2⟩ := h
  exact ⟨c, n, (upd_ne (ne_of h1 hl (by intro z; cases z))).trans h1, (upd_ne n).trans h2⟩
theorem Eqns.same {lf : Addr} {H H' : Hp} {ts : List Addr} {l : List Eqn} (h : Eqns lf H ts l) (s : Same H H') : Eqns lf H' ts l := Paired.mapP h fun _ _ k => k.same s
theorem Eqns.put {lf : Addr} {H : Hp} {ts : List Addr} {l : List Eqn} {xs : List V} {o : HO} (h : Eqns lf H ts l) (hl : H lf = some (.lst xs)) : Eqns lf (upd H lf o) ts l := Paired.mapP h fun _ _ k => k.put hl
theorem Eqns.snoc {lf : Addr} {H : Hp} {ts : List Addr} {l : List Eqn} {t : Addr} {q : Eqn} (h : Eqns lf H ts l) (k : EqAt lf H t q) : Eqns lf H (ts ++ [t]) (l ++ [q]) := by
  unfold Eqns at h ⊢
  induction h with
  | nil => exact .cons k .nil
  | cons a _ ih => exact .cons a ih
theorem paired_snoc {α β : Type} {R : α → β → Prop} : ∀ {xs : List α} {ys : List β} {y : β}, Paired R xs (ys ++ [y]) → ∃ xs' x, xs = xs' ++ [x] ∧ Paired R xs' ys ∧ R x y
  | _, [], y, .cons r .nil => ⟨[], _, rfl, .nil, r⟩
  | _, z :: ys, y, .cons r t => by
    obtain ⟨xs', x, e, k, q⟩ := paired_snoc t
    exact ⟨_ :: xs', x, by rw [e]; rfl, .cons r k, q⟩
theorem list_end {α : Type} (l : List α) : l = [] ∨ ∃ r x, l = r ++ [x] := by
  cases l with
  | nil => exact .inl rfl
  | cons a r => exact .inr ⟨(a :: r).dropLast, (a :: r).getLast (List.cons_ne_nil _ _), (List.dropLast_concat_getLast _).symm⟩
/-! ### data that are compared -/
def natD (l : List Nat) : List PyData := l.map fun n : Nat => .int (n : Int)
def eqnD (q : Eqn) : PyData := .tuple [.list (natD q.1), .int (bI q.2)]
theorem dpAll_nat {K : PySem.W.Frag} {H : Hp} : ∀ l : List Nat, DpAll K H (l.map nV) (natD l)
  | [] => .nil
  | n :: r => .cons (.int _) (dpAll_nat r)
theorem canLay_nat : ∀ l : List Nat, PyData.canLayAll0 (natD l) = true
  | [] => rfl
  | n :: r => by
    show (PyData.canLay0 (.int (n : Int)) && PyData.canLayAll0 (natD r)) = true
    rw [canLay_nat r]
    rfl
theorem depth_nat : ∀ l : List Nat, PyData.depthAll (natD l) = 0
  | [] => rfl
  | n :: r => by
    show max (PyData.depth (.int (n : Int))) (PyData.depthAll (natD r)) = 0
    rw [depth_nat r]
    rfl
theorem shaped_nat (l : List Nat) : SeqAt.shaped (.list (natD l)) = true := by
  show (PyData.canLayAll0 (natD l) && decide (PyData.depthAll (natD l) + 1 ≤ 64)) = true
  rw [canLay_nat, depth_nat]
  rfl
theorem dpAll_eqn {K : PySem.W.Frag} {lf : Addr} {H : Hp} {ts : List Addr} {l : List Eqn} (h : Eqns lf H ts l) : DpAll K H (ts.map V.ref) (l.map eqnD) := by
  unfold Eqns at h
  induction h with
  | nil => exact .nil
  | cons a _ ih =>
    obtain ⟨c, _, h1, h2⟩ := a
    exact .cons (.tup (SqT.of h1) (.cons (.lst (SqL.of h2) (dpAll_nat _)) (.cons (.int _) .nil))) ih
theorem canLay_eqn : ∀ l : List Eqn, PyData.canLayAll0 (l.map eqnD) = true
  | [] => rfl
  | q :: r => by
    show (PyData.canLay0 (eqnD q) && PyData.canLayAll0 (r.map eqnD)) = true
    rw [canLay_eqn r]
    show ((PyData.canLayAll0 (natD q.1) && true) && true) = true
    rw [canLay_nat]
    rfl
theorem depth_eqn : ∀ l : List Eqn, PyData.depthAll (l.map eqnD) ≤ 2
  | [] => Nat.zero_le _
  | q :: r => by
    show max (PyData.depth (eqnD q)) (PyData.depthAll (r.map eqnD)) ≤ 2
    have h1 : PyData.depth (eqnD q) = 2 := by
      show max (PyData.depthAll (natD q.1) + 1) (max 0 0) + 1 = 2
      rw [depth_nat]
      rfl
    rw [h1]
    exact Nat.max_le.mpr ⟨Nat.le_refl _, depth_eqn r⟩
theorem shaped_eqn (l : List Eqn) : SeqAt.shaped (.list (l.map eqnD)) = true := by
  show (PyData.canLayAll0 (l.map eqnD) && decide (PyData.depthAll (l.map eqnD) + 1 ≤ 64)) = true
  have := depth_eqn l
  rw [canLay_eqn, decide_eq_true (by omega)]
  rfl
theorem eqv_empty : ∀ ds : List PyData, PyData.eqv (.list ds) (.list []) = ds.isEmpty
  | [] => rfl
  | _ :: _ => rfl
section
variable {P : Program} {w : World} {K : PySem.W.Frag} {mg : Str → Option Value} {base : Heap}
/-! ### _law_swept -/
abbrev nLSwept : List Str := ["_law_other", "_law_row", "_law_side_here", "_law_places_here", "_law_place"]
theorem scLSwept : FnScope nLSwept ["_law_other", "_law_row", "_law_side_here"] (C8.fnScope sLSwept) := C8.fnScope_by (by decide +kernel)
def spLSwept : Sp := fun vs H Q _ => ∃ (t r c0 : Addr) (o : Eqn) (row : List Nat) (s : Bool), vs = [.ref t, .ref r, bV s] ∧ H t = some (.tup [.ref c0, bV o.2]) ∧ H c0 = some (.lst (o.1.map nV)) ∧ H r = some (.lst (row.map nV)) ∧ Asc 1000 o.1 ∧ Asc 1000 row ∧
  ∀ (p c : Addr) (H' : Hp), Same H H' → H c = none → H' p = some (.tup [.ref c, bV (o.2 ^^ s)]) → H' c = some (.lst ((symd o.1 row).map nV)) → Q (.ref p) H'
theorem ok_lswept {f : Addr} {fd : FuncData} (F : C8.Def K mg "_law_swept" sLSwept f fd) (b : Binds K fd ["_law_other", "_law_row", "_law_side_here"] []) (T : Nm mg) : C8.Cal P w K mg base 1 "_law_swept" spLSwept [] := by
  refine C8.cal0 F b .nil scLSwept (fun vs H Q E h => ?_) (fun cdv A outer s H vs Q E hr h => ?_)
  · obtain ⟨t, r, c0, o, row, sd, rfl, _⟩ := h
    rfl
  · obtain ⟨t, r, c0, o, row, sd, rfl, ht, hc, hrow, hA, hB, q⟩ := h
    refine ⟨_, pss_cons (ps_set (i := 3) scLSwept.nd rfl (.inl rfl) (pe_op op_cat
        (pe_lc (own := [("_law_place", 4)]) (g := gName 4) (tt := tTest (tOp (rIn K true) (tVar 4) (tVar 1))) rfl scLSwept.nd (pi_list (pe_ix ix_tup (pv 0) pe_int (fun _ _ => rfl)))
          (blkOk_by (own := [("_law_place", 4)]) (N := nLSwept) (sc := C8.fnScope sLSwept) (by decide +kernel))
          (fun _ _ _ _ _ => pg_name (i := 4) scLSwept.nd rfl (Or.inl rfl) (Or.inr rfl))
          (fun _ _ _ _ _ => pts_one (pt_cmpR op_notIn_seq (pv 4) (pv 1) (by rfl)))
          (fun _ _ _ _ _ => pv 4))
        (pe_lc (own := [("_law_place", 4)]) (g := gName 4) (tt := tTest (tOp (rIn K true) (tVar 4) (tOp (rIxT K) (tVar 0) (tC (.int 0))))) rfl scLSwept.nd (pi_list (pv 1))
          (blkOk_by (own := [("_law_place", 4)]) (N := nLSwept) (sc := C8.fnScope sLSwept) (by decide +kernel))
          (fun _ _ _ _ _ => pg_name (i := 4) scLSwept.nd rfl (Or.inl rfl) (Or.inr rfl))
          (fun _ _ _ _ _ => pts_one (pt_cmpR op_notIn_seq (pv 4) (pe_ix ix_tup (pv 0) pe_int (fun _ _ => rfl)) (by rfl)))
          (fun _ _ _ _ _ => pv 4))))
      (pss_one (ps_ret (pe_tup (pa_cons (pe_callB cr_sortedI (by rfl) T.sorted (by decide +kernel) (pa_cons (pv 3) pa_nil)) (pa_cons (pe_op op_mod (pe_op op_add (pe_ix ix_tup (pv 0) pe_int (fun _ _ => rfl)) (pv 2)) pe_int) pa_nil))))), ?_⟩
    refine ⟨_, rfl, t, _, _, .ref c0, rfl, rfl, SqT.of ht, atI_nat (j := 0) rfl, c0, rfl, ⟨_, SqL.of hc⟩, fun D hD => ?_⟩
    refine lc_it (walk_list (xs := o.1.map nV)) (LcP H D fun i => ((o.1.take i).filter fun p => !mem row p).map nV) (lcp_0 hD rfl) (fun i H2 _ k => SqL.of (k.1 _ _ hc)) (fun i x H2 H3 hi k y => ?_) (fun H2 k => ?_)
    · obtain ⟨rfl, hx⟩ := y
      obtain ⟨n, hn, rfl⟩ := map_get hx
      refine ⟨rfl, ?_⟩
      refine ⟨_, rfl, _, rfl, r, _, rfl, .inl (SqL.of (k.1 _ _ hrow)), rfl, flat_nat row, _, rfl, ?_⟩
      show if (!inV (nV n) (row.map nV)) = true then _ else _
      rw [inV_nat]
      cases e : mem row n with
      | true =>
        refine iteF ?_
        exact lcp_skip k (Same.refl _) (by rw [take_next hn, List.filter_append]; simp [e])
      | false =>
        refine iteT ?_
        exact ⟨_, rfl, lcp_add hD k (Same.refl _) (by rw [take_next hn, List.filter_append, List.map_append]; simp [e]) (by rw [List.length_map]; exact small (Nat.le_trans (List.length_filter_le ..) (take_len hA.len)))⟩
    · rw [List.length_map] at k
      have eD := lcp_end k (congrArg (fun z => (List.filter (fun p => !mem row p) z).map nV) List.take_length)
      have s2 : Same H H2 := k.1
      refine ⟨_, rfl, r, rfl, ⟨_, SqL.of (s2 _ _ hrow)⟩, fun D2 hD2 => ?_⟩
      refine lc_it (walk_list (xs := row.map nV)) (LcP H2 D2 fun i => ((row.take i).filter fun p => !mem o.1 p).map nV) (lcp_0 hD2 rfl) (fun i H3 _ k2 => SqL.of (k2.1 _ _ (s2 _ _ hrow))) (fun i x H3 H4 hi k2 y => ?_) (fun H3 k2 => ?_)
      · obtain ⟨rfl, hx⟩ := y
        obtain ⟨n, hn, rfl⟩ := map_get hx
        have s4 := s2.trans k2.1
        refine ⟨rfl, ?_⟩
        refine ⟨_, rfl, _, rfl, t, _, _, .ref c0, rfl, rfl, SqT.of (s4 _ _ ht), atI_nat (j := 0) rfl, c0, _, rfl, .inl (SqL.of (s4 _ _ hc)), rfl, flat_nat o.1, _, rfl, ?_⟩
        show if (!inV (nV n) (o.1.map nV)) = true then _ else _
        rw [inV_nat]
        cases e : mem o.1 n with
        | true =>
          refine iteF ?_
          exact lcp_skip k2 (Same.refl _) (by rw [take_next hn, List.filter_append]; simp [e])
        | false =>
          refine iteT ?_
          exact ⟨_, rfl, lcp_add hD2 k2 (Same.refl _) (by rw [take_next hn, List.filter_append, List.map_append]; simp [e]) (by rw [List.length_map]; exact small (Nat.le_trans (List.length_filter_le ..) (take_len hB.len)))⟩
      · rw [List.length_map] at k2
        have eD2 := lcp_end k2 (congrArg (fun z => (List.filter (fun p => !mem o.1 p) z).map nV) List.take_length)
        have eD3 := k2.1 _ _ eD
        have s3 := s2.trans k2.1
        have hl1 : (o.1.filter fun p => !mem row p).length ≤ 1000 := Nat.le_trans (List.length_filter_le ..) hA.len
        have hl2 : (row.filter fun p => !mem o.1 p).length ≤ 1000 := Nat.le_trans (List.length_filter_le ..) hB.len
        refine ⟨D, D2, _, _, rfl, rfl, eD3, eD2, by rw [List.length_map, List.length_map]; exact Nat.le_of_lt (small1000000 (by omega)), fun L hL => ?_⟩
        have sL : Same H3 (upd H3 L _) := same_upd (o := .lst ((o.1.filter fun p => !mem row p).map nV ++ (row.filter fun p => !mem o.1 p).map nV)) hL
        refine ⟨_, rfl, L, ((o.1.filter fun p => !mem row p) ++ row.filter fun p => !mem o.1 p).map fun p : Nat => (p : Int), rfl, sqL_eq upd_same (by rw [List.map_append, List.map_append, nV_map, nV_map]), fun ns c hperm hsrt hcn => ?_⟩
        obtain ⟨gs, hg, rfl⟩ := perm_map_inv hperm
        have hgs : gs = symd o.1 row := symd_sorted hA hB hg ((List.pairwise_map.mp hsrt).imp fun h => by omega)
        have sc := same_upd (o := .lst ((gs.map fun p : Nat => (p : Int)).map V.int)) hcn
        have s5 := (s3.trans sL).trans sc
        refine ⟨_, rfl, t, _, _, bV o.2, rfl, rfl, SqT.of (s5 _ _ ht), atI_nat (j := 1) rfl, _, rfl, _, _, rfl, rfl, _, _, rfl, rfl, (by show (0 : Int) < 2; decide), by show 2 ≤ sizeLine; decide, fun p hp => ?_⟩
        have sp := same_upd (o := .tup [.ref c, .int ((bI o.2 + bI sd) % 2)]) hp
        refine q p c _ (s5.trans sp) ((s3.trans sL).free hcn) ?_ ?_
        · refine upd_same.trans ?_
          show some (HO.tup [V.ref c, V.int ((bI o.2 + bI sd) % 2)]) = _
          rw [bI_xor]
        · refine sp _ _ ?_
          rw [upd_same, ← nV_map, hgs]
end
end Pq

namespace Pq
open PySem L2
section
variable {P : Program} {w : World} {K : PySem.W.Frag} {mg : Str → Option Value} {base : Heap}
/-! ### _law_has_solution -/
abbrev nHas : List Str := ["_law_rows", "_law_sides", "_law_row", "_law_side_here", "_law_left", "_law_other"]
theorem scHas : FnScope nHas ["_law_rows", "_law_sides"] (C8.fnScope sHas) := C8.fnScope_by (by decide +kernel)
def spHas (K : PySem.W.Frag) : Sp := fun vs H Q _ => ∃ (a b : Addr) (rows : List (List Nat)) (sides : List Bool), vs = [.ref a, .ref b] ∧ RowsAt K H a rows ∧ TupB K H b sides ∧ Quest 1000 rows sides ∧ rows.length ≤ 60 ∧
  ∀ (v : Bool) (H' : Hp), Same H H' → (v = true ↔ Solvable rows sides) → Q (.bl v) H'
abbrev tListT (K : PySem.W.Frag) : TE := tTup (tCons (tCB (fun xs H Q => ∃ p ys, xs = [.ref p] ∧ (SqL K H p ys ∨ SqT K H p ys) ∧ ∀ l, H l = none → Q (.ref l) (upd H l (.lst ys))) (tCons (tVar 2) tNil)) (tCons (tVar 3) tNil))
abbrev tSweepT (K : PySem.W.Frag) : TE := tIf (tTest (tOp (rIn K false) (tOp (rIxL K) (tVar 2) (tC (.int 0))) (tOp (rIxT K) (tVar 5) (tC (.int 0))))) (tCall spLSwept [] C8.E0 (tCons (tVar 5) (tCons (tVar 2) (tCons (tVar 3) tNil)))) (tVar 5)
theorem ok_has {f : Addr} {fd : FuncData} (F : C8.Def K mg "_law_has_solution" sHas f fd) (b : Binds K fd ["_law_rows", "_law_sides"] []) (T : Nm mg) (cL : C8.Cal P w K mg base 1 "_law_swept" spLSwept []) :
    C8.Cal P w K mg base 2 "_law_has_solution" (spHas K) [] := by
  refine C8.cal0 F b .nil scHas (fun vs H Q E h => ?_) (fun cdv A outer s H vs Q E hr h => ?_)
  · obtain ⟨a, b, rows, sides, rfl, _⟩ := h
    rfl
  · obtain ⟨a, b, rows, sides, rfl, ⟨ps, ha, hrows⟩, hb, hQ, hlen, q⟩ := h
    have hpl : ps.length = rows.length := hrows.len
    refine ⟨_, pss_cons (ps_setLc (i := 4) (own := [("_law_row", 2), ("_law_side_here", 3)]) (g := gTup K 2 (gCons (gName 2) (gCons (gName 3) gNil))) (te := tListT K) rfl scHas.nd rfl rfl (sw_true rfl rfl rfl (by decide +kernel))
        (RZ.pi_zipA (by rfl) T.zip (pa_cons (pv 0) (pa_cons (pv 1) pa_nil)))
        (blkOk_by (own := [("_law_row", 2), ("_law_side_here", 3)]) (N := nHas) (sc := C8.fnScope sHas) (by decide +kernel))
        (fun _ _ _ _ _ => pg_tup rfl (pgs_cons (pg_name (i := 2) scHas.nd rfl (Or.inl rfl) (Or.inr rfl)) (pgs_cons (pg_name (i := 3) scHas.nd rfl (Or.inl rfl) (Or.inr rfl)) pgs_nil)))
        (fun _ _ _ _ _ => pts_nil)
        (fun _ _ _ _ _ => pe_tup (pa_cons (pe_callTy call_list_of (by rfl) T.list (by decide +kernel) (pa_cons (pv 2) pa_nil)) (pa_cons (pv 3) pa_nil))))
      (pss_cons (ps_while PassesOwn.never (pt_cmpR (op_neD hr.units) (pv 4) (pe_lst pa_nil) (nomark _))
        (pss_cons (ps_asg (pe_bm0 PySem.F.plainAttrs_list PySem.F.slot_list_pop PySem.F.type_list_pop mt_pop (pv 4)) (pg_tup rfl (pgs_cons (pg_name (i := 2) scHas.nd rfl (.inr rfl)) (pgs_cons (pg_name (i := 3) scHas.nd rfl (.inr rfl)) pgs_nil))))
        (pss_one (ps_if (pt_cmpR (op_eqD hr.units) (pv 2) (pe_lst pa_nil) (nomark _))
          (pss_one (ps_if (pt_cmpR op_eq (pv 3) pe_int (nomark _)) (pss_one (ps_ret pe_bl)) pss_nil))
          (pss_one (ps_setLc (i := 4) (own := [("_law_other", 5)]) (g := gName 5) (te := tSweepT K) rfl scHas.nd rfl rfl (sw_true rfl rfl rfl (by decide +kernel)) (pi_list (pv 4))
            (blkOk_by (own := [("_law_other", 5)]) (N := nHas) (sc := C8.fnScope sHas) (by decide +kernel))
            (fun _ _ _ _ _ => pg_name (i := 5) scHas.nd rfl (Or.inl rfl) (Or.inr rfl))
            (fun _ _ _ _ _ => pts_nil)
            (fun _ _ _ _ _ => pe_ifExp (pt_cmpR op_in_seq (pe_ix ix_list (pv 2) pe_int (fun _ _ => rfl)) (pe_ix ix_tup (pv 5) pe_int (fun _ _ => rfl)) (by rfl))
              (C8.pe_c cL hr (by decide) (by rfl) (pa_cons (pv 5) (pa_cons (pv 2) (pa_cons (pv 3) pa_nil)))) (pv 5))))))))
      (pss_one (ps_ret pe_bl))), ?_⟩
    -- left
    refine ⟨_, rfl, _, rfl, a, b, _, _, rfl, .inr ⟨ha, hb, fun D hD => ?_⟩⟩
    have hzl : (rows.zip sides).length = rows.length := by rw [List.length_zip, hQ.len, Nat.min_self]
    refine lc_it (walk_zipT (xs := ps.map V.ref) (ys := sides.map bV) (n := rows.length) (by rw [List.length_map, List.length_map, hpl, hQ.len, Nat.min_self])) (fun i H' => Same H H' ∧ ∃ ts, H' D = some (.lst (ts.map V.ref)) ∧ Eqns D H' ts ((rows.zip sides).take i))
      ⟨same_upd hD, [], upd_same, .nil⟩ (fun i H2 _ k => ⟨Same.tup k.1 ha, Same.tup k.1 hb⟩) (fun i x H2 H3 hi k y => ?_) (fun H2 k => ?_)
    · obtain ⟨sm, ts, hD2, hE⟩ := k
      obtain ⟨t, x, y, rfl, ht, rfl, hx, hy⟩ := y
      obtain ⟨d, hd, rfl⟩ := map_get hx
      obtain ⟨sd, hs1, rfl⟩ := map_get hy
      obtain ⟨r, hr1, hdr⟩ := hrows.get hd
      have hz : (rows.zip sides)[i]? = some (r, sd) := by rw [List.getElem?_zip_eq_some]; exact ⟨hr1, hs1⟩
      have st := same_upd (o := .tup [.ref d, bV sd]) ht
      have s3 := sm.trans st
      refine ⟨t, _, rfl, SqT.of upd_same, rfl, _, _, rfl, _, _, rfl, rfl, rfl, ?_⟩
      refine ⟨_, rfl, d, _, rfl, .inr (hdr.same s3 : SqT K _ d (r.map nV)), fun c hc => ?_⟩
      have sc := same_upd (o := .lst (r.map nV)) hc
      refine ⟨_, rfl, by show 2 ≤ sizeLine; decide, fun p hp => ?_⟩
      have sp := same_upd (o := .tup [.ref c, bV sd]) hp
      have s5 := (st.trans sc).trans sp
      have hD5 := s5 _ _ hD2
      have ncD : c ≠ D := (ne_of_none (st _ _ hD2) hc).symm
      refine ⟨ts.map V.ref, hD5, by rw [List.length_map, Paired.length hE]; exact small (take_len (by rw [hzl]; omega)), fun z o ez => ?_, ts ++ [p], ?_, ?_⟩
      · rw [upd_ne (ne_of_none ez hD)]
        exact s5 _ _ (sm _ _ ez)
      · rw [upd_same, List.map_append]
        rfl
      · rw [take_next hz]
        exact ((hE.same s5).snoc ⟨c, ncD, upd_same, sp _ _ upd_same⟩).put hD5
    · obtain ⟨sm, ts, hD2, hE⟩ := k
      rw [← hzl, List.take_length] at hE
      have hD0 : H D = none := hD
      -- while left != []
      refine ⟨fun m σ H' => ∃ (left : List Eqn) (ts : List Addr) (lf : Addr) (v2 v3 : Option V), m = left.length ∧ σ = [some (.ref a), some (.ref b), v2, v3, some (.ref lf), none] ∧ Same H H' ∧ H lf = none ∧ H' lf = some (.lst (ts.map V.ref)) ∧ Eqns lf H' ts left ∧
          (∀ e ∈ left, Asc 1000 e.1) ∧ left.length ≤ 60 ∧ ((∃ x, SatL left x) ↔ Solvable rows sides),
        ⟨_, rows.zip sides, ts, D, none, none, rfl, rfl, sm, hD0, hD2, hE, fun e he => hQ.asc e.1 (List.of_mem_zip he).1, by rw [hzl]; exact hlen, ?_⟩, ?_⟩
      · exact ⟨fun ⟨x, hx⟩ => ⟨x, (satL_zip hQ.len x).mp hx⟩, fun ⟨x, hx⟩ => ⟨x, (satL_zip hQ.len x).mpr hx⟩⟩
      · rintro m σ H3 ⟨left, ts, lf, v2, v3, rfl, rfl, s3, hlf0, hlf, hE3, hA, hl60, hiff⟩
        refine ⟨_, rfl, Nat.zero_le _, fun p hp => ?_⟩
        have sp := same_upd (o := .lst []) hp
        have hlf4 := sp _ _ hlf
        have hE4 := hE3.same sp
        have s4 := s3.trans sp
        generalize hH4 : upd H3 p (.lst []) = H4 at *
        have hp4 : H4 p = some (.lst []) := by rw [← hH4]; exact upd_same
        refine ⟨.list (left.map eqnD), .list [], .lst (SqL.of hlf4) (dpAll_eqn hE4), .lst (SqL.of hp4) .nil, shaped_eqn left, rfl, _, rfl, ?_⟩
        rw [eqv_empty]
        rcases list_end left with rfl | ⟨l, ⟨row, sd⟩, rfl⟩
        · -- nothing is left
          refine iteF ?_
          exact q true H4 s4 ⟨fun _ => hiff.mp satL_nil, fun _ => rfl⟩
        · have hne : ((l ++ [(row, sd)]).map eqnD).isEmpty = false := by
            rw [List.map_append]
            cases l.map eqnD <;> rfl
          rw [hne]
          refine iteT ?_
          obtain ⟨ts', t0, rfl, hE5, c0, hc0, ht0, hr0⟩ := paired_snoc hE4
          have hrowA : Asc 1000 row := hA (row, sd) (List.mem_append_right _ (List.mem_singleton.mpr rfl))
          have hlA : ∀ e ∈ l, Asc 1000 e.1 := fun e he => hA e (List.mem_append_left _ he)
          have hl59 : l.length + 1 ≤ 60 := by
            rw [List.length_append] at hl60
            exact hl60
          refine ⟨fun σ' H' => ∃ (left : List Eqn) (ts : List Addr) (lf : Addr) (v2 v3 : Option V), left.length = l.length ∧ σ' = [some (.ref a), some (.ref b), v2, v3, some (.ref lf), none] ∧ Same H H' ∧ H lf = none ∧ H' lf = some (.lst (ts.map V.ref)) ∧ Eqns lf H' ts left ∧
              (∀ e ∈ left, Asc 1000 e.1) ∧ ((∃ x, SatL left x) ↔ Solvable rows sides),
            fun σ' H' ⟨left, ts, lf, v2, v3, e1, e2, e3, e4, e5, e6, e7, e8⟩ => ⟨left.length, by rw [e1, List.length_append]; exact Nat.lt_succ_self _, left, ts, lf, v2, v3, rfl, e2, e3, e4, e5, e6, e7, by omega, e8⟩, ?_⟩
          -- pop
          have elast : ((ts' ++ [t0]).map V.ref)[((ts' ++ [t0]).map V.ref).length - 1]? = some (V.ref t0) := by
            rw [List.map_append, List.length_append, List.length_map]
            show (ts'.map V.ref ++ [V.ref t0])[ts'.length + 1 - 1]? = _
            rw [Nat.add_sub_cancel, List.getElem?_append_right (by rw [List.length_map]; exact Nat.le_refl _), List.length_map, Nat.sub_self]
            rfl
          refine ⟨_, rfl, .inl ⟨rfl, _, SqL.of hlf4⟩, lf, _, _, rfl, rfl, hlf4, elast, ?_⟩
          have edrop : ((ts' ++ [t0]).map V.ref).dropLast = ts'.map V.ref := by
            rw [List.map_append]
            exact List.dropLast_concat
          rw [edrop]
          have hE6 : Eqns lf (upd H4 lf (.lst (ts'.map V.ref))) ts' l := Eqns.put hE5 hlf4
          have nt : t0 ≠ lf := ne_of ht0 hlf4 (by intro z; cases z)
          have ht6 : upd H4 lf (.lst (ts'.map V.ref)) t0 = some (.tup [.ref c0, bV sd]) := (upd_ne nt).trans ht0
          have hr6 : upd H4 lf (.lst (ts'.map V.ref)) c0 = some (.lst (row.map nV)) := (upd_ne hc0).trans hr0
          have hlf6 : upd H4 lf (.lst (ts'.map V.ref)) lf = some (.lst (ts'.map V.ref)) := upd_same
          have s6 : Same H (upd H4 lf (.lst (ts'.map V.ref))) := fun z o ez => by
            rw [upd_ne (ne_of_none ez hlf0)]
            exact s4 _ _ ez
          generalize hH6 : upd H4 lf (.lst (ts'.map V.ref)) = H6 at *
          refine ⟨t0, _, rfl, SqT.of ht6, rfl, _, _, rfl, _, _, rfl, rfl, ?_⟩
          -- if row == []
          refine ⟨_, rfl, Nat.zero_le _, fun p2 hp2 => ?_⟩
          have sp2 := same_upd (o := .lst []) hp2
          have s7 := s6.trans sp2
          have hlf7 := sp2 _ _ hlf6
          have hE7 := hE6.same sp2
          have hr7 := sp2 _ _ hr6
          have hp27 : upd H6 p2 (.lst []) p2 = some (.lst []) := upd_same
          generalize hH7 : upd H6 p2 (.lst []) = H7 at *
          refine ⟨.list (natD row), .list [], .lst (SqL.of hr7) (dpAll_nat row), .lst (SqL.of hp27) .nil, shaped_nat row, rfl, _, rfl, ?_⟩
          rw [eqv_empty]
          cases row with
          | nil =>
            refine iteT ?_
            refine ⟨_, rfl, rfl, _, rfl, ite2 (fun h1 => ?_) (fun h1 => ?_)⟩
            · have e1 : sd = true := bI_one.mp (of_decide_eq_true h1)
              subst e1
              refine q false H7 s7 ⟨fun e => (by cases e), fun hs => ?_⟩
              have := satL_empty.mp (hiff.mpr hs)
              exact absurd this.1 (by decide)
            · have e1 : sd = false := by
                cases z : sd with
                | false => rfl
                | true => exact absurd (decide_eq_true (bI_one.mpr z)) h1
              subst e1
              exact ⟨l, ts', lf, _, _, rfl, rfl, s7, hlf0, hlf7, hE7, hlA, (⟨fun h => ⟨rfl, h⟩, fun h => h.2⟩ : _ ↔ _).trans (satL_empty.symm.trans hiff)⟩
          | cons p3 r3 =>
            refine iteF ?_
            -- left = [..]
            refine ⟨_, rfl, lf, rfl, ⟨_, SqL.of hlf7⟩, fun D2 hD2 => ?_⟩
            have htl : ts'.length = l.length := Paired.length hE7
            refine lc_it (walk_list (xs := ts'.map V.ref)) (fun i H' => Same H7 H' ∧ ∃ us, H' D2 = some (.lst (us.map V.ref)) ∧ Eqns D2 H' us ((l.take i).map (sweep p3 (p3 :: r3, sd))))
              ⟨same_upd hD2, [], upd_same, .nil⟩ (fun i H8 _ k => SqL.of (k.1 _ _ hlf7)) (fun i x H8 H9 hi k y => ?_) (fun H8 k => ?_)
            · obtain ⟨s8, us, hus, hU⟩ := k
              obtain ⟨rfl, hx⟩ := y
              obtain ⟨t1, ht1, rfl⟩ := map_get hx
              obtain ⟨o, ho, c1, hc1, hto, hco⟩ := paired_get hE7 ht1
              have hoA : Asc 1000 o.1 := hlA o (get_mem ho)
              have hto8 := s8 _ _ hto
              have hco8 := s8 _ _ hco
              have hr8 := s8 _ _ hr7
              have lenU : us.length = ((l.take i).map (sweep p3 (p3 :: r3, sd))).length := Paired.length hU
              have usm : (us.map V.ref).length < sizeLine := by
                rw [List.length_map, lenU, List.length_map]
                exact small (take_len (by omega))
              have etake : (l.take (i + 1)).map (sweep p3 (p3 :: r3, sd)) = (l.take i).map (sweep p3 (p3 :: r3, sd)) ++ [sweep p3 (p3 :: r3, sd) o] := by rw [take_next ho, List.map_append]; rfl
              refine ⟨rfl, ?_⟩
              refine ⟨_, rfl, c0, _, _, nV p3, rfl, rfl, SqL.of hr8, atI_nat (j := 0) rfl, ?_⟩
              refine ⟨_, rfl, t1, _, _, .ref c1, rfl, rfl, SqT.of hto8, atI_nat (j := 0) rfl, c1, _, rfl, .inl (SqL.of hco8), rfl, flat_nat o.1, _, rfl, ?_⟩
              show if inV (nV p3) (o.1.map nV) = true then _ else _
              rw [inV_nat]
              cases e : mem o.1 p3 with
              | true =>
                have em : p3 ∈ o.1 := of_decide_eq_true e
                have esw : sweep p3 (p3 :: r3, sd) o = (symd o.1 (p3 :: r3), o.2 ^^ sd) := if_pos em
                refine iteT ?_
                refine ⟨_, rfl, _, rfl, _, rfl, t1, c0, c1, o, p3 :: r3, sd, rfl, hto8, hco8, hr8, hoA, hrowA, fun np nc H9 s9 hcn hnp hnc => ?_⟩
                have ncD : nc ≠ D2 := (ne_of_none hus hcn).symm
                have hus9 := s9 _ _ hus
                refine ⟨us.map V.ref, hus9, usm, fun z u ez => ?_, us ++ [np], ?_, ?_⟩
                · rw [upd_ne (ne_of_none ez hD2)]
                  exact s9 _ _ (s8 _ _ ez)
                · rw [upd_same, List.map_append]
                  rfl
                · rw [etake, esw]
                  exact ((hU.same s9).snoc ⟨nc, ncD, hnp, hnc⟩).put hus9
              | false =>
                have em : p3 ∉ o.1 := of_decide_eq_false e
                have esw : sweep p3 (p3 :: r3, sd) o = o := if_neg em
                refine iteF ?_
                refine ⟨_, rfl, us.map V.ref, hus, usm, fun z u ez => ?_, us ++ [t1], ?_, ?_⟩
                · rw [upd_ne (ne_of_none ez hD2)]
                  exact s8 _ _ ez
                · rw [upd_same, List.map_append]
                  rfl
                · rw [etake, esw]
                  exact (hU.snoc ⟨c1, ne_of_none hco hD2, hto8, hco8⟩).put hus
            · obtain ⟨s8, us, hus, hU⟩ := k
              rw [List.length_map, htl, List.take_length] at hU
              refine ⟨l.map (sweep p3 (p3 :: r3, sd)), us, D2, _, _, List.length_map .., rfl, s7.trans s8, s7.free hD2, hus, hU, fun e he => ?_, (sweep_iff hlA hrowA).symm.trans hiff⟩
              obtain ⟨o, ho, rfl⟩ := List.mem_map.mp he
              unfold sweep
              split
              · exact symd_asc ..
              · exact hlA o ho
end
end Pq

namespace Pq
open PySem L2
/-! ### data that are compared -/
def bitD (b : Bool) : PyData := .int (bI b)
theorem dpAll_bit {K : PySem.W.Frag} {H : Hp} : ∀ l : List Bool, DpAll K H (l.map bV) (l.map bitD)
  | [] => .nil
  | b :: r => .cons (.int _) (dpAll_bit r)
theorem canLay_bit : ∀ l : List Bool, PyData.canLayAll0 (l.map bitD) = true
  | [] => rfl
  | b :: r => by
    show (true && PyData.canLayAll0 (r.map bitD)) = true
    rw [canLay_bit r]
    rfl
theorem depth_bit : ∀ l : List Bool, PyData.depthAll (l.map bitD) = 0
  | [] => rfl
  | b :: r => by
    show max 0 (PyData.depthAll (r.map bitD)) = 0
    rw [depth_bit r]
    rfl
theorem shaped_bit (l : List Bool) : SeqAt.shaped (.list (l.map bitD)) = true := by
  show (PyData.canLayAll0 (l.map bitD) && decide (PyData.depthAll (l.map bitD) + 1 ≤ 64)) = true
  rw [canLay_bit, depth_bit]
  rfl
theorem eqvAll_bit : ∀ xs ys : List Bool, PyData.eqvAll (xs.map bitD) (ys.map bitD) = decide (xs = ys)
  | [], [] => rfl
  | [], _ :: _ => rfl
  | _ :: _, [] => rfl
  | x :: xs, y :: ys => by
    show ((bI x == bI y) && PyData.eqvAll (xs.map bitD) (ys.map bitD)) = _
    rw [eqvAll_bit xs ys]
    by_cases e : x = y
    · subst e
      simp
    · have : (bI x == bI y) = false := by rw [beq_eq_false_iff_ne]; exact fun z => e (bI_inj.mp z)
      rw [this]
      simp [e]
theorem eqv_bit (xs ys : List Bool) : PyData.eqv (.list (xs.map bitD)) (.list (ys.map bitD)) = decide (xs = ys) := eqvAll_bit xs ys
theorem eqv_nat (l : List Nat) : PyData.eqv (.list (natD l)) (.list (natD l)) = true := by
  show PyData.eqvAll (natD l) (natD l) = true
  induction l with
  | nil => rfl
  | cons n r ih =>
    show (((n : Int) == (n : Int)) && PyData.eqvAll (natD r) (natD r)) = true
    rw [ih]
    simp
/-- ints in order, without doubles: the naturals that are their members -/
theorem set_nat {ns : List Int} {l : List Nat} (hl : l.Pairwise (· < ·)) (h1 : ns.Pairwise (· < ·)) (h2 : ∀ k : Int, k ∈ ns ↔ decide (k ∈ l.map fun p : Nat => (p : Int)) = true) : ns = l.map fun p : Nat => (p : Int) := by
  have hl2 : (l.map fun p : Nat => (p : Int)).Pairwise (· < ·) := by
    rw [List.pairwise_map]
    exact hl.imp fun h => by omega
  have hp : ns.Perm (l.map fun p : Nat => (p : Int)) := (List.perm_ext_iff_of_nodup (h1.imp fun h => Int.ne_of_lt h) (hl2.imp fun h => Int.ne_of_lt h)).mpr fun k => (h2 k).trans decide_eq_true_iff
  exact hp.eq_of_pairwise (fun x y _ _ a b => absurd (Int.lt_trans a b) (Int.lt_irrefl _)) h1 hl2
/-- lists of naturals -/
def LotsAt (H : Hp) : List Addr → List (List Nat) → Prop := Paired fun t l => H t = some (.lst (l.map nV))
theorem LotsAt.same {H H' : Hp} {ts : List Addr} {ls : List (List Nat)} (h : LotsAt H ts ls) (s : Same H H') : LotsAt H' ts ls := Paired.mapP h fun _ _ k => s _ _ k
def LotsN (D : Addr) (H : Hp) : List Addr → List (List Nat) → Prop := Paired fun t l => t ≠ D ∧ H t = some (.lst (l.map nV))
theorem LotsN.same {D : Addr} {H H' : Hp} {ts : List Addr} {ls : List (List Nat)} (h : LotsN D H ts ls) (s : Same H H') : LotsN D H' ts ls := Paired.mapP h fun _ _ k => ⟨k.1, s _ _ k.2⟩
theorem LotsN.put {D : Addr} {H : Hp} {o : HO} {ts : List Addr} {ls : List (List Nat)} (h : LotsN D H ts ls) : LotsN D (upd H D o) ts ls := Paired.mapP h fun _ _ k => ⟨k.1, (upd_ne k.1).trans k.2⟩
theorem LotsN.lots {D : Addr} {H : Hp} {ts : List Addr} {ls : List (List Nat)} (h : LotsN D H ts ls) : LotsAt H ts ls := Paired.mapP h fun _ _ k => k.2
theorem paired_one {α β : Type} {R : α → β → Prop} {xs : List α} {ys : List β} {x : α} {y : β} (h : Paired R xs ys) (k : R x y) : Paired R (xs ++ [x]) (ys ++ [y]) := by
  induction h with
  | nil => exact .cons k .nil
  | cons a _ ih => exact .cons a ih
theorem paired_app {α β : Type} {R : α → β → Prop} {xs xs' : List α} {ys ys' : List β} (h : Paired R xs ys) (k : Paired R xs' ys') : Paired R (xs ++ xs') (ys ++ ys') := by
  induction h with
  | nil => exact k
  | cons a _ ih => exact .cons a ih
section
variable {P : Program} {w : World} {K : PySem.W.Frag} {mg : Str → Option Value} {base : Heap}
/-! ### _law_all_lots -/
abbrev nAllLots : List Str := ["_law_most", "_law_found", "_law_place", "_law_lot"]
theorem scAllLots : FnScope nAllLots ["_law_most"] (C8.fnScope sAllLots) := C8.fnScope_by (by decide +kernel)
def spAllLots : Sp := fun vs H Q _ => ∃ m : Nat, vs = [nV m] ∧ m ≤ 8 ∧ ∀ (p : Addr) (ts : List Addr) (H' : Hp), Same H H' → H' p = some (.lst (ts.map V.ref)) → LotsAt H' ts (allLots m) → Q (.ref p) H'
theorem lots_le {n : Nat} (h : n ≤ 8) : (allLots n).length ≤ 256 := by
  rw [allLots_len]
  exact Nat.le_trans (Nat.pow_le_pow_right (by decide) h) (by decide)
theorem ok_allLots {f : Addr} {fd : FuncData} (F : C8.Def K mg "_law_all_lots" sAllLots f fd) (b : Binds K fd ["_law_most"] []) (T : Nm mg) : C8.Cal P w K mg base 1 "_law_all_lots" spAllLots [] := by
  refine C8.cal0 F b .nil scAllLots (fun vs H Q E h => ?_) (fun cdv A outer s H vs Q E hr h => ?_)
  · obtain ⟨m, rfl, _⟩ := h
    rfl
  · obtain ⟨m, rfl, hm, q⟩ := h
    refine ⟨_, pss_cons (ps_set (i := 1) scAllLots.nd rfl (.inl rfl) (pe_lst (pa_cons (pe_lst pa_nil) pa_nil)))
      (pss_cons (ps_for PassesOwn.never rfl (pi_range1 (by rfl) T.range (pa_cons (pv 0) pa_nil)) (pg_name (i := 2) scAllLots.nd rfl (.inr rfl))
        (pss_one (ps_set (i := 1) scAllLots.nd rfl (.inl rfl) (pe_op op_cat (pv 1)
          (pe_lc (own := [("_law_lot", 3)]) (g := gName 3) rfl scAllLots.nd (pi_list (pv 1))
            (blkOk_by (own := [("_law_lot", 3)]) (N := nAllLots) (sc := C8.fnScope sAllLots) (by decide +kernel))
            (fun _ _ _ _ _ => pg_name (i := 3) scAllLots.nd rfl (Or.inl rfl) (Or.inr rfl)) (fun _ _ _ _ _ => pts_nil)
            (fun _ _ _ _ _ => pe_op op_cat (pv 3) (pe_lst (pa_cons (pv 2) pa_nil))))))))
      (pss_one (ps_ret (pv 1)))), ?_⟩
    refine ⟨Nat.zero_le _, fun e0 he0 => ⟨by show 1 ≤ sizeLine; decide, fun f0 hf0 => ?_⟩⟩
    have s1 := same_upd (o := .lst []) he0
    have s2 := same_upd (o := .lst [.ref e0]) hf0
    have e1 : (m : Int).toNat = m := Int.toNat_natCast m
    refine ⟨_, rfl, (m : Int), rfl, by omega, by omega, ?_⟩
    rw [e1]
    refine for_it walk_range (fun i σ H' => ∃ fa ts v2, σ = [some (nV m), some (.ref fa), v2, none] ∧ Same H H' ∧ H' fa = some (.lst (ts.map V.ref)) ∧ LotsAt H' ts (allLots i))
      ⟨f0, [e0], none, rfl, s1.trans s2, upd_same, .cons (s2 _ _ upd_same) .nil⟩ (fun _ _ _ _ _ => trivial) (fun i x σ H2 H3 hi hP hY => ?_) (fun σ H2 hP => ?_)
    · obtain ⟨fa, ts, v2, rfl, sm, hfa, hL⟩ := hP
      obtain ⟨rfl, hx0⟩ := hY
      obtain rfl : x = nV i := hx0.trans (congrArg V.int (Int.zero_add _))
      have hlen : (allLots i).length ≤ 256 := lots_le (by omega)
      have htl : ts.length = (allLots i).length := Paired.length hL
      refine ⟨_, rfl, _, rfl, fa, rfl, ⟨_, SqL.of hfa⟩, fun D hD => ?_⟩
      refine lc_it (walk_list (xs := ts.map V.ref)) (fun j H' => Same H3 H' ∧ ∃ us, H' D = some (.lst (us.map V.ref)) ∧ LotsN D H' us (((allLots i).take j).map (· ++ [i]))) ⟨same_upd hD, [], upd_same, .nil⟩ (fun j H4 _ k => SqL.of (k.1 _ _ hfa)) (fun j x H4 H5 hj k y => ?_) (fun H4 k => ?_)
      · obtain ⟨s4, us, hus, hU⟩ := k
        obtain ⟨rfl, hx⟩ := y
        obtain ⟨t, ht, rfl⟩ := map_get hx
        obtain ⟨l, hl, htl2⟩ := paired_get hL ht
        have ht4 := s4 _ _ htl2
        have hA := allLots_asc i l (get_mem hl)
        have lenU : us.length = (((allLots i).take j).map (· ++ [i])).length := Paired.length hU
        refine ⟨rfl, ?_⟩
        refine ⟨_, rfl, _, rfl, by show 1 ≤ sizeLine; decide, fun o1 ho1 => ?_⟩
        have so1 := same_upd (o := .lst [nV i]) ho1
        refine ⟨t, o1, _, _, rfl, rfl, so1 _ _ ht4, upd_same, by rw [List.length_map]; exact Nat.le_of_lt (small (Nat.le_trans (Nat.add_le_add_right hA.len 1) (by omega))), fun o2 ho2 => ?_⟩
        have so2 := same_upd (o := .lst (l.map nV ++ [nV i])) ho2
        have s6 := so1.trans so2
        have hus6 := s6 _ _ hus
        have n2 : o2 ≠ D := (ne_of_none (so1 _ _ hus) ho2).symm
        refine ⟨us.map V.ref, hus6, by rw [List.length_map, lenU, List.length_map]; exact small (take_len (by omega)), fun z u ez => ?_, us ++ [o2], ?_, ?_⟩
        · rw [upd_ne (ne_of_none ez hD)]
          exact s6 _ _ (s4 _ _ ez)
        · rw [upd_same, List.map_append]
          rfl
        · rw [take_next hl, List.map_append]
          exact LotsN.put (paired_one (hU.same s6) ⟨n2, by rw [upd_same, List.map_append]; rfl⟩)
      · obtain ⟨s4, us, hus, hU⟩ := k
        rw [List.length_map, htl, List.take_length] at hU
        have lenU : us.length = ((allLots i).map (· ++ [i])).length := Paired.length hU
        have hfa4 := s4 _ _ hfa
        refine ⟨fa, D, _, _, rfl, rfl, hfa4, hus, by rw [List.length_map, List.length_map, htl, lenU, List.length_map]; exact Nat.le_of_lt (small (by omega)), fun g hg => ?_⟩
        have sg := same_upd (o := .lst (ts.map V.ref ++ us.map V.ref)) hg
        refine ⟨g, ts ++ us, _, rfl, (sm.trans s4).trans sg, by rw [upd_same, List.map_append], ?_⟩
        exact paired_app (hL.same (s4.trans sg)) (hU.lots.same sg)
    · obtain ⟨fa, ts, v2, rfl, sm, hfa, hL⟩ := hP
      exact ⟨_, rfl, q fa ts H2 sm hfa hL⟩
end
end Pq

namespace Pq
open PySem L2
theorem odd_empty {ks fl : List Nat} (h : CntOk ks fl) : ((ks.filter fun p => decide ((fl.count p : Int) % 2 = 1)).map fun p => fl.count p).isEmpty = true ↔ ∀ p, fl.count p % 2 = 0 := by
  rw [List.isEmpty_iff, List.map_eq_nil_iff, List.filter_eq_nil_iff]
  constructor
  · intro k p
    by_cases m : p ∈ ks
    · have := k p m
      have z : ¬ ((fl.count p : Int) % 2 = 1) := fun e => this (decide_eq_true e)
      omega
    · rw [List.count_eq_zero.mpr fun z => m ((h.iff p).mpr z)]
  · intro k p _ e
    have := k p
    have z := of_decide_eq_true e
    omega
theorem natD_empty (l : List Nat) : (natD l).isEmpty = l.isEmpty := by cases l <;> rfl
section
variable {P : Program} {w : World} {K : PySem.W.Frag} {mg : Str → Option Value} {base : Heap}
/-! ### _law_is_right -/
abbrev nIsRight : List Str := ["_law_rows", "_law_sides", "_law_told", "_law_word", "_law_lot", "_law_counts", "_law_index", "_law_place", "_law_row", "_law_one"]
theorem scIsRight : FnScope nIsRight ["_law_rows", "_law_sides", "_law_told"] (C8.fnScope sIsRight) := C8.fnScope_by (by decide +kernel)
def spIsRight (K : PySem.W.Frag) : Sp := fun vs H Q _ => ∃ (a b c : Addr) (rows : List (List Nat)) (sides : List Bool) (bb : Bool) (l : List Nat), vs = [.ref a, .ref b, .ref c] ∧ RowsAt K H a rows ∧ TupB K H b sides ∧ PairAt K H c bb l ∧ Quest 1000 rows sides ∧ rows.length ≤ 60 ∧ TellFit rows bb l ∧
  ∀ (v : Bool) (H' : Hp), Same H H' → (v = true ↔ TellOk rows sides bb l) → Q (.bl v) H'
theorem ok_isRight {f : Addr} {fd : FuncData} (F : C8.Def K mg "_law_is_right" sIsRight f fd) (b : Binds K fd ["_law_rows", "_law_sides", "_law_told"] []) (T : Nm mg) (cS : C8.Cal P w K mg base 1 "_law_side" (spSide K) []) :
    C8.Cal P w K mg base 2 "_law_is_right" (spIsRight K) [] := by
  refine C8.cal0 F b .nil scIsRight (fun vs H Q E h => ?_) (fun cdv A outer s H vs Q E hr h => ?_)
  · obtain ⟨a, b, c, rows, sides, bb, l, rfl, _⟩ := h
    rfl
  · obtain ⟨a, b, c, rows, sides, bb, t, rfl, ⟨ps, ha, hrows⟩, hb, ⟨tp, hc, htp⟩, hQ, hlen, ⟨hl60, hA1, hO⟩, q⟩ := h
    have hpl : ps.length = rows.length := hrows.len
    have hu := hu_of hr
    refine ⟨_, pss_cons (ps_asg (pv 2) (pg_tup rfl (pgs_cons (pg_name (i := 3) scIsRight.nd rfl (.inl rfl)) (pgs_cons (pg_name (i := 4) scIsRight.nd rfl (.inr rfl)) pgs_nil))))
      (pss_cons (ps_if (pt_cmpR (op_neD hr.units) (pe_callTy call_list_of (by rfl) T.list (by decide +kernel) (pa_cons (pv 4) pa_nil))
          (pe_callB (r := rSortedSet w) (cr_sortedSet rfl) (by rfl) T.sorted (by decide +kernel) (pa_cons (pe_callTy (r := rSetT K w) (cr_setT rfl) (by rfl) T.set (by decide +kernel) (pa_cons (pv 4) pa_nil)) pa_nil)) (nomark _)) pss_never pss_nil)
      (pss_cons (ps_if (pt_cmpR op_eq (pv 3) pe_str (nomark _))
        (pss_one (ps_ret (pe_cmpR (op_eqD hr.units)
          (pe_lc (own := [("_law_row", 8)]) (g := gName 8) rfl scIsRight.nd (pi_tup (pv 0))
            (blkOk_by (own := [("_law_row", 8)]) (N := nIsRight) (sc := C8.fnScope sIsRight) (by decide +kernel))
            (fun _ _ _ _ _ => pg_name (i := 8) scIsRight.nd rfl (Or.inl rfl) (Or.inr rfl)) (fun _ _ _ _ _ => pts_nil)
            (fun _ _ _ _ _ => C8.pe_c cS hr (by decide) (by rfl) (pa_cons (pv 8) (pa_cons (pv 4) pa_nil))))
          (pe_callTy call_list_of (by rfl) T.list (by decide +kernel) (pa_cons (pv 1) pa_nil)) (nomark _)))) pss_nil)
      (pss_cons (ps_set (i := 5) scIsRight.nd rfl (.inl rfl) pe_dnewK)
      (pss_cons (ps_for PassesOwn.never rfl (pi_tup (pv 4)) (pg_name (i := 6) scIsRight.nd rfl (.inl rfl))
        (pss_one (ps_for PassesOwn.never rfl (pi_tup (pe_ix ix_tup (pv 0) (pv 6) (fun _ _ => rfl))) (pg_name (i := 7) scIsRight.nd rfl (.inl rfl))
          (pss_one (ps_dput hu (pv 5) (pv 7) (pe_op op_add (pe_dget2 hu (pv 5) (pv 7) pe_int ⟨rfl, rfl, rfl, rfl⟩) pe_int) rfl)))))
      (pss_one (ps_ret (pe_and (pe_cmpR (op_eqD hr.units) (pe_lock
          (pe_lc (own := [("_law_one", 9)]) (g := gName 9) rfl scIsRight.nd (pi_values (pv 5))
            (blkOk_by (own := [("_law_one", 9)]) (N := nIsRight) (sc := C8.fnScope sIsRight) (by decide +kernel))
            (fun _ _ _ _ _ => pg_name (i := 9) scIsRight.nd rfl (Or.inl rfl) (Or.inr rfl))
            (fun _ _ _ _ _ => pts_one (pt_cmpR op_eq (pe_op op_mod (pv 9) pe_int) pe_int (nomark _)))
            (fun _ _ _ _ _ => pv 9))) (pe_lst pa_nil) (nomark _))
        (pe_one (pe_cmpR op_eq (pe_op op_mod (pe_callB (cr_sum rfl) (by rfl) T.sum (by decide +kernel) (pa_cons
          (pe_lc (own := [("_law_index", 6)]) (g := gName 6) (te := tOp (rIxT K) (tVar 1) (tVar 6)) rfl scIsRight.nd (pi_tup (pv 4))
            (blkOk_by (own := [("_law_index", 6)]) (N := nIsRight) (sc := C8.fnScope sIsRight) (by decide +kernel))
            (fun _ _ _ _ _ => pg_name (i := 6) scIsRight.nd rfl (Or.inl rfl) (Or.inr rfl)) (fun _ _ _ _ _ => pts_nil)
            (fun _ _ _ _ _ => pe_ix ix_tup (pv 1) (pv 6) (fun _ _ => rfl))) pa_nil)) pe_int) pe_int (nomark _)))))))))), ?_⟩
    -- word, lot
    refine ⟨_, rfl, c, _, rfl, hc, rfl, _, _, rfl, _, _, rfl, rfl, ?_⟩
    -- list(lot) and sorted(set(lot))
    refine ⟨_, rfl, tp, _, rfl, .inr htp, fun p0 hp0 => ?_⟩
    have s1 := same_upd (o := .lst (t.map nV)) hp0
    have htp1 : SqT K (upd H p0 (.lst (t.map nV))) tp ((t.map fun p : Nat => (p : Int)).map V.int) := by
      rw [← nV_map]
      exact Same.tup s1 htp
    refine ⟨_, rfl, tp, t.map fun p : Nat => (p : Int), rfl, htp1, by rw [List.length_map]; exact Nat.le_trans hl60 (by decide), fun p1 cn hcn hp1 => ?_⟩
    have s2 := same_upd (o := SetO w p1 (fun j => decide (j ∈ t.map fun p : Nat => (p : Int))) cn) hp1
    rw [List.length_map] at hcn
    refine ⟨p1, _, cn, rfl, upd_same, by omega, fun ns p2 hlt hmem _ hp2 => ?_⟩
    have ens := set_nat hA1.1 hlt hmem
    have s3 := same_upd (o := .lst (ns.map V.int)) hp2
    have sA := (s1.trans s2).trans s3
    have e2 : ns.map V.int = t.map nV := by rw [ens, ← nV_map]
    refine ⟨.list (natD t), .list (natD t), .lst (SqL.of ((s2.trans s3) _ _ upd_same)) (dpAll_nat t), .lst (sqL_eq upd_same e2) (dpAll_nat t), shaped_nat t, shaped_nat t, false, by rw [eqv_nat]; rfl, ?_⟩
    generalize hHA : upd (upd (upd H p0 (.lst (t.map nV))) p1 (SetO w p1 (fun j => decide (j ∈ t.map fun p : Nat => (p : Int))) cn)) p2 (.lst (ns.map V.int)) = HA at *
    have haA : SqT K HA a (ps.map V.ref) := Same.tup sA ha
    have hcA : SqT K HA tp (t.map nV) := Same.tup sA htp
    refine ⟨_, rfl, rfl, bb, congrArg V.bl (word_eqS bb), ?_⟩
    cases bb with
    | true =>
      refine iteT ?_
      refine ⟨_, rfl, a, rfl, ⟨_, haA⟩, fun D hD => ?_⟩
      refine lc_it (walk_tup (xs := ps.map V.ref)) (LcP HA D fun i => (rows.take i).map fun r => bV (lp r (mem t))) (lcp_0 hD rfl) (fun i H2 _ k => Same.tup k.1 haA) (fun i x H2 H3 hi k y => ?_) (fun H2 k => ?_)
      · obtain ⟨rfl, hx⟩ := y
        obtain ⟨d, hd, rfl⟩ := map_get hx
        obtain ⟨r, hr1, hdr⟩ := hrows.get hd
        have hAr := hQ.asc r (get_mem hr1)
        refine ⟨rfl, ?_⟩
        refine ⟨_, rfl, _, rfl, d, tp, r, t, rfl, hdr.same (sA.trans k.1), .inr (Same.tup k.1 hcA), hAr.len, fun H4 s4 => ?_⟩
        exact lcp_add hD k s4 (by rw [take_next hr1, List.map_append]; rfl) (by rw [List.length_map]; exact small (take_len (by omega)))
      · rw [List.length_map, hpl] at k
        have eD := lcp_end k (congrArg (List.map fun r => bV (lp r (mem t))) List.take_length)
        have hb2 : SqT K H2 b (sides.map bV) := hb.same (sA.trans k.1)
        refine ⟨_, rfl, b, _, rfl, .inr hb2, fun p3 hp3 => ?_⟩
        have s4 := same_upd (o := .lst (sides.map bV)) hp3
        have eD4 := s4 _ _ eD
        refine ⟨.list ((rows.map fun r => lp r (mem t)).map bitD), .list (sides.map bitD), .lst (sqL_eq eD4 (by rw [List.map_map]; rfl)) (dpAll_bit (rows.map fun r => lp r (mem t))), .lst (SqL.of upd_same) (dpAll_bit sides), shaped_bit _, shaped_bit _, ?_⟩
        refine q _ _ ((sA.trans k.1).trans s4) ?_
        rw [eqv_bit, decide_eq_true_iff]
        exact Iff.rfl
    | false =>
      refine iteF ?_
      have hAr := hO rfl
      have hin : ∀ i ∈ t, i < rows.length := hAr.2
      intro cd hcd
      refine ⟨_, rfl, tp, rfl, ⟨_, Same.tup (same_upd hcd) hcA⟩, ?_⟩
      refine for_it (walk_tup (xs := t.map nV)) (fun i σ H' => ∃ ks v4 v5, σ = [some (.ref a), some (.ref b), some (.ref c), some (.str (wordS false)), some (.ref tp), some (.ref cd), v4, v5, none, none] ∧ Same HA H' ∧
          H' cd = some (.dK (cntK ks fun p => ((t.take i).flatMap (rowAt rows)).count p)) ∧ CntOk ks ((t.take i).flatMap (rowAt rows)))
        ⟨[], none, none, rfl, same_upd hcd, upd_same, .nil⟩ (fun i σ H' _ ⟨_, _, _, _, sm, _⟩ => Same.tup sm hcA) (fun i x σ H2 H3 hi hP hY => ?_) (fun σ H2 hP => ?_)
      · obtain ⟨ks, v4, v5, rfl, sm, hcd2, hck⟩ := hP
        obtain ⟨rfl, hx⟩ := hY
        obtain ⟨n, hn, rfl⟩ := map_get hx
        have hnr := rowAt_lt (hin n (get_mem hn))
        obtain ⟨d, hd, hdr⟩ := paired_get' hrows hnr
        have hA : Asc 1000 (rowAt rows n) := hQ.row n
        refine ⟨_, rfl, _, rfl, a, _, _, .ref d, rfl, rfl, Same.tup sm haA, atI_nat (by rw [List.getElem?_map, hd]; rfl), ?_⟩
        refine ⟨d, rfl, ⟨_, (hdr.same (sA.trans sm) : SqT K H3 d _)⟩, ?_⟩
        generalize hfl : (t.take i).flatMap (rowAt rows) = fl at *
        have efl : (t.take (i + 1)).flatMap (rowAt rows) = fl ++ rowAt rows n := by rw [take_next hn, List.flatMap_append, hfl]; simp
        have hfl1000 : ∀ p ∈ fl, p < 1000 := fun p hp => by
          rw [← hfl] at hp
          obtain ⟨j, _, hj⟩ := List.mem_flatMap.mp hp
          exact (hQ.row j).2 p hj
        refine for_it (walk_tup (xs := (rowAt rows n).map nV)) (fun j σ H' => ∃ ks v5, σ = [some (.ref a), some (.ref b), some (.ref c), some (.str (wordS false)), some (.ref tp), some (.ref cd), some (nV n), v5, none, none] ∧ Same HA H' ∧
            H' cd = some (.dK (cntK ks fun p => (fl ++ (rowAt rows n).take j).count p)) ∧ CntOk ks (fl ++ (rowAt rows n).take j))
          ⟨ks, v5, rfl, sm, by rw [List.take_zero, List.append_nil]; exact hcd2, by rw [List.take_zero, List.append_nil]; exact hck⟩ (fun j σ H' _ ⟨_, _, _, s5, _⟩ => hdr.same (sA.trans s5)) (fun j x σ H4 H5 hj hP hY => ?_) (fun σ H4 hP => ?_)
        · obtain ⟨ks, v5, rfl, s5, hcd5, hck5⟩ := hP
          obtain ⟨rfl, hx⟩ := hY
          obtain ⟨p, hp, rfl⟩ := map_get hx
          have key : valV (cntK ks fun p => (fl ++ (rowAt rows n).take j).count p) (Sum.inl (p : Int)) = if p ∈ ks then some (nV ((fl ++ (rowAt rows n).take j).count p)) else none := cntK_val _ _ _
          have hget : (valV (cntK ks fun p => (fl ++ (rowAt rows n).take j).count p) (Sum.inl (p : Int))).getD (.int 0) = nV ((fl ++ (rowAt rows n).take j).count p) := by
            rw [key]
            by_cases m : p ∈ ks
            · rw [if_pos m]; rfl
            · rw [if_neg m, List.count_eq_zero.mpr fun z => m ((hck5.iff p).mpr z)]; rfl
          have hkl : ks.length ≤ 1000 := nodup_len hck5.nd fun z hz => by
            rcases List.mem_append.mp ((hck5.iff z).mp hz) with m | m
            · exact hfl1000 z m
            · exact hA.2 z (List.mem_of_mem_take m)
          refine ⟨_, rfl, cd, rfl, .inl ⟨_, .inl hcd5⟩, _, rfl, _, .inl ⟨_, Sum.inl (p : Int), .inl hcd5, rfl, rfl⟩, ?_⟩
          refine ⟨((fl ++ (rowAt rows n).take j).count p : Int), 1, hget, rfl, ?_⟩
          refine ⟨_, rfl, _, rfl, cd, _, rfl, .inl ⟨_, Sum.inl (p : Int), hcd5, rfl, by unfold cntK; rw [List.length_map]; exact small hkl, rfl⟩, ?_⟩
          refine ⟨if p ∈ ks then ks else ks ++ [p], _, rfl, fun z o ez => ?_, ?_, ?_⟩
          · rw [upd_ne (ne_of_none ez hcd)]
            exact s5 _ _ ez
          · rw [upd_same, take_next hp, ← List.append_assoc, count_snoc]
            have e1 : ((fl ++ (rowAt rows n).take j).count p : Int) + 1 = (((fl ++ (rowAt rows n).take j).count p + 1 : Nat) : Int) := by omega
            have e3 := cntK_put ks (fun p => (fl ++ (rowAt rows n).take j).count p) p
            rw [show nV ((fl ++ (rowAt rows n).take j).count p + 1) = V.int (((fl ++ (rowAt rows n).take j).count p : Int) + 1) from congrArg V.int e1.symm] at e3
            exact congrArg (fun z => some (HO.dK z)) e3
          · rw [take_next hp, ← List.append_assoc]
            exact hck5.snoc p
        · obtain ⟨ks, v5, rfl, s5, hcd5, hck5⟩ := hP
          rw [List.length_map, List.take_length] at hcd5 hck5
          exact ⟨ks, _, _, rfl, s5, by rw [efl]; exact hcd5, by rw [efl]; exact hck5⟩
      · obtain ⟨ks, v4, v5, rfl, sm, hcd2, hck⟩ := hP
        rw [List.length_map, List.take_length] at hcd2 hck
        generalize hfl : t.flatMap (rowAt rows) = fl at *
        have hkl : ks.length ≤ 1000 := nodup_len hck.nd fun z hz => by
          have hz2 := (hck.iff z).mp hz
          rw [← hfl] at hz2
          obtain ⟨j, _, hj⟩ := List.mem_flatMap.mp hz2
          exact (hQ.row j).2 z hj
        -- the odd counts
        refine ⟨cd, _, hcd2, trivial, fun od => ?_⟩
        refine ⟨_, rfl, cd, od, _, rfl, upd_same, fun D hD => ?_⟩
        have ndc : D ≠ cd := fun e => by
          rw [e, upd_same] at hD
          cases hD
        refine lc_it (walk_values (kvs := cntK ks fun p => fl.count p)) (LcP (upd H2 cd (.frz od (.dK (cntK ks fun p => fl.count p)))) D fun i => (((ks.take i).filter fun p => decide ((fl.count p : Int) % 2 = 1)).map fun p => fl.count p).map nV) (lcp_0 hD rfl) (fun i H3 _ k => k.1 _ _ upd_same) (fun i x H3 H4 hi k y => ?_) (fun H3 k => ?_)
        · obtain ⟨rfl, kk, hx⟩ := y
          unfold cntK at hx
          rw [List.getElem?_map] at hx
          cases e : ks[i]? with
          | none => rw [e] at hx; cases hx
          | some p =>
            rw [e] at hx
            cases hx
            refine ⟨rfl, ?_⟩
            refine ⟨_, rfl, _, _, rfl, rfl, (by show (0 : Int) < 2; decide), rfl, decide ((fl.count p : Int) % 2 = 1), congrArg V.bl (decide_eq_decide.mpr ⟨fun z => V.int.inj z, fun z => congrArg V.int z⟩), ?_⟩
            cases ec : decide ((fl.count p : Int) % 2 = 1) with
            | true =>
              refine iteT ?_
              exact ⟨_, rfl, lcp_add hD k (Same.refl _) (by rw [take_next e, List.filter_append, List.map_append, List.map_append]; simp only [List.filter_cons, ec, if_true, List.filter_nil]; rfl) (by rw [List.length_map, List.length_map]; exact small (Nat.le_trans (List.length_filter_le ..) (take_len hkl)))⟩
            | false =>
              refine iteF ?_
              exact lcp_skip k (Same.refl _) (by rw [take_next e, List.filter_append]; simp only [List.filter_cons, ec, Bool.false_eq_true, if_false, List.filter_nil, List.append_nil])
        · have hkk : (cntK ks fun p => fl.count p).length = ks.length := by unfold cntK; rw [List.length_map]
          rw [hkk] at k
          have eD := lcp_end k (congrArg (fun z => ((List.filter (fun p => decide ((fl.count p : Int) % 2 = 1)) z).map fun p => fl.count p).map nV) List.take_length)
          refine ⟨k.1 _ _ upd_same, ?_⟩
          have s3 : Same H2 (upd H3 cd (.dK (cntK ks fun p => fl.count p))) := unlock_same hcd2 k.1
          generalize hH4 : upd H3 cd (.dK (cntK ks fun p => fl.count p)) = H4 at *
          generalize hodd : ((ks.filter fun p => decide ((fl.count p : Int) % 2 = 1)).map fun p => fl.count p) = odds at *
          have eD4 : H4 D = some (.lst (odds.map nV)) := by rw [← hH4, upd_ne ndc]; exact eD
          have hev := odd_empty hck
          rw [hodd] at hev
          refine ⟨Nat.zero_le _, fun p4 hp4 => ?_⟩
          have s4 := same_upd (o := .lst []) hp4
          refine ⟨.list (natD odds), .list [], .lst (SqL.of (s4 _ _ eD4)) (dpAll_nat odds), .lst (SqL.of upd_same) .nil, shaped_nat odds, rfl, odds.isEmpty, by rw [eqv_empty, natD_empty], ?_⟩
          have sm4 := (sA.trans (sm.trans s3)).trans s4
          cases hem : odds.isEmpty with
          | false =>
            refine iteF ?_
            refine q false _ sm4 ⟨fun e => (by cases e), fun o => ?_⟩
            have o' : OddLot rows sides t := o
            have z := hev.mpr (by rw [← hfl]; exact o'.1)
            rw [hem] at z
            cases z
          | true =>
            refine iteT ?_
            have even := hev.mp hem
            -- the sum of the sides
            generalize hH5 : upd H4 p4 (.lst []) = H5 at *
            have hc4 : SqT K H5 tp (t.map nV) := Same.tup sm4 htp
            refine ⟨_, rfl, tp, rfl, ⟨_, hc4⟩, fun D2 hD2 => ?_⟩
            refine lc_it (walk_tup (xs := t.map nV)) (LcP H5 D2 fun i => (t.take i).map fun i => bV (sideAt sides i)) (lcp_0 hD2 rfl) (fun i H6 _ k => Same.tup k.1 hc4) (fun i x H6 H7 hi k y => ?_) (fun H6 k => ?_)
            · obtain ⟨rfl, hx⟩ := y
              obtain ⟨n, hn, rfl⟩ := map_get hx
              have hns := sideAt_lt (sides := sides) (i := n) (by rw [hQ.len]; exact hin n (get_mem hn))
              refine ⟨rfl, ?_⟩
              refine ⟨_, rfl, _, rfl, b, _, _, bV (sideAt sides n), rfl, rfl, hb.same (sm4.trans k.1), atI_nat (by rw [List.getElem?_map, hns]; rfl), ?_⟩
              exact lcp_add hD2 k (Same.refl _) (by rw [take_next hn, List.map_append]; rfl) (by rw [List.length_map]; exact small (take_len (Nat.le_trans hl60 (by decide))))
            · rw [List.length_map] at k
              have eD2 := lcp_end k (congrArg (List.map fun i => bV (sideAt sides i)) List.take_length)
              refine ⟨D2, t.map fun i => bI (sideAt sides i), rfl, sqL_eq eD2 (by rw [List.map_map]; rfl), ?_⟩
              refine ⟨_, _, rfl, rfl, (by show (0 : Int) < 2; decide), rfl, ?_⟩
              have es : (t.map fun i => bI (sideAt sides i)).sum % 2 = bI (lp t (sideAt sides)) := sum_bI t _
              show Q (V.bl (decide (V.int ((t.map fun i => bI (sideAt sides i)).sum % 2) = V.int 1))) _
              refine q _ H6 (sm4.trans k.1) ?_
              rw [es, decide_eq_true_iff]
              show _ ↔ OddLot rows sides t
              exact ⟨fun e => ⟨by rw [hfl]; exact even, bI_one.mp e⟩, fun o => bI_one.mpr o.2⟩
end
end Pq

namespace Pq
open PySem L2
theorem SameW.free {w p : Addr} {H H' : Hp} (s : SameW w H H') (n : p ≠ w) (h : H' p = none) : H p = none := by
  cases e : H p with
  | none => rfl
  | some o =>
    rw [s p o n e] at h
    cases h
theorem tup_sameW {K : PySem.W.Frag} {w a : Addr} {H H' : Hp} {xs : List V} (h : SqT K H a xs) (hw : WellAt H w) (s : SameW w H H') : SqT K H' a xs := by
  obtain ⟨x, y, z, hw⟩ := hw
  rcases h with (h | ⟨o, h⟩) | h
  · exact .inl (.inl (s _ _ (ne_of h hw (by intro q; cases q)) h))
  · exact .inl (.inr ⟨o, s _ _ (ne_of h hw (by intro q; cases q)) h⟩)
  · exact .inr h
theorem AllN.sameW {K : PySem.W.Frag} {w : Addr} {H H' : Hp} {ps : List Addr} {rs : List (List Nat)} (h : AllN K H ps rs) (hw : WellAt H w) (s : SameW w H H') : AllN K H' ps rs := Paired.mapP h fun _ _ k => tup_sameW k hw s
theorem ixN_zero {n : Nat} (h : 0 < n) : ixN n 0 = some 0 := by
  unfold ixN
  rw [if_pos (by omega), if_pos (by omega)]
  rfl
theorem tup_lay {K : PySem.W.Frag} {D a : Addr} {H : Hp} {xs ys : List V} {o : HO} (h : SqT K H a xs) (hD : H D = some (.lst ys)) : SqT K (upd H D o) a xs := by
  rcases h with (h | ⟨u, h⟩) | h
  · exact .inl (.inl ((upd_ne (ne_of h hD (by intro q; cases q))).trans h))
  · exact .inl (.inr ⟨u, (upd_ne (ne_of h hD (by intro q; cases q))).trans h⟩)
  · exact .inr h
theorem AllN.lay {K : PySem.W.Frag} {D : Addr} {H : Hp} {ps : List Addr} {rs : List (List Nat)} {ys : List V} {o : HO} (h : AllN K H ps rs) (hD : H D = some (.lst ys)) : AllN K (upd H D o) ps rs := Paired.mapP h fun _ _ k => tup_lay k hD
theorem SameW.lay {w D : Addr} {H H' : Hp} {o : HO} (hD : H D = none) (s : SameW w H H') : SameW w H (upd H' D o) := fun b u nb e => (upd_ne (ne_of_none e hD)).trans (s b u nb e)
theorem WellAt.lay {w D : Addr} {H : Hp} {o : HO} (h : WellAt H w) (n : w ≠ D) : WellAt (upd H D o) w := by
  obtain ⟨x, y, z, h⟩ := h
  exact ⟨x, y, z, (upd_ne n).trans h⟩
theorem paired_set {α β : Type} {R : α → β → Prop} {x : α} {y : β} (k : R x y) : ∀ {xs : List α} {ys : List β} (i : Nat), Paired R xs ys → Paired R (xs.set i x) (ys.set i y)
  | _, _, _, .nil => .nil
  | _, _, 0, .cons _ t => .cons k t
  | _, _, i + 1, .cons r t => .cons r (paired_set k i t)
theorem mem_set_or {α : Type} {l : List α} {i : Nat} {x y : α} (h : y ∈ l.set i x) : y = x ∨ y ∈ l := by
  obtain ⟨j, hj⟩ := List.getElem?_of_mem h
  rw [List.getElem?_set] at hj
  split at hj
  · split at hj
    · exact .inl (Option.some.inj hj).symm
    · cases hj
  · exact .inr (List.mem_of_getElem? hj)
theorem bit_of {r : Int} (h0 : 0 ≤ r) (h1 : r < 2) : ∃ b : Bool, V.int r = bV b := by
  rcases (show r = 0 ∨ r = 1 by omega) with e | e
  · exact ⟨false, by rw [e]; rfl⟩
  · exact ⟨true, by rw [e]; rfl⟩
theorem in_words (b : Bool) : inV (V.str (wordS b)) [V.str "solution", V.str "odd"] = true := by cases b <;> decide +kernel
/-- the lists' data -/
def lotD (l : List Nat) : PyData := .list (natD l)
theorem dpAll_lot {K : PySem.W.Frag} {H : Hp} {ts : List Addr} {ls : List (List Nat)} (h : LotsAt H ts ls) : DpAll K H (ts.map V.ref) (ls.map lotD) := by
  unfold LotsAt at h
  induction h with
  | nil => exact .nil
  | cons a _ ih => exact .cons (.lst (SqL.of a) (dpAll_nat _)) ih
theorem canLay_lot : ∀ l : List (List Nat), PyData.canLayAll0 (l.map lotD) = true
  | [] => rfl
  | q :: r => by
    show (PyData.canLayAll0 (natD q) && PyData.canLayAll0 (r.map lotD)) = true
    rw [canLay_lot r, canLay_nat]
    rfl
theorem depth_lot : ∀ l : List (List Nat), PyData.depthAll (l.map lotD) ≤ 1
  | [] => Nat.zero_le _
  | q :: r => by
    show max (PyData.depthAll (natD q) + 1) (PyData.depthAll (r.map lotD)) ≤ 1
    rw [depth_nat]
    exact Nat.max_le.mpr ⟨Nat.le_refl _, depth_lot r⟩
theorem shaped_lot (l : List (List Nat)) : SeqAt.shaped (.list (l.map lotD)) = true := by
  show (PyData.canLayAll0 (l.map lotD) && decide (PyData.depthAll (l.map lotD) + 1 ≤ 64)) = true
  have := depth_lot l
  rw [canLay_lot, decide_eq_true (by omega)]
  rfl
theorem lotD_empty (l : List (List Nat)) : (l.map lotD).isEmpty = l.isEmpty := by cases l <;> rfl
section
variable {P : Program} {w : World} {K : PySem.W.Frag} {mg : Str → Option Value} {base : Heap}
/-! ### _law_right -/
abbrev nRight : List Str := ["_law_well_here", "_law_most", "_law_many", "_law_rows", "_law_sides", "_law_made", "_law_is_made", "_law_told", "_law_fits", "_law_turn", "_law_row", "_law_lot"]
theorem scRight : FnScope nRight ["_law_well_here"] (C8.fnScope sRight) := C8.fnScope_by (by decide +kernel)
def spRight : Sp := fun vs H Q _ => ∃ w : Addr, vs = [.ref w] ∧ WellAt H w ∧ ∀ H', SameW w H H' → WellAt H' w → Q (.bl true) H'
abbrev tFits (K : PySem.W.Frag) : TT := tTest (tOp (rEqD K) (tLc (iTup K (tVar 3)) (gName 10) tYes (tCall (spSide K) [] C8.E0 (tCons (tVar 10) (tCons (tVar 11) tNil))) [10]) (tCB (fun xs H Q => ∃ p ys, xs = [.ref p] ∧ (SqL K H p ys ∨ SqT K H p ys) ∧ ∀ l, H l = none → Q (.ref l) (upd H l (.lst ys))) (tCons (tVar 4) tNil)))
theorem ok_right {f : Addr} {fd : FuncData} (F : C8.Def K mg "_law_right" sRight f fd) (b : Binds K fd ["_law_well_here"] []) (T : Nm mg)
    (cD : C8.Cal P w K mg base 1 "_law_dip" spDip []) (cP : C8.Cal P w K mg base 2 "_law_places" (spPlaces K) []) (cS : C8.Cal P w K mg base 1 "_law_side" (spSide K) []) (cV : C8.Cal P w K mg base 4 "solved" (spSolved K) [])
    (cH : C8.Cal P w K mg base 2 "_law_has_solution" (spHas K) []) (cR : C8.Cal P w K mg base 2 "_law_is_right" (spIsRight K) []) (cI : C8.Cal P w K mg base 4 "is_solved" (spIsSolved K) []) (cA : C8.Cal P w K mg base 1 "_law_all_lots" spAllLots []) :
    C8.Cal P w K mg base 5 "_law_right" spRight [] := by
  refine C8.cal0 F b .nil scRight (fun vs H Q E h => ?_) (fun cdv A outer s H vs Q E hr h => ?_)
  · obtain ⟨w, rfl, _⟩ := h
    rfl
  · obtain ⟨w, rfl, hw, q⟩ := h
    refine ⟨_, pss_cons (ps_asg (pe_tup (pa_cons (pe_op op_add pe_int (C8.pe_c cD hr (by decide) (by rfl) (pa_cons (pv 0) (pa_cons pe_int pa_nil)))) (pa_cons (C8.pe_c cD hr (by decide) (by rfl) (pa_cons (pv 0) (pa_cons pe_int pa_nil))) pa_nil)))
        (pg_tup rfl (pgs_cons (pg_name (i := 1) scRight.nd rfl (.inr rfl)) (pgs_cons (pg_name (i := 2) scRight.nd rfl (.inl rfl)) pgs_nil))))
      (pss_cons (ps_set (i := 3) scRight.nd rfl (.inr rfl)
        (pe_lc (own := [("_law_turn", 9)]) (g := gName 9) rfl scRight.nd (pi_range1 (by rfl) T.range (pa_cons (pv 2) pa_nil))
          (blkOk_by (own := [("_law_turn", 9)]) (N := nRight) (sc := C8.fnScope sRight) (by decide +kernel))
          (fun _ _ _ _ _ => pg_name (i := 9) scRight.nd rfl (Or.inl rfl) (Or.inr rfl)) (fun _ _ _ _ _ => pts_nil)
          (fun _ _ _ _ _ => C8.pe_c cP hr (by decide) (by rfl) (pa_cons (pv 0) (pa_cons (pv 1) (pa_cons (pe_op op_add pe_int (C8.pe_c cD hr (by decide) (by rfl) (pa_cons (pv 0) (pa_cons pe_int pa_nil)))) pa_nil))))))
      (C8.pss_cut (ps_if (PW.pt (pw_and (pt_cmpR op_gt (pv 2) pe_int (nomark _)) (pw_and1 (pt_cmpR op_eq (C8.pe_c cD hr (by decide) (by rfl) (pa_cons (pv 0) (pa_cons pe_int pa_nil))) pe_int (nomark _)))))
          (pss_one (ps_asg (pe_ix ix_list (pv 3) (pe_op op_sub (pv 2) pe_int) (fun _ _ => rfl)) (pg_sub (pv 3) pe_int set_list))) pss_nil)
      (pss_cons (ps_asg (pe_tup (pa_cons (pe_callTy call_tuple_of (by rfl) T.tuple (by decide +kernel) (pa_cons
            (pe_lc (own := [("_law_row", 10)]) (g := gName 10) rfl scRight.nd (pi_list (pv 3))
              (blkOk_by (own := [("_law_row", 10)]) (N := nRight) (sc := C8.fnScope sRight) (by decide +kernel))
              (fun _ _ _ _ _ => pg_name (i := 10) scRight.nd rfl (Or.inl rfl) (Or.inr rfl)) (fun _ _ _ _ _ => pts_nil)
              (fun _ _ _ _ _ => C8.pe_c cD hr (by decide) (by rfl) (pa_cons (pv 0) (pa_cons pe_int pa_nil)))) pa_nil))
          (pa_cons (C8.pe_c cP hr (by decide) (by rfl) (pa_cons (pv 0) (pa_cons (pv 1) (pa_cons (pv 1) pa_nil)))) pa_nil)))
        (pg_tup rfl (pgs_cons (pg_name (i := 4) scRight.nd rfl (.inr rfl)) (pgs_cons (pg_name (i := 5) scRight.nd rfl (.inr rfl)) pgs_nil))))
      (pss_cons (ps_set (i := 6) scRight.nd rfl (.inl rfl) (pe_cmpR op_eq (C8.pe_c cD hr (by decide) (by rfl) (pa_cons (pv 0) (pa_cons pe_int pa_nil))) pe_int (nomark _)))
      (C8.pss_cut (ps_if (pt_val (pv 6)) (pss_one (ps_set (i := 4) scRight.nd rfl (.inr rfl) (pe_callTy call_tuple_of (by rfl) T.tuple (by decide +kernel) (pa_cons
            (pe_lc (own := [("_law_row", 10)]) (g := gName 10) rfl scRight.nd (pi_list (pv 3))
              (blkOk_by (own := [("_law_row", 10)]) (N := nRight) (sc := C8.fnScope sRight) (by decide +kernel))
              (fun _ _ _ _ _ => pg_name (i := 10) scRight.nd rfl (Or.inl rfl) (Or.inr rfl)) (fun _ _ _ _ _ => pts_nil)
              (fun _ _ _ _ _ => C8.pe_c cS hr (by decide) (by rfl) (pa_cons (pv 10) (pa_cons (pv 5) pa_nil)))) pa_nil)))) pss_nil)
      (pss_cons (ps_set (i := 3) scRight.nd rfl (.inr rfl) (pe_callTy call_tuple_of (by rfl) T.tuple (by decide +kernel) (pa_cons (pv 3) pa_nil)))
      (pss_cons (ps_set (i := 7) scRight.nd rfl (.inl rfl) (C8.pe_c cV hr (by decide) (by rfl) (pa_cons (pv 3) (pa_cons (pv 4) pa_nil))))
      (pss_cons (ps_if (PW.pt (pw_or (pt_cmpR op_ne (pe_cmpR op_eq (pe_ix ix_tup (pv 7) pe_int (fun _ _ => rfl)) pe_str (nomark _)) (C8.pe_c cH hr (by decide) (by rfl) (pa_cons (pv 3) (pa_cons (pv 4) pa_nil))) (nomark _))
          (pw_or1 (pt_cmpR op_notIn_seq (pe_ix ix_tup (pv 7) pe_int (fun _ _ => rfl)) (pe_tup (pa_cons pe_str (pa_cons pe_str pa_nil))) (by rfl))))) pss_never pss_nil)
      (C8.pss_cut (ps_if (PW.pt (pw_or (pt_not (pt_val (C8.pe_c cR hr (by decide) (by rfl) (pa_cons (pv 3) (pa_cons (pv 4) (pa_cons (pv 7) pa_nil))))))
          (pw_or (pt_not (pt_val (C8.pe_c cI hr (by decide) (by rfl) (pa_cons (pv 3) (pa_cons (pv 4) (pa_cons (pv 7) pa_nil))))))
          (pw_or1 (PW.pt (pw_and (pt_val (pv 6)) (pw_and1 (pt_cmpR op_ne (pe_ix ix_tup (pv 7) pe_int (fun _ _ => rfl)) pe_str (nomark _))))))))) pss_never pss_nil)
      (pss_cons (ps_if (pt_cmpR op_ne (C8.pe_c cI hr (by decide) (by rfl) (pa_cons (pv 3) (pa_cons (pv 4) (pa_cons (pe_tup (pa_cons pe_str (pa_cons (pv 5) pa_nil))) pa_nil))))
          (C8.pe_c cR hr (by decide) (by rfl) (pa_cons (pv 3) (pa_cons (pv 4) (pa_cons (pe_tup (pa_cons pe_str (pa_cons (pv 5) pa_nil))) pa_nil)))) (nomark _)) pss_never pss_nil)
      (pss_cons (ps_if (pt_cmpR op_gt (pv 1) pe_int (nomark _)) (pss_one (ps_ret pe_bl)) pss_nil)
      (pss_cons (ps_setLc (i := 8) (own := [("_law_lot", 11)]) (g := gName 11) (tt := tFits K) rfl scRight.nd rfl rfl (sw_true rfl rfl rfl (by decide +kernel)) (pi_list (C8.pe_c cA hr (by decide) (by rfl) (pa_cons (pv 1) pa_nil)))
          (blkOk_by (own := [("_law_lot", 11)]) (N := nRight) (sc := C8.fnScope sRight) (by decide +kernel))
          (fun _ _ _ _ _ => pg_name (i := 11) scRight.nd rfl (Or.inr rfl) (Or.inl rfl))
          (fun _ _ _ _ _ => pts_one (pt_cmpR (op_eqD hr.units)
            (pe_lc (own := [("_law_row", 10)]) (g := gName 10) rfl scRight.nd (pi_tup (pv 3))
              (blkOk_by (own := [("_law_row", 10)]) (N := nRight) (sc := relS (lcScope (asgVal (stAt (C8.fnBody sRight) 12))) (C8.fnScope sRight)) (by decide +kernel))
              (fun _ _ _ _ _ => pg_name (i := 10) scRight.nd rfl (Or.inl rfl) (Or.inr rfl)) (fun _ _ _ _ _ => pts_nil)
              (fun _ _ _ _ _ => C8.pe_c cS hr (by decide) (by rfl) (pa_cons (pv 10) (pa_cons (pv 11) pa_nil))))
            (pe_callTy call_list_of (by rfl) T.list (by decide +kernel) (pa_cons (pv 4) pa_nil)) (nomark _)))
          (fun _ _ _ _ _ => pv 11))
      (pss_one (ps_ret (pe_cmpR op_eq (pe_cmpR (op_neD hr.units) (pv 8) (pe_lst pa_nil) (nomark _)) (pe_cmpR op_eq (pe_ix ix_tup (pv 7) pe_int (fun _ _ => rfl)) pe_str (nomark _)) (nomark _)))))))))))))))), ?_⟩
    refine ⟨_, rfl, w, 12, rfl, hw, by decide, by decide, fun r1 H1 l1 u1 s1 hw1 => ?_⟩
    refine ⟨1, r1, rfl, rfl, ?_⟩
    refine ⟨_, rfl, w, 16, rfl, hw1, by decide, by decide, fun r2 H2 l2 u2 s2 hw2 => ?_⟩
    refine ⟨by show 2 ≤ sizeLine; decide, fun t0 ht0 => ?_⟩
    obtain ⟨m, hm0, hm1, hm2⟩ : ∃ m : Nat, (1 : Int) + r1 = (m : Int) ∧ 1 ≤ m ∧ m ≤ 12 := ⟨((1 : Int) + r1).toNat, by omega, by omega, by omega⟩
    obtain ⟨n, hn0, hn2⟩ : ∃ n : Nat, r2 = (n : Int) ∧ n ≤ 15 := ⟨r2.toNat, by omega, by omega⟩
    subst hn0
    have em : V.int ((1 : Int) + r1) = nV m := congrArg V.int hm0
    refine ⟨t0, [nV m, nV n], rfl, SqT.of (by rw [upd_same]; exact congrArg (fun z => some (HO.tup [z, nV n])) em), rfl, _, _, rfl, _, _, rfl, rfl, ?_⟩
    have st0 := same_upd (o := .tup [nV m, nV n]) ht0
    have hw3 : WellAt (upd H2 t0 (.tup [V.int ((1 : Int) + r1), V.int (n : Int)])) w := hw2.same (same_upd ht0)
    have s3 : SameW w H (upd H2 t0 (.tup [V.int ((1 : Int) + r1), V.int (n : Int)])) := (s1.trans s2).trans (.of (same_upd ht0))
    generalize hH3 : upd H2 t0 (.tup [V.int ((1 : Int) + r1), V.int (n : Int)]) = H3 at *
    -- the rows
    refine ⟨_, rfl, (n : Int), rfl, by omega, by omega, ?_⟩
    rw [show (n : Int).toNat = n from Int.toNat_natCast n]
    refine fun D hD => ?_
    have nD : D ≠ w := hw3.ne hD
    refine lc_it walk_range (fun i H' => SameW w H3 H' ∧ WellAt H' w ∧ ∃ ps rs, H' D = some (.lst (ps.map V.ref)) ∧ AllN K H' ps rs ∧ rs.length = i ∧ ∀ r ∈ rs, Asc m r) ⟨SameW.new hD, hw3.same (same_upd hD), [], [], upd_same, .nil, rfl, (fun _ h => nomatch h)⟩ (fun _ _ _ _ => trivial) (fun i x H4 H5 hi hP hY => ?_) (fun H4 hP => ?_)
    · obtain ⟨sm, hw4, ps, rs, hps, hR, hl, hA⟩ := hP
      obtain ⟨rfl, rfl⟩ := hY
      refine ⟨rfl, ?_⟩
      refine ⟨_, rfl, _, rfl, _, rfl, w, 6, rfl, hw4, by decide, by decide, fun r H6 _ _ s6 hw6 => ?_⟩
      refine ⟨1, r, rfl, rfl, ?_⟩
      refine ⟨w, m, 1 + r, rfl, hw6, by omega, fun p l H7 s7 hw7 hp hl7 => ?_⟩
      have s67 := s6.trans s7
      have hps7 := s67 _ _ nD hps
      have hpl : ps.length = rs.length := hR.len
      have hR' := hR.sameW hw4 s67
      refine ⟨ps.map V.ref, hps7, by rw [List.length_map, hpl, hl]; exact small (by omega), ?_⟩
      exact ⟨SameW.lay hD (sm.trans s67), hw7.lay (Ne.symm nD), ps ++ [p], rs ++ [l], by rw [upd_same, List.map_append]; rfl, (AllN.snoc hR' hp).lay hps7, by rw [List.length_append, hl]; rfl, fun r hr => (List.mem_append.mp hr).elim (hA r) fun z => (List.mem_singleton.mp z) ▸ hl7⟩
    · obtain ⟨sm, hw4, ps, rs, hps, hR, hl, hA⟩ := hP
      have hDH : H D = none := s3.free nD hD
      refine ⟨fun σ H' => σ = [some (.ref w), some (nV m), some (nV n), some (.ref D), none, none, none, none, none, none, none, none] ∧ SameW w H H' ∧ WellAt H' w ∧ ∃ ps rs, H' D = some (.lst (ps.map V.ref)) ∧ AllN K H' ps rs ∧ rs.length = n ∧ ∀ r ∈ rs, Asc m r, ?_, ?_⟩
      · refine ⟨_, rfl, _, _, rfl, rfl, _, rfl, ite2 (fun h1 => ?_) (fun h1 => ?_)⟩
        · have n1 : (1 : Int) < (n : Int) := of_decide_eq_true h1
          refine ⟨_, rfl, w, 2, rfl, hw4, by decide, by decide, fun r H5 _ _ s5 hw5 => ?_⟩
          have hps5 := s5 _ _ nD hps
          have hR5 := hR.sameW hw4 s5
          refine ⟨rfl, _, rfl, ite2 (fun h2 => ?_) (fun h2 => ?_)⟩
          · have hpl : ps.length = n := hR.len.trans hl
            have hlast : ps[n - 1]? = some (ps[n - 1]'(by omega)) := List.getElem?_eq_getElem (by omega)
            obtain ⟨rl, hrl, hpr⟩ := hR5.get hlast
            refine ⟨_, rfl, _, rfl, _, _, rfl, rfl, D, ps.map V.ref, (n : Int) - 1, .ref (ps[n - 1]'(by omega)), rfl, rfl, SqL.of hps5, ?_, ?_⟩
            · rw [show (n : Int) - 1 = ((n - 1 : Nat) : Int) by omega]
              exact atI_nat (by rw [List.getElem?_map, hlast]; rfl)
            · refine ⟨_, rfl, D, _, 0, 0, rfl, rfl, hps5, ixN_zero (by rw [List.length_map]; omega), rfl, SameW.lay hDH ((s3.trans sm).trans s5), hw5.lay (Ne.symm nD), ps.set 0 (ps[n - 1]'(by omega)), rs.set 0 rl, by rw [upd_same, List.map_set], AllN.lay (paired_set hpr 0 hR5) hps5, by rw [List.length_set, hl], fun r hr => ?_⟩
              rcases mem_set_or hr with z | z
              · rw [z]
                exact hA _ (get_mem hrl)
              · exact hA r z
          · exact ⟨rfl, (s3.trans sm).trans s5, hw5, ps, rs, hps5, hR5, hl, hA⟩
        · exact ⟨rfl, s3.trans sm, hw4, ps, rs, hps, hR, hl, hA⟩
      · intro σ H5 hM
        clear hps hR hl hA ps rs
        obtain ⟨rfl, s5, hw5, ps, rs, hps, hR, hl, hA⟩ := hM
        -- the sides and the made places
        refine ⟨_, rfl, D, rfl, ⟨_, SqL.of hps⟩, fun D1 hD1 => ?_⟩
        have nD1 : D1 ≠ w := hw5.ne hD1
        refine lc_it (walk_list (xs := ps.map V.ref)) (fun i H' => SameW w H5 H' ∧ WellAt H' w ∧ ∃ bs : List Bool, H' D1 = some (.lst (bs.map bV)) ∧ bs.length = i) ⟨SameW.new hD1, hw5.same (same_upd hD1), [], upd_same, rfl⟩ (fun i H' _ k => SqL.of (k.1 _ _ nD hps)) (fun i x H6 H7 hi hP hY => ?_) (fun H6 hP => ?_)
        · obtain ⟨s6, hw6, bs, hbs, hbl⟩ := hP
          obtain ⟨rfl, hx⟩ := hY
          have hi2 : i < n := by rw [List.length_map, hR.len, hl] at hi; exact hi
          refine ⟨rfl, ?_⟩
          refine ⟨_, rfl, w, 2, rfl, hw6, by decide, by decide, fun r H8 r0 r1 s8 hw8 => ?_⟩
          obtain ⟨bt, ebt⟩ := bit_of r0 r1
          refine ⟨bs.map bV, s8 _ _ nD1 hbs, by rw [List.length_map, hbl]; exact small (by omega), SameW.lay hD1 (s6.trans s8), hw8.lay (Ne.symm nD1), bs ++ [bt], ?_, by rw [List.length_append, hbl]; rfl⟩
          rw [upd_same, ebt, List.map_append]
          rfl
        · obtain ⟨s6, hw6, bs, hbs, hbl⟩ := hP
          rw [List.length_map, hR.len, hl] at hbl
          refine ⟨D1, _, rfl, .inl ⟨SqL.of hbs, fun t1 ht1 => ?_⟩⟩
          have s7 := same_upd (o := .tup (bs.map bV)) ht1
          refine ⟨_, rfl, _, rfl, _, rfl, w, m, (m : Int), rfl, hw6.same s7, by omega, fun md ml H8 s8 hw8 hmd hml => ?_⟩
          refine ⟨by show 2 ≤ sizeLine; decide, fun t2 ht2 => ?_⟩
          refine ⟨t2, _, rfl, SqT.of upd_same, rfl, _, _, rfl, _, _, rfl, rfl, ?_⟩
          have s9 := same_upd (o := .tup [.ref t1, .ref md]) ht2
          have hsd : TupB K (upd H8 t2 (.tup [.ref t1, .ref md])) t1 bs := Same.tup s9 (tup_sameW (SqT.of upd_same) (hw6.same s7) s8)
          have hmd9 : TupN K (upd H8 t2 (.tup [.ref t1, .ref md])) md ml := hmd.same s9
          have hw9 := hw8.same s9
          have s59 : SameW w H5 (upd H8 t2 (.tup [.ref t1, .ref md])) := ((s6.trans (.of s7)).trans s8).trans (.of s9)
          generalize hH9 : upd H8 t2 (.tup [.ref t1, .ref md]) = H9 at *
          have hps9 := s59 _ _ nD hps
          have hR9 := hR.sameW hw5 s59
          refine ⟨_, rfl, w, 3, rfl, hw9, by decide, by decide, fun r3 H10 _ _ s10 hw10 => ?_⟩
          refine ⟨rfl, ?_⟩
          have hsd10 : TupB K H10 t1 bs := tup_sameW hsd hw9 s10
          have hmd10 : TupN K H10 md ml := tup_sameW hmd9 hw9 s10
          have hps10 := s10 _ _ nD hps9
          have hR10 := hR9.sameW hw9 s10
          have s0 := (s5.trans s59).trans s10
          refine ⟨fun σ H' => ∃ (sd : Addr) (sides : List Bool) (im : Bool), σ = [some (.ref w), some (nV m), some (nV n), some (.ref D), some (.ref sd), some (.ref md), some (.bl im), none, none, none, none, none] ∧ SameW w H H' ∧ WellAt H' w ∧ H' D = some (.lst (ps.map V.ref)) ∧ AllN K H' ps rs ∧
            TupB K H' sd sides ∧ sides.length = n ∧ TupN K H' md ml ∧ (im = true → Sat rs sides (mem ml)), ?_, ?_⟩
          · refine ⟨_, rfl, _, rfl, ite2 (fun h1 => ?_) (fun h1 => ?_)⟩
            · refine ⟨_, rfl, D, rfl, ⟨_, SqL.of hps10⟩, fun D2 hD2 => ?_⟩
              refine lc_it (walk_list (xs := ps.map V.ref)) (LcP H10 D2 fun i => (rs.take i).map fun r => bV (lp r (mem ml))) (lcp_0 hD2 rfl) (fun i H' _ k => SqL.of (k.1 _ _ hps10)) (fun i x H12 H13 hi k y => ?_) (fun H12 k => ?_)
              · obtain ⟨rfl, hx⟩ := y
                obtain ⟨d, hd, rfl⟩ := map_get hx
                obtain ⟨r, hr1, hdr⟩ := hR10.get hd
                have hAr := hA r (get_mem hr1)
                refine ⟨rfl, ?_⟩
                refine ⟨_, rfl, _, rfl, d, md, r, ml, rfl, hdr.same k.1, .inr (Same.tup k.1 hmd10), Nat.le_trans hAr.len (by omega), fun H14 s14 => ?_⟩
                exact lcp_add hD2 k s14 (by rw [take_next hr1, List.map_append]; rfl) (by rw [List.length_map]; exact small (take_len (by omega)))
              · rw [List.length_map, hR.len] at k
                have eD := lcp_end k (congrArg (List.map fun r => bV (lp r (mem ml))) List.take_length)
                refine ⟨D2, _, rfl, .inl ⟨SqL.of eD, fun t3 ht3 => ?_⟩⟩
                have sk := k.1.trans (same_upd (o := .tup (rs.map fun r => bV (lp r (mem ml)))) ht3)
                exact ⟨t3, rs.map fun r => lp r (mem ml), _, rfl, s0.trans (.of sk), hw10.same sk, sk _ _ hps10, hR10.same sk, SqT.of (by rw [upd_same, List.map_map]; rfl), by rw [List.length_map, hl], hmd10.same sk, fun _ => rfl⟩
            · exact ⟨_, _, _, rfl, s0, hw10, hps10, hR10, hsd10, hbl, hmd10, fun e => absurd e h1⟩
          · intro σ H11 hM
            obtain ⟨sd, sides, im, rfl, s11, hw11, hps11, hR11, hsd11, hsl, hmd11, hmade⟩ := hM
            have hQ : Quest 1000 rs sides := ⟨fun r hr => (hA r hr).mono (by omega), hsl.trans hl.symm⟩
            have hlen : rs.length ≤ 60 := by omega
            refine ⟨_, rfl, D, _, rfl, .inl ⟨SqL.of hps11, fun t4 ht4 => ?_⟩⟩
            have s12 := same_upd (o := .tup (ps.map V.ref)) ht4
            have hra : RowsAt K (upd H11 t4 (.tup (ps.map V.ref))) t4 rs := ⟨ps, SqT.of upd_same, hR11.same s12⟩
            have hsd12 := hsd11.same s12
            have hmd12 := hmd11.same s12
            have hw12 := hw11.same s12
            have sH12 := s11.trans (.of s12)
            generalize upd H11 t4 (.tup (ps.map V.ref)) = H12 at *
            refine ⟨_, rfl, _, rfl, t4, sd, rs, sides, rfl, hra, hsd12, hQ, hlen, fun tp bb l H13 s13 hPair hfit htell => ?_⟩
            have hsolv : bb = true ↔ Solvable rs sides := by
              cases bb with
              | true => exact ⟨fun _ => ⟨_, htell⟩, fun _ => rfl⟩
              | false => exact ⟨fun e => (by cases e), fun e => absurd e (odd_not hQ.len (hfit.2.2 rfl).2 htell)⟩
            have ht0 : ∃ u : Addr, SqT K H13 tp [.str (wordS bb), .ref u] := hPair.imp fun _ z => z.1
            obtain ⟨u, htp⟩ := ht0
            refine ⟨_, rfl, tp, _, _, .str (wordS bb), rfl, rfl, htp, atI_nat (j := 0) rfl, rfl, ?_⟩
            refine ⟨_, rfl, _, rfl, t4, sd, rs, sides, rfl, hra.same s13, hsd12.same s13, hQ, hlen, fun v H14 s14 hv => ?_⟩
            have hvb : v = bb := Bool.eq_iff_iff.mpr (hv.trans hsolv.symm)
            subst hvb
            refine ⟨rfl, false, congrArg V.bl (by rw [word_eqS]; cases v <;> rfl), ?_⟩
            have htp14 : SqT K H14 tp [.str (wordS v), .ref u] := Same.tup s14 htp
            refine ⟨_, rfl, tp, _, _, .str (wordS v), rfl, rfl, htp14, atI_nat (j := 0) rfl, ?_⟩
            refine ⟨by show 2 ≤ sizeLine; decide, fun t5 ht5 => ?_⟩
            have s15 := same_upd (o := .tup [.str "solution", .str "odd"]) ht5
            refine ⟨t5, _, rfl, .inr (SqT.of upd_same), rfl, rfl, false, congrArg V.bl (by rw [in_words]; rfl), ?_⟩
            have s1215 := (s13.trans s14).trans s15
            have htp15 : SqT K (upd H14 t5 (.tup [.str "solution", .str "odd"])) tp [.str (wordS v), .ref u] := Same.tup s15 htp14
            have hPair15 := hPair.same (s14.trans s15)
            have hra15 := hra.same s1215
            have hsd15 := hsd12.same s1215
            have hmd15 := hmd12.same s1215
            have hw15 := hw12.same s1215
            have sH15 := sH12.trans (.of s1215)
            generalize upd H14 t5 (.tup [.str "solution", .str "odd"]) = H15 at *
            -- right, solved, made
            refine ⟨fun σ H' => σ = [some (.ref w), some (nV m), some (nV n), some (.ref t4), some (.ref sd), some (.ref md), some (.bl im), some (.ref tp), none, none, none, none] ∧ Same H15 H', ?_, ?_⟩
            · refine ⟨_, rfl, _, rfl, _, rfl, t4, sd, tp, rs, sides, v, l, rfl, hra15, hsd15, hPair15, hQ, hlen, hfit, fun v1 H16 s16 hv1 => ?_⟩
              obtain rfl : v1 = true := hv1.mpr htell
              refine ⟨true, rfl, ?_⟩
              refine ⟨_, rfl, _, rfl, _, rfl, t4, sd, tp, rs, sides, v, l, rfl, hra15.same s16, hsd15.same s16, hPair15.same s16, hQ, hlen, hfit, fun v2 H17 s17 hv2 => ?_⟩
              obtain rfl : v2 = true := hv2.mpr htell
              refine ⟨true, rfl, ?_⟩
              refine ⟨_, rfl, im, rfl, ite2 (fun h1 => ?_) (fun h1 => ?_)⟩
              · obtain rfl : v = true := hsolv.mpr ⟨_, hmade h1⟩
                refine ⟨_, rfl, tp, _, _, .str (wordS true), rfl, rfl, Same.tup (s16.trans s17) htp15, atI_nat (j := 0) rfl, rfl, false, rfl, ?_⟩
                exact ⟨rfl, s16.trans s17⟩
              · obtain rfl : im = false := by cases im <;> simp_all
                exact ⟨rfl, s16.trans s17⟩
            · intro σ H16 hM
              obtain ⟨rfl, s16⟩ := hM
              have hmfit : TellFit rs true ml := ⟨Nat.le_trans hml.len (by omega), hml.mono (by omega), fun e => by cases e⟩
              refine ⟨_, rfl, _, rfl, _, rfl, by show 2 ≤ sizeLine; decide, fun t6 ht6 => ?_⟩
              have s17 := s16.trans (same_upd (o := .tup [.str "solution", .ref md]) ht6)
              have hmd17 := hmd15.same s17
              refine ⟨t4, sd, t6, rs, sides, true, ml, rfl, hra15.same s17, hsd15.same s17, ⟨md, SqT.of upd_same, hmd17⟩, hQ, hlen, hmfit, fun v3 H18 s18 hv3 => ?_⟩
              have s18' := s17.trans s18
              refine ⟨_, rfl, _, rfl, _, rfl, by show 2 ≤ sizeLine; decide, fun t7 ht7 => ?_⟩
              have s19 := s18'.trans (same_upd (o := .tup [.str "solution", .ref md]) ht7)
              refine ⟨t4, sd, t7, rs, sides, true, ml, rfl, hra15.same s19, hsd15.same s19, ⟨md, SqT.of upd_same, hmd15.same s19⟩, hQ, hlen, hmfit, fun v4 H20 s20 hv4 => ?_⟩
              have hv34 : v3 = v4 := Bool.eq_iff_iff.mpr (hv3.trans hv4.symm)
              subst hv34
              refine ⟨rfl, false, congrArg V.bl (by cases v3 <;> rfl), ?_⟩
              have s21 := s19.trans s20
              have hra21 := hra15.same s21
              have hsd21 := hsd15.same s21
              have htp21 : SqT K H20 tp [.str (wordS v), .ref u] := Same.tup s21 htp15
              have hw21 := hw15.same s21
              have sH21 := sH15.trans (.of s21)
              refine ⟨_, rfl, _, _, rfl, rfl, _, rfl, ite2 (fun h1 => ?_) (fun h1 => ?_)⟩
              · exact q _ sH21 hw21
              · have hm8 : m ≤ 8 := by
                  have z : ¬ (8 : Int) < (m : Int) := fun z => h1 (decide_eq_true z)
                  omega
                obtain ⟨qs, hq, hqs⟩ := hra21
                refine ⟨_, rfl, m, rfl, hm8, fun lp0 ts H21 s22 hlp hL => ?_⟩
                refine ⟨lp0, rfl, ⟨_, SqL.of hlp⟩, fun D3 hD3 => ?_⟩
                have hLl := lots_le hm8
                have htl : ts.length = (allLots m).length := Paired.length hL
                refine lc_it (walk_list (xs := ts.map V.ref)) (fun j H' => Same H21 H' ∧ ∃ us, H' D3 = some (.lst (us.map V.ref)) ∧ LotsN D3 H' us (((allLots m).take j).filter fun l => decide (rs.map (fun r => lp r (mem l)) = sides))) ⟨same_upd hD3, [], upd_same, .nil⟩ (fun j H4 _ k => SqL.of (k.1 _ _ hlp)) (fun j x H22 H23 hj k y => ?_) (fun H22 k => ?_)
                · obtain ⟨s23, us, hus, hU⟩ := k
                  obtain ⟨rfl, hx⟩ := y
                  obtain ⟨t, ht, rfl⟩ := map_get hx
                  obtain ⟨lt, hlt, htl2⟩ := paired_get hL ht
                  have lenU : us.length = _ := Paired.length hU
                  have hlU : us.length ≤ 1000 := by
                    rw [lenU]
                    refine Nat.le_trans (List.length_filter_le ..) (take_len (by omega))
                  have ntD : t ≠ D3 := ne_of_none htl2 hD3
                  refine ⟨rfl, ?_⟩
                  refine ⟨_, rfl, t4, rfl, ⟨_, Same.tup (s22.trans s23) hq⟩, fun D4 hD4 => ?_⟩
                  refine lc_it (walk_tup (xs := qs.map V.ref)) (LcP H23 D4 fun i => (rs.take i).map fun r => bV (lp r (mem lt))) (lcp_0 hD4 rfl) (fun i H2 _ k => Same.tup ((s22.trans s23).trans k.1) hq) (fun i x H24 H25 hi k y => ?_) (fun H24 k => ?_)
                  · obtain ⟨rfl, hx⟩ := y
                    obtain ⟨d, hd, rfl⟩ := map_get hx
                    obtain ⟨r, hr1, hdr⟩ := hqs.get hd
                    have hAr := hA r (get_mem hr1)
                    refine ⟨rfl, ?_⟩
                    refine ⟨_, rfl, _, rfl, d, t, r, lt, rfl, hdr.same ((s22.trans s23).trans k.1), .inl (SqL.of ((s23.trans k.1) _ _ htl2)), Nat.le_trans hAr.len (by omega), fun H26 s26 => ?_⟩
                    exact lcp_add hD4 k s26 (by rw [take_next hr1, List.map_append]; rfl) (by rw [List.length_map]; exact small (take_len (by omega)))
                  · rw [List.length_map, hqs.len] at k
                    have eD := lcp_end k (congrArg (List.map fun r => bV (lp r (mem lt))) List.take_length)
                    refine ⟨_, rfl, sd, _, rfl, .inr (Same.tup ((s22.trans s23).trans k.1) hsd21), fun p3 hp3 => ?_⟩
                    have s27 := same_upd (o := .lst (sides.map bV)) hp3
                    have eD4 := s27 _ _ eD
                    have s28 := k.1.trans s27
                    refine ⟨.list ((rs.map fun r => lp r (mem lt)).map bitD), .list (sides.map bitD), .lst (sqL_eq eD4 (by rw [List.map_map]; rfl)) (dpAll_bit (rs.map fun r => lp r (mem lt))), .lst (SqL.of upd_same) (dpAll_bit sides), shaped_bit _, shaped_bit _, _, rfl, ?_⟩
                    rw [eqv_bit]
                    cases ec : decide ((rs.map fun r => lp r (mem lt)) = sides) with
                    | true =>
                      refine iteT ?_
                      refine ⟨_, rfl, us.map V.ref, s28 _ _ hus, by rw [List.length_map]; exact small hlU, fun z o ez => ?_, us ++ [t], ?_, ?_⟩
                      · rw [upd_ne (ne_of_none ez hD3)]
                        exact s28 _ _ (s23 _ _ ez)
                      · rw [upd_same, List.map_append]
                        rfl
                      · rw [take_next hlt, List.filter_append]
                        simp only [List.filter_cons, ec, if_true, List.filter_nil]
                        exact LotsN.put (paired_one (hU.same s28) ⟨ntD, s28 _ _ (s23 _ _ htl2)⟩)
                    | false =>
                      refine iteF ?_
                      refine ⟨s23.trans s28, us, s28 _ _ hus, ?_⟩
                      rw [take_next hlt, List.filter_append]
                      simp only [List.filter_cons, ec, Bool.false_eq_true, if_false, List.filter_nil, List.append_nil]
                      exact hU.same s28
                · obtain ⟨s23, us, hus, hU⟩ := k
                  rw [List.length_map, htl, List.take_length] at hU
                  generalize hfl : (allLots m).filter (fun l => decide (rs.map (fun r => lp r (mem l)) = sides)) = fl at *
                  have hfe : (!fl.isEmpty) = v := by
                    rw [Bool.eq_iff_iff, hsolv, ← fits_iff hA]
                    constructor
                    · intro z
                      cases fl with
                      | nil => cases z
                      | cons a b =>
                        have ma : a ∈ (allLots m).filter fun l => decide (rs.map (fun r => lp r (mem l)) = sides) := by rw [hfl]; exact List.mem_cons_self ..
                        have sa : rs.map (fun r => lp r (mem a)) = sides := of_decide_eq_true (List.mem_filter.mp ma).2
                        exact ⟨a, (List.mem_filter.mp ma).1, sa⟩
                    · rintro ⟨a, ma, sa⟩
                      have mf : a ∈ fl := by
                        rw [← hfl]
                        exact List.mem_filter.mpr ⟨ma, by have sa2 : rs.map (fun r => lp r (mem a)) = sides := sa; exact decide_eq_true sa2⟩
                      cases fl with
                      | nil => cases mf
                      | cons a b => rfl
                  refine ⟨_, rfl, Nat.zero_le _, fun p8 hp8 => ?_⟩
                  have s29 := same_upd (o := .lst []) hp8
                  refine ⟨.list (fl.map lotD), .list [], .lst (SqL.of (s29 _ _ hus)) (dpAll_lot (hU.lots.same s29)), .lst (SqL.of upd_same) .nil, shaped_lot _, rfl, ?_⟩
                  have s30 := (s22.trans s23).trans s29
                  refine ⟨_, rfl, tp, _, _, .str (wordS v), rfl, rfl, Same.tup s30 htp21, atI_nat (j := 0) rfl, rfl, ?_⟩
                  refine ⟨rfl, ?_⟩
                  have eall : decide (V.bl (!PyData.eqv (.list (fl.map lotD)) (.list [])) = V.bl (decide (V.str (wordS v) = V.str "solution"))) = true := by
                    rw [eqv_empty, lotD_empty, hfe, word_eqS]
                    exact decide_eq_true rfl
                  have qq := q _ (sH21.trans (.of s30)) (hw21.same s30)
                  rw [← eall] at qq
                  exact qq
end
end Pq

namespace Pq
open PySem L2
/-! ### the four told questions -/
theorem asc_lots {n : Nat} {l : List Nat} (h : Asc n l) : l ∈ allLots n := by
  have e : l = (List.range n).filter (mem l) := by
    refine asc_ext h.1 (Asc.filter (N := n) (mem l)).1 fun p => ?_
    rw [List.mem_filter, List.mem_range]
    exact ⟨fun m => ⟨h.2 p m, decide_eq_true m⟩, fun m => of_decide_eq_true m.2⟩
  rw [e]
  exact allLots_mem (mem l) n
abbrev rsA : List (List Nat) := [[0, 1], [1, 2], [0, 2]]
abbrev sdA : List Bool := [true, true, true]
theorem tellA {b : Bool} {l : List Nat} (hf : TellFit rsA b l) (ht : TellOk rsA sdA b l) : b = false ∧ l = [0, 1, 2] := by
  cases b with
  | true =>
    exfalso
    have s : [lp [0, 1] (mem l), lp [1, 2] (mem l), lp [0, 2] (mem l)] = [true, true, true] := ht
    generalize mem l = x at s
    simp only [lp, List.cons.injEq] at s
    revert s
    cases x 0 <;> cases x 1 <;> cases x 2 <;> decide
  | false =>
    refine ⟨rfl, ?_⟩
    have hm : l ∈ allLots 3 := asc_lots (hf.2.2 rfl)
    have o : OddLot rsA sdA l := ht
    have c0 := o.1 0
    have c1 := o.1 1
    have c2 := o.1 2
    have c3 := o.2
    revert c0 c1 c2 c3
    have key : ∀ l ∈ allLots 3, ((l.flatMap (rowAt rsA)).count 0) % 2 = 0 → ((l.flatMap (rowAt rsA)).count 1) % 2 = 0 → ((l.flatMap (rowAt rsA)).count 2) % 2 = 0 → lp l (sideAt sdA) = true → l = [0, 1, 2] := by decide +kernel
    exact key l hm
abbrev rsB : List (List Nat) := [[], [5]]
abbrev sdB : List Bool := [true, false]
theorem tellB {b : Bool} {l : List Nat} (hf : TellFit rsB b l) (ht : TellOk rsB sdB b l) : b = false ∧ l = [0] := by
  cases b with
  | true =>
    exfalso
    have s : [lp [] (mem l), lp [5] (mem l)] = [true, false] := ht
    injection s with s1 _
    cases s1
  | false =>
    refine ⟨rfl, ?_⟩
    have hm : l ∈ allLots 2 := asc_lots (hf.2.2 rfl)
    have o : OddLot rsB sdB l := ht
    have c0 := o.1 5
    have c3 := o.2
    revert c0 c3
    have key : ∀ l ∈ allLots 2, ((l.flatMap (rowAt rsB)).count 5) % 2 = 0 → lp l (sideAt sdB) = true → l = [0] := by decide +kernel
    exact key l hm
theorem tellC {b : Bool} {l : List Nat} (hf : TellFit [] b l) (ht : TellOk [] [] b l) : b = true := by
  cases b with
  | true => rfl
  | false =>
    exfalso
    have hm : l ∈ allLots 0 := asc_lots (hf.2.2 rfl)
    have o : OddLot [] [] l := ht
    rw [List.mem_singleton.mp hm] at o
    cases o.2
abbrev rsD : List (List Nat) := [[999]]
abbrev sdD : List Bool := [true]
theorem tellD {b : Bool} {l : List Nat} (hf : TellFit rsD b l) (ht : TellOk rsD sdD b l) : ∃ r, l = r ++ [999] := by
  cases b with
  | true =>
    have s : [lp [999] (mem l)] = [true] := ht
    have hm : 999 ∈ l := by
      by_cases m : 999 ∈ l
      · exact m
      · exfalso
        have e : mem l 999 = false := decide_eq_false m
        simp only [lp, e, List.cons.injEq] at s
        revert s
        decide
    have hA := hf.2.1
    rcases list_end l with e | ⟨r, x, e⟩
    · rw [e] at hm
      cases hm
    · refine ⟨r, ?_⟩
      have x1 : x < 1000 := hA.2 x (by rw [e]; simp)
      have x2 : 999 ≤ x := by
        rw [e] at hm
        rcases List.mem_append.mp hm with m | m
        · have p := hA.1
          rw [e] at p
          have := (List.pairwise_append.mp p).2.2 999 m x (List.mem_singleton.mpr rfl)
          omega
        · rw [List.mem_singleton.mp m]
          exact Nat.le_refl _
      rw [e, show x = 999 by omega]
  | false =>
    exfalso
    have hm : l ∈ allLots 1 := asc_lots (hf.2.2 rfl)
    have o : OddLot rsD sdD l := ht
    have c0 := o.1 999
    have c3 := o.2
    revert c0 c3
    have key : ∀ l ∈ allLots 1, ((l.flatMap (rowAt rsD)).count 999) % 2 = 0 → lp l (sideAt sdD) = true → False := by decide +kernel
    exact key l hm
theorem questA : Quest 1000 rsA sdA := ⟨fun r hr => ⟨(by decide : ∀ r ∈ rsA, r.Pairwise (· < ·)) r hr, (by decide : ∀ r ∈ rsA, ∀ p ∈ r, p < 1000) r hr⟩, rfl⟩
theorem questB : Quest 1000 rsB sdB := ⟨fun r hr => ⟨(by decide : ∀ r ∈ rsB, r.Pairwise (· < ·)) r hr, (by decide : ∀ r ∈ rsB, ∀ p ∈ r, p < 1000) r hr⟩, rfl⟩
theorem questC : Quest 1000 [] [] := ⟨fun r hr => (nomatch hr), rfl⟩
theorem questD : Quest 1000 rsD sdD := ⟨fun r hr => ⟨(by decide : ∀ r ∈ rsD, r.Pairwise (· < ·)) r hr, (by decide : ∀ r ∈ rsD, ∀ p ∈ r, p < 1000) r hr⟩, rfl⟩
section
variable {P : Program} {w : World} {K : PySem.W.Frag} {mg : Str → Option Value} {base : Heap}
/-! ### the law -/
abbrev nLaw : List Str := ["_law_script", "_law_at", "_law_well_here", "_law_told", "_law_turn"]
theorem scLaw : FnScope nLaw ["_law_script"] (C8.fnScope sLaw) := C8.fnScope_by (by decide +kernel)
def spLaw (K : PySem.W.Frag) : Sp := fun vs H Q _ => ∃ (a : Addr) (ns : List Int), vs = [.ref a] ∧ SqL K H a (ns.map V.int) ∧ ns.length ≤ 63 ∧ ∀ H', Q (.bl true) H'
theorem ok_law {f : Addr} {fd : FuncData} (F : C8.Fun K "law" "law" sLaw f fd) (T : Nm mg) (cW : C8.Cal P w K mg base 1 "_law_well" (spWell K) []) (cR : C8.Cal P w K mg base 5 "_law_right" spRight [])
    (cV : C8.Cal P w K mg base 4 "solved" (spSolved K) []) : FnOk P w K mg base C8.CX0 6 f fd ["_law_script"] (spLaw K) := by
  refine C8.fn0 F scLaw (fun vs H Q E h => ?_) (fun cdv A outer s H vs Q E hr h => ?_)
  · obtain ⟨a, ns, rfl, _⟩ := h
    rfl
  · obtain ⟨a, ns, rfl, hS, hl, q⟩ := h
    refine ⟨_, pss_cons (ps_for PassesOwn.never rfl (pi_range1 (by rfl) T.range (pa_cons (pe_callB (call_max2 rfl) (by rfl) T.max (by decide +kernel) (pa_cons pe_int (pa_cons (pe_callB (call_min2 rfl) (by rfl) T.min (by decide +kernel) (pa_cons pe_int (pa_cons (pe_callB call_len_seq (by rfl) T.len PySem.boot_len (pa_cons (pv 0) pa_nil)) pa_nil))) pa_nil))) pa_nil))
        (pg_name (i := 1) scLaw.nd rfl (.inl rfl))
        (pss_cons (ps_set (i := 2) scLaw.nd rfl (.inr rfl) (C8.pe_c cW hr (by decide) (by rfl) (pa_cons (pv 0) (pa_cons (pv 1) pa_nil))))
        (pss_one (ps_if (pt_cmpR (op_neD hr.units)
          (pe_lc (own := [("_law_turn", 4)]) (g := gName 4) rfl scLaw.nd (pi_range1 (by rfl) T.range (pa_cons pe_int pa_nil))
            (blkOk_by (own := [("_law_turn", 4)]) (N := nLaw) (sc := C8.fnScope sLaw) (by decide +kernel))
            (fun _ _ _ _ _ => pg_name (i := 4) scLaw.nd rfl (Or.inl rfl) (Or.inr rfl))
            (fun _ _ _ _ _ => pts_one (pt_not (pt_val (C8.pe_c cR hr (by decide) (by rfl) (pa_cons (pv 2) pa_nil)))))
            (fun _ _ _ _ _ => pv 4)) (pe_lst pa_nil) (nomark _)) pss_never pss_nil))))
      (pss_cons (ps_set (i := 3) scLaw.nd rfl (.inl rfl) (pe_lst
        (pa_cons (C8.pe_c cV hr (by decide) (by rfl) (pa_cons (pe_tup (pa_cons (pe_tup (pa_cons pe_int (pa_cons pe_int pa_nil))) (pa_cons (pe_tup (pa_cons pe_int (pa_cons pe_int pa_nil))) (pa_cons (pe_tup (pa_cons pe_int (pa_cons pe_int pa_nil))) pa_nil)))) (pa_cons (pe_tup (pa_cons pe_int (pa_cons pe_int (pa_cons pe_int pa_nil)))) pa_nil)))
        (pa_cons (C8.pe_c cV hr (by decide) (by rfl) (pa_cons (pe_tup (pa_cons (pe_tup pa_nil) (pa_cons (pe_tup (pa_cons pe_int pa_nil)) pa_nil))) (pa_cons (pe_tup (pa_cons pe_int (pa_cons pe_int pa_nil))) pa_nil)))
        (pa_cons (pe_ix ix_tup (C8.pe_c cV hr (by decide) (by rfl) (pa_cons (pe_tup pa_nil) (pa_cons (pe_tup pa_nil) pa_nil))) pe_int (fun _ _ => rfl)) pa_nil)))))
      (pss_one (ps_ret (pe_and (pe_cmpR (op_eqD hr.units) (pv 3)
          (pe_lst (pa_cons (pe_tup (pa_cons pe_str (pa_cons (pe_tup (pa_cons pe_int (pa_cons pe_int (pa_cons pe_int pa_nil)))) pa_nil))) (pa_cons (pe_tup (pa_cons pe_str (pa_cons (pe_tup (pa_cons pe_int pa_nil)) pa_nil))) (pa_cons pe_str pa_nil)))) (nomark _))
        (pe_one (pe_cmpR op_eq (pe_ix ix_tup (pe_ix ix_tup (C8.pe_c cV hr (by decide) (by rfl) (pa_cons (pe_tup (pa_cons (pe_tup (pa_cons pe_int pa_nil)) pa_nil)) (pa_cons (pe_tup (pa_cons pe_int pa_nil)) pa_nil))) pe_int (fun _ _ => rfl)) (pe_un un_neg pe_int) (fun _ _ => rfl)) pe_int (nomark _))))))), ?_⟩
    refine ⟨_, rfl, a, _, rfl, .inl hS, _, _, rfl, _, _, rfl, _, rfl, ?_, ?_, ?_⟩
    · split <;> omega
    · rw [List.length_map]
      repeat' split
      all_goals omega
    refine for_it walk_range (fun i σ H' => ∃ v1 v2, σ = [some (.ref a), v1, v2, none, none] ∧ Same H H') ⟨_, _, rfl, Same.refl _⟩ (fun _ _ _ _ _ => trivial) (fun i x σ H2 H3 hi hP hY => ?_) (fun σ H2 hP => ?_)
    · obtain ⟨v1, v2, rfl, sm⟩ := hP
      obtain ⟨rfl, hx0⟩ := hY
      obtain rfl : x = nV i := hx0.trans (congrArg V.int (Int.zero_add _))
      refine ⟨_, rfl, _, rfl, a, ns, i, rfl, Same.seq sm hS, fun wl H4 s4 hn hw4 => ?_⟩
      refine ⟨3, rfl, by decide, by decide, fun D hD => ?_⟩
      have nD := hw4.ne hD
      refine lc_it walk_range (fun j H' => SameW wl H4 H' ∧ WellAt H' wl ∧ H' D = some (.lst [])) ⟨SameW.new hD, hw4.same (same_upd hD), upd_same⟩ (fun _ _ _ _ => trivial) (fun j x H5 H6 hj hP hY => ?_) (fun H5 hP => ?_)
      · obtain ⟨s5, hw5, e5⟩ := hP
        obtain ⟨rfl, rfl⟩ := hY
        refine ⟨rfl, ?_⟩
        refine ⟨_, rfl, wl, rfl, hw5, fun H7 s7 hw7 => ⟨true, rfl, ?_⟩⟩
        exact ⟨s5.trans s7, hw7, s7 _ _ nD e5⟩
      · obtain ⟨s5, hw5, e5⟩ := hP
        refine ⟨Nat.zero_le _, fun p hp => ?_⟩
        have s6 := same_upd (o := .lst []) hp
        refine ⟨.list [], .list [], .lst (SqL.of (s6 _ _ e5)) .nil, .lst (SqL.of upd_same) .nil, rfl, rfl, false, rfl, ?_⟩
        exact ⟨_, _, rfl, sm.trans ((SameW.same hn s4 s5).trans s6)⟩
    · obtain ⟨v1, v2, rfl, _⟩ := hP
      clear hS hl
      -- the first question
      refine ⟨by show 2 ≤ sizeLine; decide, fun p1 hp1 => ⟨by show 2 ≤ sizeLine; decide, fun p2 hp2 => ⟨by show 2 ≤ sizeLine; decide, fun p3 hp3 => ⟨by show 3 ≤ sizeLine; decide, fun p4 hp4 => ⟨by show 3 ≤ sizeLine; decide, fun p5 hp5 => ?_⟩⟩⟩⟩⟩
      have s1 := same_upd (o := .tup [.int 0, .int 1]) hp1
      have s2 := same_upd (o := .tup [.int 1, .int 2]) hp2
      have s3 := same_upd (o := .tup [.int 0, .int 2]) hp3
      have s4 := same_upd (o := .tup [.ref p1, .ref p2, .ref p3]) hp4
      have s5 := same_upd (o := .tup [.int 1, .int 1, .int 1]) hp5
      refine ⟨p4, p5, rsA, sdA, rfl, ⟨[p1, p2, p3], Same.tup s5 (SqT.of upd_same), .cons (Same.tup (((s2.trans s3).trans s4).trans s5) (SqT.of upd_same)) (.cons (Same.tup ((s3.trans s4).trans s5) (SqT.of upd_same)) (.cons (Same.tup (s4.trans s5) (SqT.of upd_same)) .nil))⟩, SqT.of upd_same, questA, by decide, fun tA bA lA HA _ pA fA kA => ?_⟩
      clear s1 s2 s3 s4 s5 hp1 hp2 hp3 hp4 hp5
      obtain ⟨rfl, rfl⟩ := tellA fA kA
      obtain ⟨uA, hA1, hA2⟩ := pA
      -- the second
      refine ⟨Nat.zero_le _, fun p1 hp1 => ⟨by show 1 ≤ sizeLine; decide, fun p2 hp2 => ⟨by show 2 ≤ sizeLine; decide, fun p4 hp4 => ⟨by show 2 ≤ sizeLine; decide, fun p5 hp5 => ?_⟩⟩⟩⟩
      have s1 := same_upd (o := .tup []) hp1
      have s2 := same_upd (o := .tup [.int 5]) hp2
      have s4 := same_upd (o := .tup [.ref p1, .ref p2]) hp4
      have s5 := same_upd (o := .tup [.int 1, .int 0]) hp5
      refine ⟨p4, p5, rsB, sdB, rfl, ⟨[p1, p2], Same.tup s5 (SqT.of upd_same), .cons (Same.tup ((s2.trans s4).trans s5) (SqT.of upd_same)) (.cons (Same.tup (s4.trans s5) (SqT.of upd_same)) .nil)⟩, SqT.of upd_same, questB, by decide, fun tB bB lB HB sB pB fB kB => ?_⟩
      have sAB := (((s1.trans s2).trans s4).trans s5).trans sB
      clear s1 s2 s4 s5 hp1 hp2 hp4 hp5
      obtain ⟨rfl, rfl⟩ := tellB fB kB
      obtain ⟨uB, hB1, hB2⟩ := pB
      have hA3 : SqT K HB tA [.str "odd", .ref uA] := Same.tup sAB hA1
      have hA4 : TupN K HB uA [0, 1, 2] := hA2.same sAB
      clear sAB sB
      -- the third
      refine ⟨Nat.zero_le _, fun p1 hp1 => ⟨Nat.zero_le _, fun p2 hp2 => ?_⟩⟩
      have s1 := same_upd (o := .tup []) hp1
      have s2 := same_upd (o := .tup []) hp2
      refine ⟨p1, p2, [], [], rfl, ⟨[], Same.tup s2 (SqT.of upd_same), .nil⟩, SqT.of upd_same, questC, by decide, fun tC bC lC HC sC pC fC kC => ?_⟩
      have sBC := (s1.trans s2).trans sC
      clear s1 s2 hp1 hp2
      obtain rfl := tellC fC kC
      obtain ⟨uC, hC1, _⟩ := pC
      have hA5 : SqT K HC tA [.str "odd", .ref uA] := Same.tup sBC hA3
      have hA6 : TupN K HC uA [0, 1, 2] := hA4.same sBC
      have hB3 : SqT K HC tB [.str "odd", .ref uB] := Same.tup sBC hB1
      have hB4 : TupN K HC uB [0] := hB2.same sBC
      clear sBC sC
      refine ⟨tC, _, _, .str "solution", rfl, rfl, hC1, atI_nat (j := 0) rfl, ?_⟩
      refine ⟨by show 3 ≤ sizeLine; decide, fun tl htl => ?_⟩
      -- the display
      refine ⟨_, rfl, by show 3 ≤ sizeLine; decide, fun p1 hp1 => ⟨by show 2 ≤ sizeLine; decide, fun p2 hp2 => ⟨by show 1 ≤ sizeLine; decide, fun p3 hp3 => ⟨by show 2 ≤ sizeLine; decide, fun p4 hp4 => ⟨by show 3 ≤ sizeLine; decide, fun p5 hp5 => ?_⟩⟩⟩⟩⟩
      have s0 := same_upd (o := .lst [.ref tA, .ref tB, .str "solution"]) htl
      have s1 := same_upd (o := .tup [.int 0, .int 1, .int 2]) hp1
      have s2 := same_upd (o := .tup [.str "odd", .ref p1]) hp2
      have s3 := same_upd (o := .tup [.int 0]) hp3
      have s4 := same_upd (o := .tup [.str "odd", .ref p3]) hp4
      have s5 := same_upd (o := .lst [.ref p2, .ref p4, .str "solution"]) hp5
      have s15 := (((s1.trans s2).trans s3).trans s4).trans s5
      have s05 := s0.trans s15
      refine ⟨.list [.tuple [.str "odd", .tuple (natD [0, 1, 2])], .tuple [.str "odd", .tuple (natD [0])], .str "solution"], .list [.tuple [.str "odd", .tuple (natD [0, 1, 2])], .tuple [.str "odd", .tuple (natD [0])], .str "solution"],
        .lst (SqL.of (s15 _ _ upd_same)) (.cons (.tup (Same.tup s05 hA5) (.cons (.str _) (.cons (.tup (hA6.same s05) (dpAll_nat _)) .nil))) (.cons (.tup (Same.tup s05 hB3) (.cons (.str _) (.cons (.tup (hB4.same s05) (dpAll_nat _)) .nil))) (.cons (.str _) .nil))),
        .lst (SqL.of upd_same) (.cons (.tup (Same.tup ((s3.trans s4).trans s5) (SqT.of upd_same)) (.cons (.str _) (.cons (.tup (Same.tup (((s2.trans s3).trans s4).trans s5) (SqT.of upd_same)) (dpAll_nat [0, 1, 2])) .nil))) (.cons (.tup (Same.tup s5 (SqT.of upd_same)) (.cons (.str _) (.cons (.tup (Same.tup (s4.trans s5) (SqT.of upd_same)) (dpAll_nat [0])) .nil))) (.cons (.str _) .nil))),
        by decide +kernel, by decide +kernel, true, congrArg V.bl (by decide +kernel), iteT ?_⟩
      -- the fourth
      refine ⟨by show 1 ≤ sizeLine; decide, fun q1 hq1 => ⟨by show 1 ≤ sizeLine; decide, fun q2 hq2 => ⟨by show 1 ≤ sizeLine; decide, fun q3 hq3 => ?_⟩⟩⟩
      have r2 := same_upd (o := .tup [.ref q1]) hq2
      have r3 := same_upd (o := .tup [.int 1]) hq3
      refine ⟨q2, q3, rsD, sdD, rfl, ⟨[q1], Same.tup r3 (SqT.of upd_same), .cons (Same.tup (r2.trans r3) (SqT.of upd_same)) .nil⟩, SqT.of upd_same, questD, by decide, fun tD bD lD HD _ pD fD kD => ?_⟩
      obtain ⟨rD, rfl⟩ := tellD fD kD
      obtain ⟨uD, hD1, hD2⟩ := pD
      refine ⟨tD, _, _, .ref uD, rfl, rfl, hD1, atI_nat (j := 1) rfl, ?_⟩
      have hD3 : SqT K HD uD (rD.map nV ++ [.int 999]) := by
        have z := hD2
        unfold TupN at z
        rw [List.map_append] at z
        exact z
      refine ⟨1, rfl, uD, _, -1, .int 999, rfl, rfl, hD3, atI_last _ _, rfl, ?_⟩
      exact q _
end
end Pq

namespace Pq
open PySem L2
/-! ### what the top has written; the end -/
/-- a def of the module by what stands behind the top -/
theorem def_mk {K : PySem.W.Frag} {h : Heap} {mg : Str → Option Value} (X : K.In h) (G : h.Ns mainGlobals mg) {x : Str} {st : Stmt} {f : Addr} {oc : Value} {od : Option Addr} {kV doc pm : Value} {an : Option Addr} {cdv ct : Value} {osl : Array (Option Value)}
    (a : PySem.W.nsIn K mainGlobals x = some (some (.ref f))) (l : K.lookup f = some ⟨oc, od, .func (PySem.W.fnOf x x (C8.fnArgs st) (C8.fnBody st) (C8.fnScope st) .none kV doc pm an cdv ct), osl⟩) (c : PySem.W.codeIn K cdv x = true) (k : PySem.W.keepIn K (.ref f) = true) :
    C8.Def K mg x st f (PySem.W.fnOf x x (C8.fnArgs st) (C8.fnBody st) (C8.fnScope st) .none kV doc pm an cdv ct) :=
  ⟨⟨oc, od, .none, kV, doc, pm, an, cdv, ct, osl, rfl, l, c⟩, PySem.W.mg_of X G a, k⟩
theorem all_mk {l : PySem.W.OpenLaw} {w : World} {K : PySem.W.Frag} {h : Heap} {mg : Str → Option Value} {q : Program} {fa : Addr} {f1 f2 f3 f4 f5 f6 f7 f8 f9 f10 f11 f12 f13 f14 f15 f16 f17 f18 f19 f20 f21 f22 f23 : Addr} (X : K.In h) (G : h.Ns mainGlobals mg) (L : PySem.W.XL q [("BEYOND", PySem.W.WData.int 1000000000000000000000000000000000000000000000000000000000000)] mg h) (hfa : mg "law" = some (.ref fa))
    {od1 an1 od2 an2 od3 an3 od4 an4 od5 an5 od6 an6 od7 an7 od8 an8 od9 an9 od10 an10 od11 an11 od12 an12 od13 an13 od14 an14 od15 an15 od16 an16 od17 an17 od18 an18 od19 an19 od20 an20 od21 an21 od22 an22 od23 an23 : Option Addr} {sl1 sl2 sl3 sl4 sl5 sl6 sl7 sl8 sl9 sl10 sl11 sl12 sl13 sl14 sl15 sl16 sl17 sl18 sl19 sl20 sl21 sl22 sl23 : Array (Option Value)} {oc1 kV1 dc1 pm1 cd1 ct1 oc2 kV2 dc2 pm2 cd2 ct2 oc3 kV3 dc3 pm3 cd3 ct3 oc4 kV4 dc4 pm4 cd4 ct4 oc5 kV5 dc5 pm5 cd5 ct5 oc6 kV6 dc6 pm6 cd6 ct6 oc7 kV7 dc7 pm7 cd7 ct7 oc8 kV8 dc8 pm8 cd8 ct8 oc9 kV9 dc9 pm9 cd9 ct9 oc10 kV10 dc10 pm10 cd10 ct10 oc11 kV11 dc11 pm11 cd11 ct11 oc12 kV12 dc12 pm12 cd12 ct12 oc13 kV13 dc13 pm13 cd13 ct13 oc14 kV14 dc14 pm14 cd14 ct14 oc15 kV15 dc15 pm15 cd15 ct15 oc16 kV16 dc16 pm16 cd16 ct16 oc17 kV17 dc17 pm17 cd17 ct17 oc18 kV18 dc18 pm18 cd18 ct18 oc19 kV19 dc19 pm19 cd19 ct19 oc20 kV20 dc20 pm20 cd20 ct20 oc21 kV21 dc21 pm21 cd21 ct21 oc22 kV22 dc22 pm22 cd22 ct22 oc23 kV23 dc23 pm23 cd23 ct23 : Value}
    (a1 : PySem.W.nsIn K mainGlobals "is_whole" = some (some (.ref f1))) (l1 : K.lookup f1 = some ⟨oc1, od1, .func (PySem.W.fnOf "is_whole" "is_whole" (C8.fnArgs sIsWhole) (C8.fnBody sIsWhole) (C8.fnScope sIsWhole) .none kV1 dc1 pm1 an1 cd1 ct1), sl1⟩) (c1 : PySem.W.codeIn K cd1 "is_whole" = true) (k1 : PySem.W.keepIn K (.ref f1) = true)
    (a2 : PySem.W.nsIn K mainGlobals "is_integer" = some (some (.ref f2))) (l2 : K.lookup f2 = some ⟨oc2, od2, .func (PySem.W.fnOf "is_integer" "is_integer" (C8.fnArgs sIsInteger) (C8.fnBody sIsInteger) (C8.fnScope sIsInteger) .none kV2 dc2 pm2 an2 cd2 ct2), sl2⟩) (c2 : PySem.W.codeIn K cd2 "is_integer" = true) (k2 : PySem.W.keepIn K (.ref f2) = true)
    (a3 : PySem.W.nsIn K mainGlobals "are_ascending" = some (some (.ref f3))) (l3 : K.lookup f3 = some ⟨oc3, od3, .func (PySem.W.fnOf "are_ascending" "are_ascending" (C8.fnArgs sAscending) (C8.fnBody sAscending) (C8.fnScope sAscending) .none kV3 dc3 pm3 an3 cd3 ct3), sl3⟩) (c3 : PySem.W.codeIn K cd3 "are_ascending" = true) (k3 : PySem.W.keepIn K (.ref f3) = true)
    (a4 : PySem.W.nsIn K mainGlobals "are_within" = some (some (.ref f4))) (l4 : K.lookup f4 = some ⟨oc4, od4, .func (PySem.W.fnOf "are_within" "are_within" (C8.fnArgs sWithin) (C8.fnBody sWithin) (C8.fnScope sWithin) .none kV4 dc4 pm4 an4 cd4 ct4), sl4⟩) (c4 : PySem.W.codeIn K cd4 "are_within" = true) (k4 : PySem.W.keepIn K (.ref f4) = true)
    (a5 : PySem.W.nsIn K mainGlobals "require_question" = some (some (.ref f5))) (l5 : K.lookup f5 = some ⟨oc5, od5, .func (PySem.W.fnOf "require_question" "require_question" (C8.fnArgs sRequire) (C8.fnBody sRequire) (C8.fnScope sRequire) .none kV5 dc5 pm5 an5 cd5 ct5), sl5⟩) (c5 : PySem.W.codeIn K cd5 "require_question" = true) (k5 : PySem.W.keepIn K (.ref f5) = true)
    (a6 : PySem.W.nsIn K mainGlobals "doubled_to" = some (some (.ref f6))) (l6 : K.lookup f6 = some ⟨oc6, od6, .func (PySem.W.fnOf "doubled_to" "doubled_to" (C8.fnArgs sDoubled) (C8.fnBody sDoubled) (C8.fnScope sDoubled) .none kV6 dc6 pm6 an6 cd6 ct6), sl6⟩) (c6 : PySem.W.codeIn K cd6 "doubled_to" = true) (k6 : PySem.W.keepIn K (.ref f6) = true)
    (a7 : PySem.W.nsIn K mainGlobals "bits_of" = some (some (.ref f7))) (l7 : K.lookup f7 = some ⟨oc7, od7, .func (PySem.W.fnOf "bits_of" "bits_of" (C8.fnArgs sBits) (C8.fnBody sBits) (C8.fnScope sBits) .none kV7 dc7 pm7 an7 cd7 ct7), sl7⟩) (c7 : PySem.W.codeIn K cd7 "bits_of" = true) (k7 : PySem.W.keepIn K (.ref f7) = true)
    (a8 : PySem.W.nsIn K mainGlobals "swept" = some (some (.ref f8))) (l8 : K.lookup f8 = some ⟨oc8, od8, .func (PySem.W.fnOf "swept" "swept" (C8.fnArgs sSwept) (C8.fnBody sSwept) (C8.fnScope sSwept) .none kV8 dc8 pm8 an8 cd8 ct8), sl8⟩) (c8 : PySem.W.codeIn K cd8 "swept" = true) (k8 : PySem.W.keepIn K (.ref f8) = true)
    (a9 : PySem.W.nsIn K mainGlobals "solution_of" = some (some (.ref f9))) (l9 : K.lookup f9 = some ⟨oc9, od9, .func (PySem.W.fnOf "solution_of" "solution_of" (C8.fnArgs sSolutionOf) (C8.fnBody sSolutionOf) (C8.fnScope sSolutionOf) .none kV9 dc9 pm9 an9 cd9 ct9), sl9⟩) (c9 : PySem.W.codeIn K cd9 "solution_of" = true) (k9 : PySem.W.keepIn K (.ref f9) = true)
    (a10 : PySem.W.nsIn K mainGlobals "solved" = some (some (.ref f10))) (l10 : K.lookup f10 = some ⟨oc10, od10, .func (PySem.W.fnOf "solved" "solved" (C8.fnArgs sSolved) (C8.fnBody sSolved) (C8.fnScope sSolved) .none kV10 dc10 pm10 an10 cd10 ct10), sl10⟩) (c10 : PySem.W.codeIn K cd10 "solved" = true) (k10 : PySem.W.keepIn K (.ref f10) = true)
    (a11 : PySem.W.nsIn K mainGlobals "is_solution" = some (some (.ref f11))) (l11 : K.lookup f11 = some ⟨oc11, od11, .func (PySem.W.fnOf "is_solution" "is_solution" (C8.fnArgs sIsSolution) (C8.fnBody sIsSolution) (C8.fnScope sIsSolution) .none kV11 dc11 pm11 an11 cd11 ct11), sl11⟩) (c11 : PySem.W.codeIn K cd11 "is_solution" = true) (k11 : PySem.W.keepIn K (.ref f11) = true)
    (a12 : PySem.W.nsIn K mainGlobals "is_odd_lot" = some (some (.ref f12))) (l12 : K.lookup f12 = some ⟨oc12, od12, .func (PySem.W.fnOf "is_odd_lot" "is_odd_lot" (C8.fnArgs sIsOdd) (C8.fnBody sIsOdd) (C8.fnScope sIsOdd) .none kV12 dc12 pm12 an12 cd12 ct12), sl12⟩) (c12 : PySem.W.codeIn K cd12 "is_odd_lot" = true) (k12 : PySem.W.keepIn K (.ref f12) = true)
    (a13 : PySem.W.nsIn K mainGlobals "is_solved" = some (some (.ref f13))) (l13 : K.lookup f13 = some ⟨oc13, od13, .func (PySem.W.fnOf "is_solved" "is_solved" (C8.fnArgs sIsSolved) (C8.fnBody sIsSolved) (C8.fnScope sIsSolved) .none kV13 dc13 pm13 an13 cd13 ct13), sl13⟩) (c13 : PySem.W.codeIn K cd13 "is_solved" = true) (k13 : PySem.W.keepIn K (.ref f13) = true)
    (a14 : PySem.W.nsIn K mainGlobals "_law_well" = some (some (.ref f14))) (l14 : K.lookup f14 = some ⟨oc14, od14, .func (PySem.W.fnOf "_law_well" "_law_well" (C8.fnArgs sWell) (C8.fnBody sWell) (C8.fnScope sWell) .none kV14 dc14 pm14 an14 cd14 ct14), sl14⟩) (c14 : PySem.W.codeIn K cd14 "_law_well" = true) (k14 : PySem.W.keepIn K (.ref f14) = true)
    (a15 : PySem.W.nsIn K mainGlobals "_law_dip" = some (some (.ref f15))) (l15 : K.lookup f15 = some ⟨oc15, od15, .func (PySem.W.fnOf "_law_dip" "_law_dip" (C8.fnArgs sDip) (C8.fnBody sDip) (C8.fnScope sDip) .none kV15 dc15 pm15 an15 cd15 ct15), sl15⟩) (c15 : PySem.W.codeIn K cd15 "_law_dip" = true) (k15 : PySem.W.keepIn K (.ref f15) = true)
    (a16 : PySem.W.nsIn K mainGlobals "_law_places" = some (some (.ref f16))) (l16 : K.lookup f16 = some ⟨oc16, od16, .func (PySem.W.fnOf "_law_places" "_law_places" (C8.fnArgs sPlaces) (C8.fnBody sPlaces) (C8.fnScope sPlaces) .none kV16 dc16 pm16 an16 cd16 ct16), sl16⟩) (c16 : PySem.W.codeIn K cd16 "_law_places" = true) (k16 : PySem.W.keepIn K (.ref f16) = true)
    (a17 : PySem.W.nsIn K mainGlobals "_law_side" = some (some (.ref f17))) (l17 : K.lookup f17 = some ⟨oc17, od17, .func (PySem.W.fnOf "_law_side" "_law_side" (C8.fnArgs sSide) (C8.fnBody sSide) (C8.fnScope sSide) .none kV17 dc17 pm17 an17 cd17 ct17), sl17⟩) (c17 : PySem.W.codeIn K cd17 "_law_side" = true) (k17 : PySem.W.keepIn K (.ref f17) = true)
    (a18 : PySem.W.nsIn K mainGlobals "_law_has_solution" = some (some (.ref f18))) (l18 : K.lookup f18 = some ⟨oc18, od18, .func (PySem.W.fnOf "_law_has_solution" "_law_has_solution" (C8.fnArgs sHas) (C8.fnBody sHas) (C8.fnScope sHas) .none kV18 dc18 pm18 an18 cd18 ct18), sl18⟩) (c18 : PySem.W.codeIn K cd18 "_law_has_solution" = true) (k18 : PySem.W.keepIn K (.ref f18) = true)
    (a19 : PySem.W.nsIn K mainGlobals "_law_swept" = some (some (.ref f19))) (l19 : K.lookup f19 = some ⟨oc19, od19, .func (PySem.W.fnOf "_law_swept" "_law_swept" (C8.fnArgs sLSwept) (C8.fnBody sLSwept) (C8.fnScope sLSwept) .none kV19 dc19 pm19 an19 cd19 ct19), sl19⟩) (c19 : PySem.W.codeIn K cd19 "_law_swept" = true) (k19 : PySem.W.keepIn K (.ref f19) = true)
    (a20 : PySem.W.nsIn K mainGlobals "_law_is_right" = some (some (.ref f20))) (l20 : K.lookup f20 = some ⟨oc20, od20, .func (PySem.W.fnOf "_law_is_right" "_law_is_right" (C8.fnArgs sIsRight) (C8.fnBody sIsRight) (C8.fnScope sIsRight) .none kV20 dc20 pm20 an20 cd20 ct20), sl20⟩) (c20 : PySem.W.codeIn K cd20 "_law_is_right" = true) (k20 : PySem.W.keepIn K (.ref f20) = true)
    (a21 : PySem.W.nsIn K mainGlobals "_law_all_lots" = some (some (.ref f21))) (l21 : K.lookup f21 = some ⟨oc21, od21, .func (PySem.W.fnOf "_law_all_lots" "_law_all_lots" (C8.fnArgs sAllLots) (C8.fnBody sAllLots) (C8.fnScope sAllLots) .none kV21 dc21 pm21 an21 cd21 ct21), sl21⟩) (c21 : PySem.W.codeIn K cd21 "_law_all_lots" = true) (k21 : PySem.W.keepIn K (.ref f21) = true)
    (a22 : PySem.W.nsIn K mainGlobals "_law_right" = some (some (.ref f22))) (l22 : K.lookup f22 = some ⟨oc22, od22, .func (PySem.W.fnOf "_law_right" "_law_right" (C8.fnArgs sRight) (C8.fnBody sRight) (C8.fnScope sRight) .none kV22 dc22 pm22 an22 cd22 ct22), sl22⟩) (c22 : PySem.W.codeIn K cd22 "_law_right" = true) (k22 : PySem.W.keepIn K (.ref f22) = true)
    (a23 : PySem.W.nsIn K mainGlobals "law" = some (some (.ref f23))) (l23 : K.lookup f23 = some ⟨oc23, od23, .func (PySem.W.fnOf "law" "law" (C8.fnArgs sLaw) (C8.fnBody sLaw) (C8.fnScope sLaw) .none kV23 dc23 pm23 an23 cd23 ct23), sl23⟩) (c23 : PySem.W.codeIn K cd23 "law" = true) (k23 : PySem.W.keepIn K (.ref f23) = true)
    {uMR uMP uSO uOD : Value} (cMR : PySem.W.nsIn K mainGlobals "MAX_ROWS" = some (some uMR)) (cMRr : RelV (.int 2000) uMR) (cMP : PySem.W.nsIn K mainGlobals "MAX_PLACE" = some (some uMP)) (cMPr : RelV (.int 999) uMP) (cSO : PySem.W.nsIn K mainGlobals "SOLUTION" = some (some uSO)) (cSOr : RelV (.str "solution") uSO) (cOD : PySem.W.nsIn K mainGlobals "ODD" = some (some uOD)) (cODr : RelV (.str "odd") uOD)
    (z0 : PySem.W.nsIn K mainGlobals "len" = some none) (z1 : PySem.W.nsIn K mainGlobals "isinstance" = some none) (z2 : PySem.W.nsIn K mainGlobals "int" = some none) (z3 : PySem.W.nsIn K mainGlobals "bool" = some none) (z4 : PySem.W.nsIn K mainGlobals "str" = some none) (z5 : PySem.W.nsIn K mainGlobals "tuple" = some none) (z6 : PySem.W.nsIn K mainGlobals "list" = some none) (z7 : PySem.W.nsIn K mainGlobals "set" = some none) (z8 : PySem.W.nsIn K mainGlobals "all" = some none) (z9 : PySem.W.nsIn K mainGlobals "any" = some none) (z10 : PySem.W.nsIn K mainGlobals "sum" = some none) (z11 : PySem.W.nsIn K mainGlobals "max" = some none) (z12 : PySem.W.nsIn K mainGlobals "min" = some none) (z13 : PySem.W.nsIn K mainGlobals "abs" = some none) (z14 : PySem.W.nsIn K mainGlobals "zip" = some none) (z15 : PySem.W.nsIn K mainGlobals "range" = some none) (z16 : PySem.W.nsIn K mainGlobals "enumerate" = some none) (z17 : PySem.W.nsIn K mainGlobals "sorted" = some none)
    : ∃ fd : FuncData, (∀ (s : Shared) (v : Value), BindsTo s fd ⟨[v], []⟩ [("_law_script", v)]) ∧ ∀ base : Heap, K.In base → base.Ns mainGlobals mg → FnOk l.prog w K mg base C8.CX0 6 fa fd ["_law_script"] (spLaw K) := by
  have e := hfa.symm.trans (PySem.W.mg_of X G a23)
  cases e
  have hB : ∃ u, mg "BEYOND" = some u ∧ RelV (.int (10 ^ 60)) u := by
    obtain ⟨v, hv, hr⟩ := L.2.val ("BEYOND", PySem.W.WData.int 1000000000000000000000000000000000000000000000000000000000000) (List.mem_singleton.mpr rfl)
    refine ⟨v, hv, ?_⟩
    cases hr
    exact ⟨_, rfl⟩
  have T : Nm mg := ⟨PySem.W.mg_none_of X G z0, PySem.W.mg_none_of X G z1, PySem.W.mg_none_of X G z2, PySem.W.mg_none_of X G z3, PySem.W.mg_none_of X G z4, PySem.W.mg_none_of X G z5, PySem.W.mg_none_of X G z6, PySem.W.mg_none_of X G z7, PySem.W.mg_none_of X G z8, PySem.W.mg_none_of X G z9, PySem.W.mg_none_of X G z10, PySem.W.mg_none_of X G z11, PySem.W.mg_none_of X G z12, PySem.W.mg_none_of X G z13, PySem.W.mg_none_of X G z14, PySem.W.mg_none_of X G z15, PySem.W.mg_none_of X G z16, PySem.W.mg_none_of X G z17, hB, ⟨_, PySem.W.mg_of X G cMR, cMRr⟩, ⟨_, PySem.W.mg_of X G cMP, cMPr⟩, ⟨_, PySem.W.mg_of X G cSO, cSOr⟩, ⟨_, PySem.W.mg_of X G cOD, cODr⟩⟩
  have F1 := def_mk X G (st := sIsWhole) a1 l1 c1 k1
  have b1 := F1.fn.binds rfl (ps := ["value"]) fun _ _ _ _ _ _ us hl => match us, hl with | [_], _ => rfl
  have F2 := def_mk X G (st := sIsInteger) a2 l2 c2 k2
  have b2 := F2.fn.binds rfl (ps := ["value"]) fun _ _ _ _ _ _ us hl => match us, hl with | [_], _ => rfl
  have F3 := def_mk X G (st := sAscending) a3 l3 c3 k3
  have b3 := F3.fn.binds rfl (ps := ["value"]) fun _ _ _ _ _ _ us hl => match us, hl with | [_], _ => rfl
  have F4 := def_mk X G (st := sWithin) a4 l4 c4 k4
  have b4 := F4.fn.binds rfl (ps := ["value", "most"]) fun _ _ _ _ _ _ us hl => match us, hl with | [_, _], _ => rfl
  have F5 := def_mk X G (st := sRequire) a5 l5 c5 k5
  have b5 := F5.fn.binds rfl (ps := ["rows", "sides"]) fun _ _ _ _ _ _ us hl => match us, hl with | [_, _], _ => rfl
  have F6 := def_mk X G (st := sDoubled) a6 l6 c6 k6
  have b6 := F6.fn.binds rfl (ps := ["size"]) fun _ _ _ _ _ _ us hl => match us, hl with | [_], _ => rfl
  have F7 := def_mk X G (st := sBits) a7 l7 c7 k7
  have b7 := F7.fn.binds rfl (ps := ["mask"]) fun _ _ _ _ _ _ us hl => match us, hl with | [_], _ => rfl
  have F8 := def_mk X G (st := sSwept) a8 l8 c8 k8
  have b8 := F8.fn.binds rfl (ps := ["rows", "sides"]) fun _ _ _ _ _ _ us hl => match us, hl with | [_, _], _ => rfl
  have F9 := def_mk X G (st := sSolutionOf) a9 l9 c9 k9
  have b9 := F9.fn.binds rfl (ps := ["heads"]) fun _ _ _ _ _ _ us hl => match us, hl with | [_], _ => rfl
  have F10 := def_mk X G (st := sSolved) a10 l10 c10 k10
  have b10 := F10.fn.binds rfl (ps := ["rows", "sides"]) fun _ _ _ _ _ _ us hl => match us, hl with | [_, _], _ => rfl
  have F11 := def_mk X G (st := sIsSolution) a11 l11 c11 k11
  have b11 := F11.fn.binds rfl (ps := ["rows", "sides", "places"]) fun _ _ _ _ _ _ us hl => match us, hl with | [_, _, _], _ => rfl
  have F12 := def_mk X G (st := sIsOdd) a12 l12 c12 k12
  have b12 := F12.fn.binds rfl (ps := ["rows", "sides", "indices"]) fun _ _ _ _ _ _ us hl => match us, hl with | [_, _, _], _ => rfl
  have F13 := def_mk X G (st := sIsSolved) a13 l13 c13 k13
  have b13 := F13.fn.binds rfl (ps := ["rows", "sides", "value"]) fun _ _ _ _ _ _ us hl => match us, hl with | [_, _, _], _ => rfl
  have F14 := def_mk X G (st := sWell) a14 l14 c14 k14
  have b14 := F14.fn.binds rfl (ps := ["_law_script", "_law_at"]) fun _ _ _ _ _ _ us hl => match us, hl with | [_, _], _ => rfl
  have F15 := def_mk X G (st := sDip) a15 l15 c15 k15
  have b15 := F15.fn.binds rfl (ps := ["_law_well_here", "_law_total"]) fun _ _ _ _ _ _ us hl => match us, hl with | [_, _], _ => rfl
  have F16 := def_mk X G (st := sPlaces) a16 l16 c16 k16
  have b16 := F16.fn.binds rfl (ps := ["_law_well_here", "_law_most", "_law_many"]) fun _ _ _ _ _ _ us hl => match us, hl with | [_, _, _], _ => rfl
  have F17 := def_mk X G (st := sSide) a17 l17 c17 k17
  have b17 := F17.fn.binds rfl (ps := ["_law_row", "_law_places_here"]) fun _ _ _ _ _ _ us hl => match us, hl with | [_, _], _ => rfl
  have F18 := def_mk X G (st := sHas) a18 l18 c18 k18
  have b18 := F18.fn.binds rfl (ps := ["_law_rows", "_law_sides"]) fun _ _ _ _ _ _ us hl => match us, hl with | [_, _], _ => rfl
  have F19 := def_mk X G (st := sLSwept) a19 l19 c19 k19
  have b19 := F19.fn.binds rfl (ps := ["_law_other", "_law_row", "_law_side_here"]) fun _ _ _ _ _ _ us hl => match us, hl with | [_, _, _], _ => rfl
  have F20 := def_mk X G (st := sIsRight) a20 l20 c20 k20
  have b20 := F20.fn.binds rfl (ps := ["_law_rows", "_law_sides", "_law_told"]) fun _ _ _ _ _ _ us hl => match us, hl with | [_, _, _], _ => rfl
  have F21 := def_mk X G (st := sAllLots) a21 l21 c21 k21
  have b21 := F21.fn.binds rfl (ps := ["_law_most"]) fun _ _ _ _ _ _ us hl => match us, hl with | [_], _ => rfl
  have F22 := def_mk X G (st := sRight) a22 l22 c22 k22
  have b22 := F22.fn.binds rfl (ps := ["_law_well_here"]) fun _ _ _ _ _ _ us hl => match us, hl with | [_], _ => rfl
  have F23 := def_mk X G (st := sLaw) a23 l23 c23 k23
  have C1 := fun base : Heap => ok_isWhole (P := l.prog) (w := w) (base := base) F1 b1 T
  have C2 := fun base : Heap => ok_isInteger (P := l.prog) (w := w) (base := base) F2 b2 T (C1 base)
  have C3 := fun base : Heap => ok_ascending (P := l.prog) (w := w) (base := base) F3 b3 T
  have C4 := fun base : Heap => ok_within (P := l.prog) (w := w) (base := base) F4 b4 T (C1 base) (C3 base)
  have C5 := fun base : Heap => ok_require (P := l.prog) (w := w) (base := base) F5 b5 T (C2 base) (C4 base)
  have C6 := fun base : Heap => ok_doubled (P := l.prog) (w := w) (base := base) F6 b6 T
  have C7 := fun base : Heap => ok_bits (P := l.prog) (w := w) (base := base) F7 b7 T
  have C8 := fun base : Heap => ok_swept (P := l.prog) (w := w) (base := base) F8 b8 T (C6 base)
  have C9 := fun base : Heap => ok_solOf (P := l.prog) (w := w) (base := base) F9 b9 T (C7 base)
  have C10 := fun base : Heap => ok_solved (P := l.prog) (w := w) (base := base) F10 b10 T (C5 base) (C8 base) (C7 base) (C9 base)
  have C11 := fun base : Heap => ok_isSol (P := l.prog) (w := w) (base := base) F11 b11 T
  have C12 := fun base : Heap => ok_isOdd (P := l.prog) (w := w) (base := base) F12 b12 T
  have C13 := fun base : Heap => ok_isSolved (P := l.prog) (w := w) (base := base) F13 b13 T (C5 base) (C4 base) (C11 base) (C12 base)
  have C14 := fun base : Heap => ok_well (P := l.prog) (w := w) (base := base) F14 b14 T
  have C15 := fun base : Heap => ok_dip (P := l.prog) (w := w) (base := base) F15 b15 T
  have C16 := fun base : Heap => ok_places (P := l.prog) (w := w) (base := base) F16 b16 T (C15 base)
  have C17 := fun base : Heap => ok_side (P := l.prog) (w := w) (base := base) F17 b17 T
  have C19 := fun base : Heap => ok_lswept (P := l.prog) (w := w) (base := base) F19 b19 T
  have C18 := fun base : Heap => ok_has (P := l.prog) (w := w) (base := base) F18 b18 T (C19 base)
  have C20 := fun base : Heap => ok_isRight (P := l.prog) (w := w) (base := base) F20 b20 T (C17 base)
  have C21 := fun base : Heap => ok_allLots (P := l.prog) (w := w) (base := base) F21 b21 T
  have C22 := fun base : Heap => ok_right (P := l.prog) (w := w) (base := base) F22 b22 T (C15 base) (C16 base) (C17 base) (C10 base) (C18 base) (C20 base) (C13 base) (C21 base)
  exact ⟨_, fun s v => .of_eq rfl, fun base _ _ => ok_law F23.fn T (C14 base) (C22 base) (C10 base)⟩
end Pq
open PySem PySem.W PyProof.Rows in
set_option maxRecDepth 100000 in
set_option maxHeartbeats 0 in
theorem PySem.Challenge.cw_squaretimes_k04_whole_questions_of_parit_holds : PySem.Challenge.rw_squaretimes_k04_whole_questions_of_parit.Holds := by
  w_on; o_law; k_head; (case hw => w_witness2)
  k_fill
  refine Pq.walk_loose (l := PySem.Challenge.rw_squaretimes_k04_whole_questions_of_parit) (n := 63) (k := 6) (x := "_law_script") (CX := fun _ => C8.CX0) (sp := fun w => Pq.spLaw _) rfl (by decide) rfl ⟨rfl, by decide, by decide⟩ (fun w h Y => PySem.W.kIn_of Y) ?F (fun _ _ a ns hl _ hS => ⟨a, ns, rfl, hS, hl, fun _ => rfl⟩) (fun _ _ _ _ _ h => h)
  case F =>
    intro w mg fa h KX G XX hmg
    refine' Pq.all_mk KX G XX hmg ?a1 ?l1 ?c1 ?k1 ?a2 ?l2 ?c2 ?k2 ?a3 ?l3 ?c3 ?k3 ?a4 ?l4 ?c4 ?k4 ?a5 ?l5 ?c5 ?k5 ?a6 ?l6 ?c6 ?k6 ?a7 ?l7 ?c7 ?k7 ?a8 ?l8 ?c8 ?k8 ?a9 ?l9 ?c9 ?k9 ?a10 ?l10 ?c10 ?k10 ?a11 ?l11 ?c11 ?k11 ?a12 ?l12 ?c12 ?k12 ?a13 ?l13 ?c13 ?k13 ?a14 ?l14 ?c14 ?k14 ?a15 ?l15 ?c15 ?k15 ?a16 ?l16 ?c16 ?k16 ?a17 ?l17 ?c17 ?k17 ?a18 ?l18 ?c18 ?k18 ?a19 ?l19 ?c19 ?k19 ?a20 ?l20 ?c20 ?k20 ?a21 ?l21 ?c21 ?k21 ?a22 ?l22 ?c22 ?k22 ?a23 ?l23 ?c23 ?k23 ?cMR ?cMRr ?cMP ?cMPr ?cSO ?cSOr ?cOD ?cODr ?z0 ?z1 ?z2 ?z3 ?z4 ?z5 ?z6 ?z7 ?z8 ?z9 ?z10 ?z11 ?z12 ?z13 ?z14 ?z15 ?z16 ?z17
    (case a1 => k_is)
    (case l1 => k_is)
    (case c1 => k_is)
    (case k1 => k_is)
    (case a2 => k_is)
    (case l2 => k_is)
    (case c2 => k_is)
    (case k2 => k_is)
    (case a3 => k_is)
    (case l3 => k_is)
    (case c3 => k_is)
    (case k3 => k_is)
    (case a4 => k_is)
    (case l4 => k_is)
    (case c4 => k_is)
    (case k4 => k_is)
    (case a5 => k_is)
    (case l5 => k_is)
    (case c5 => k_is)
    (case k5 => k_is)
    (case a6 => k_is)
    (case l6 => k_is)
    (case c6 => k_is)
    (case k6 => k_is)
    (case a7 => k_is)
    (case l7 => k_is)
    (case c7 => k_is)
    (case k7 => k_is)
    (case a8 => k_is)
    (case l8 => k_is)
    (case c8 => k_is)
    (case k8 => k_is)
    (case a9 => k_is)
    (case l9 => k_is)
    (case c9 => k_is)
    (case k9 => k_is)
    (case a10 => k_is)
    (case l10 => k_is)
    (case c10 => k_is)
    (case k10 => k_is)
    (case a11 => k_is)
    (case l11 => k_is)
    (case c11 => k_is)
    (case k11 => k_is)
    (case a12 => k_is)
    (case l12 => k_is)
    (case c12 => k_is)
    (case k12 => k_is)
    (case a13 => k_is)
    (case l13 => k_is)
    (case c13 => k_is)
    (case k13 => k_is)
    (case a14 => k_is)
    (case l14 => k_is)
    (case c14 => k_is)
    (case k14 => k_is)
    (case a15 => k_is)
    (case l15 => k_is)
    (case c15 => k_is)
    (case k15 => k_is)
    (case a16 => k_is)
    (case l16 => k_is)
    (case c16 => k_is)
    (case k16 => k_is)
    (case a17 => k_is)
    (case l17 => k_is)
    (case c17 => k_is)
    (case k17 => k_is)
    (case a18 => k_is)
    (case l18 => k_is)
    (case c18 => k_is)
    (case k18 => k_is)
    (case a19 => k_is)
    (case l19 => k_is)
    (case c19 => k_is)
    (case k19 => k_is)
    (case a20 => k_is)
    (case l20 => k_is)
    (case c20 => k_is)
    (case k20 => k_is)
    (case a21 => k_is)
    (case l21 => k_is)
    (case c21 => k_is)
    (case k21 => k_is)
    (case a22 => k_is)
    (case l22 => k_is)
    (case c22 => k_is)
    (case k22 => k_is)
    (case a23 => k_is)
    (case l23 => k_is)
    (case c23 => k_is)
    (case k23 => k_is)
    (case cMR => k_is)
    (case cMRr => exact ⟨_, rfl⟩)
    (case cMP => k_is)
    (case cMPr => exact ⟨_, rfl⟩)
    (case cSO => k_is)
    (case cSOr => exact ⟨_, rfl⟩)
    (case cOD => k_is)
    (case cODr => exact ⟨_, rfl⟩)
    (case z0 => k_is)
    (case z1 => k_is)
    (case z2 => k_is)
    (case z3 => k_is)
    (case z4 => k_is)
    (case z5 => k_is)
    (case z6 => k_is)
    (case z7 => k_is)
    (case z8 => k_is)
    (case z9 => k_is)
    (case z10 => k_is)
    (case z11 => k_is)
    (case z12 => k_is)
    (case z13 => k_is)
    (case z14 => k_is)
    (case z15 => k_is)
    (case z16 => k_is)
    (case z17 => k_is)

