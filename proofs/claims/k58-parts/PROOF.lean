import PyProof.Rows.All
import Wide.All
import OpenK.AllK
import Wide.FinOn
import HandS.Base
import HandS.Call
import HandS.List
import PyProof.InstEq
import PyProof.CallType
import PyProof.Conv_bool
import PyProof.StrOps2
import PyProof.StrLawsFrom
import HandS.ForMost
import HandS.StrMore
import KE.DataEq
import HandS.IsInst
import HandS.Property
import HandS.Star
import HandS.Wide
import HandS.SortInts
import HandS.Zip
import PyProof.Rows.StrCountLaw
import PyProof.Rows.RegReprOcc
import PySem.Challenge.RW_ownbranch_k58_whole_parts_hold_together
section
/-! Om1: the mathematics of repeated lists, plain Lean. -/
namespace Om

/-- a list n times in a row -/
def rep : Nat → List Nat → List Nat
  | 0, _ => []
  | n + 1, p => p ++ rep n p
/-- so many items of a list repeated without end, from a place on -/
def per (p : List Nat) (i n : Nat) : List Nat := (List.range n).map fun j => p.getD ((i + j) % p.length) 0

theorem rep_length (n : Nat) (p : List Nat) : (rep n p).length = n * p.length := by
  induction n with
  | zero => simp [rep]
  | succ n ih => rw [rep, List.length_append, ih, Nat.succ_mul]; omega
theorem per_length (p : List Nat) (i n : Nat) : (per p i n).length = n := by simp [per]
theorem per_get {p : List Nat} {i n j : Nat} (h : j < n) : (per p i n)[j]? = some (p.getD ((i + j) % p.length) 0) := by
  simp [per, h]
theorem per_mod (p : List Nat) (i n : Nat) : per p (i % p.length) n = per p i n := by
  unfold per
  refine List.map_congr_left fun j _ => ?_
  rw [Nat.mod_add_mod]
theorem per_append (p : List Nat) (i n m : Nat) : per p i n ++ per p (i + n) m = per p i (n + m) := by
  apply List.ext_getElem?
  intro k
  by_cases h1 : k < n
  · rw [List.getElem?_append_left (by rw [per_length]; exact h1), per_get h1, per_get (by omega)]
  · rw [List.getElem?_append_right (by rw [per_length]; omega), per_length]
    by_cases h2 : k < n + m
    · rw [per_get (by omega), per_get h2]
      congr 3
      omega
    · rw [List.getElem?_eq_none (by rw [per_length]; omega), List.getElem?_eq_none (by rw [per_length]; omega)]
theorem per_drop (p : List Nat) (i n k : Nat) : (per p i n).drop k = per p (i + k) (n - k) := by
  apply List.ext_getElem?
  intro j
  rw [List.getElem?_drop]
  by_cases h : k + j < n
  · rw [per_get h, per_get (by omega)]
    congr 3
    omega
  · rw [List.getElem?_eq_none (by rw [per_length]; omega), List.getElem?_eq_none (by rw [per_length]; omega)]
theorem per_take (p : List Nat) (i n k : Nat) (h : k ≤ n) : (per p i n).take k = per p i k := by
  apply List.ext_getElem?
  intro j
  by_cases hj : j < k
  · rw [List.getElem?_take_of_lt hj, per_get (by omega), per_get hj]
  · rw [List.getElem?_eq_none (by rw [List.length_take, per_length]; omega), List.getElem?_eq_none (by rw [per_length]; omega)]
/-- within the list -/
theorem per_in {p : List Nat} {i n : Nat} (h : i + n ≤ p.length) : per p i n = (p.drop i).take n := by
  apply List.ext_getElem?
  intro j
  by_cases hj : j < n
  · have hlt : i + j < p.length := by omega
    rw [per_get hj, List.getElem?_take_of_lt hj, List.getElem?_drop, Nat.mod_eq_of_lt hlt, List.getD_eq_getElem?_getD, List.getElem?_eq_getElem hlt]
    rfl
  · rw [List.getElem?_eq_none (by rw [per_length]; omega), List.getElem?_eq_none (by rw [List.length_take]; omega)]
theorem per_whole (p : List Nat) : per p 0 p.length = p := by
  rw [per_in (by omega), List.drop_zero, List.take_length]
theorem rep_per (n : Nat) (p : List Nat) : rep n p = per p 0 (n * p.length) := by
  induction n with
  | zero => simp [rep, per]
  | succ n ih =>
    rw [rep, ih]
    have e : per p 0 (n * p.length) = per p (0 + p.length) (n * p.length) := by
      rw [← per_mod p (0 + p.length), Nat.zero_add, Nat.mod_self]
    rw [e]
    conv => lhs; lhs; rw [← per_whole p]
    rw [per_append, Nat.succ_mul, Nat.add_comm]
theorem rep_zero (p : List Nat) : rep 0 p = [] := rfl
theorem rep_one (p : List Nat) : rep 1 p = p := by rw [rep, rep, List.append_nil]
theorem rep_nil (n : Nat) : rep n [] = [] := by
  induction n with
  | zero => rfl
  | succ n ih => rw [rep, ih]; rfl
theorem rep_add (n m : Nat) (p : List Nat) : rep (n + m) p = rep n p ++ rep m p := by
  induction n with
  | zero => rw [Nat.zero_add]; rfl
  | succ n ih => rw [Nat.succ_add, rep, rep, ih, List.append_assoc]
theorem rep_mul (n m : Nat) (p : List Nat) : rep (n * m) p = rep n (rep m p) := by
  induction n with
  | zero => rw [Nat.zero_mul]; rfl
  | succ n ih => rw [Nat.succ_mul, Nat.add_comm, rep_add, ih, rep]
theorem rep_count (n : Nat) (p : List Nat) (c : Nat) : (rep n p).count c = p.count c * n := by
  induction n with
  | zero => simp [rep]
  | succ n ih => rw [rep, List.count_append, ih, Nat.mul_succ, Nat.add_comm]

/-! ### a stretch, a cut -/
theorem stretch_eq {p : List Nat} (hp : 0 < p.length) (first many : Nat) :
    ((rep ((first % p.length + many) / p.length + 1) p).drop (first % p.length)).take many = per p first many := by
  have hk : first % p.length + many ≤ ((first % p.length + many) / p.length + 1) * p.length := by
    have h1 := Nat.div_add_mod (first % p.length + many) p.length
    have h2 := Nat.mod_lt (first % p.length + many) hp
    rw [Nat.succ_mul, Nat.mul_comm]
    omega
  rw [rep_per, per_drop, per_take _ _ _ _ (by omega), Nat.zero_add, per_mod]
/-- the first case of cut -/
theorem cut_same {p : List Nat} (hp : 0 < p.length) {b e : Nat} (hbe : b ≤ e) (h : b / p.length = e / p.length) :
    (p.take (e % p.length)).drop (b % p.length) = per p b (e - b) := by
  have h1 := Nat.div_add_mod b p.length
  have h2 := Nat.div_add_mod e p.length
  have h4 := Nat.mod_lt e hp
  rw [h] at h1
  rw [← per_mod p b, per_in (by omega), List.drop_take]
  congr 1
  omega
/-- the second -/
theorem cut_apart {p : List Nat} (hp : 0 < p.length) {b e : Nat} (hbe : b ≤ e) (h : b / p.length ≠ e / p.length) :
    p.drop (b % p.length) ++ (rep (e / p.length - b / p.length - 1) p ++ p.take (e % p.length)) = per p b (e - b) ∧ b / p.length + 1 ≤ e / p.length := by
  have h1 := Nat.div_add_mod b p.length
  have h2 := Nat.div_add_mod e p.length
  have h3 := Nat.mod_lt b hp
  have h4 := Nat.mod_lt e hp
  have h5 : b / p.length ≤ e / p.length := Nat.div_le_div_right hbe
  have h6 : b / p.length + 1 ≤ e / p.length := by omega
  refine ⟨?_, h6⟩
  obtain ⟨d, hd⟩ : ∃ d, e / p.length = b / p.length + 1 + d := ⟨e / p.length - (b / p.length + 1), by omega⟩
  have hd' : e / p.length - b / p.length - 1 = d := by omega
  rw [hd']
  have e1 : p.drop (b % p.length) = per p b (p.length - b % p.length) := by
    rw [← per_mod p b, per_in (by omega), List.take_of_length_le (by rw [List.length_drop]; omega)]
  have e3 : p.take (e % p.length) = per p 0 (e % p.length) := by
    rw [per_in (by omega), List.drop_zero]
  have z : ∀ k, per p 0 k = per p (b + (p.length - b % p.length)) k := fun k => by
    rw [← per_mod p (b + (p.length - b % p.length))]
    have : b + (p.length - b % p.length) = p.length * (b / p.length + 1) := by rw [Nat.mul_add, Nat.mul_one]; omega
    rw [this, Nat.mul_mod_right]
  have z2 : ∀ k, per p 0 k = per p (b + (p.length - b % p.length) + d * p.length) k := fun k => by
    rw [z k, ← per_mod p (b + (p.length - b % p.length) + d * p.length), Nat.add_mul_mod_self_right, per_mod]
  rw [e1, e3, rep_per, z (d * p.length), z2 (e % p.length), per_append, per_append]
  congr 1
  have h7 : p.length * (e / p.length) = p.length * (b / p.length) + p.length + d * p.length := by rw [hd, Nat.mul_add, Nat.mul_add, Nat.mul_one, Nat.mul_comm p.length d]
  omega

/-! ### slices -/
def sl (L : List Nat) (b e : Nat) : List Nat := (L.drop b).take (e - b)
theorem sl_length {L : List Nat} {b e : Nat} (h : b ≤ e) (he : e ≤ L.length) : (sl L b e).length = e - b := by
  unfold sl; rw [List.length_take, List.length_drop]; omega
theorem sl_append (X Y : List Nat) (b e : Nat) : sl (X ++ Y) b e = sl X b e ++ sl Y (b - X.length) (e - X.length) := by
  unfold sl
  rw [List.drop_append, List.take_append, List.length_drop]
  congr 2
  by_cases h : b ≤ X.length
  · have : b - X.length = 0 := by omega
    rw [this]; omega
  · omega
theorem sl_all (L : List Nat) : sl L 0 L.length = L := by unfold sl; simp
theorem sl_nil (b e : Nat) : sl [] b e = [] := by unfold sl; simp
theorem sl_rep {p : List Nat} {n b e : Nat} (hb : b ≤ e) (he : e ≤ n * p.length) : sl (rep n p) b e = per p b (e - b) := by
  unfold sl
  rw [rep_per, per_drop, per_take _ _ _ _ (by omega), Nat.zero_add]
theorem sl_empty {L : List Nat} {b e : Nat} (h : L.length ≤ b ∨ e ≤ b) : sl L b e = [] := by
  unfold sl
  rcases h with h | h
  · rw [List.drop_of_length_le h, List.take_nil]
  · rw [Nat.sub_eq_zero_of_le h, List.take_zero]
theorem sl_min (L : List Nat) (b e : Nat) : sl L b (min e L.length) = sl L b e := by
  unfold sl
  apply List.ext_getElem?
  intro j
  rw [List.getElem?_take, List.getElem?_take, List.getElem?_drop]
  by_cases h : j < e - b
  · rw [if_pos h]
    by_cases h2 : j < min e L.length - b
    · rw [if_pos h2]
    · rw [if_neg h2, List.getElem?_eq_none (by omega)]
  · rw [if_neg h, if_neg (by omega)]
theorem sl_join {L : List Nat} {a b c : Nat} (h1 : a ≤ b) (h2 : b ≤ c) : sl L a b ++ sl L b c = sl L a c := by
  unfold sl
  obtain ⟨d, rfl⟩ : ∃ d, b = a + d := ⟨b - a, by omega⟩
  have e1 : a + d - a = d := by omega
  have e2 : c - a = d + (c - (a + d)) := by omega
  rw [e1, e2, List.take_add, List.drop_drop]
theorem sl_sl {L : List Nat} {a b c d : Nat} (h2 : a + d ≤ b) : sl (sl L a b) c d = sl L (a + c) (a + d) := by
  unfold sl
  rw [List.drop_take, List.drop_drop, List.take_take]
  congr 1
  omega
theorem sl_get {L : List Nat} {a b i : Nat} (h : a + i < b) : (sl L a b)[i]? = L[a + i]? := by
  unfold sl
  rw [List.getElem?_take_of_lt (by omega), List.getElem?_drop]

/-! ### the root of a text -/
/-- p stands in p ++ p at i -/
def Turns (p : List Nat) (i : Nat) : Prop := i ≤ p.length ∧ ∀ j, j < p.length → p.getD ((i + j) % p.length) 0 = p.getD j 0
theorem turns_of {p : List Nat} {i : Nat} (h : i ≤ p.length) (e : ((p ++ p).drop i).take p.length = p) : Turns p i := by
  refine ⟨h, fun j hj => ?_⟩
  have e1 : (((p ++ p).drop i).take p.length)[j]? = p[j]? := by rw [e]
  have e2 : p ++ p = per p 0 (p.length + p.length) := by
    rw [← per_append, per_whole, Nat.zero_add, ← per_mod, Nat.mod_self, per_whole]
  rw [e2, per_drop, per_take _ _ _ _ (by omega), per_get hj, Nat.zero_add] at e1
  rw [List.getD_eq_getElem?_getD (i := j), ← e1]
  rfl
theorem of_turns {p : List Nat} {i : Nat} (h : Turns p i) : ((p ++ p).drop i).take p.length = p := by
  have e2 : p ++ p = per p 0 (p.length + p.length) := by
    rw [← per_append, per_whole, Nat.zero_add, ← per_mod, Nat.mod_self, per_whole]
  have hi := h.1
  rw [e2, per_drop, per_take _ _ _ _ (by omega), Nat.zero_add]
  apply List.ext_getElem?
  intro j
  by_cases hj : j < p.length
  · rw [per_get hj, h.2 j hj, List.getD_eq_getElem?_getD, List.getElem?_eq_getElem hj]
    rfl
  · rw [List.getElem?_eq_none (by rw [per_length]; omega), List.getElem?_eq_none (by omega)]
theorem turns_step {p : List Nat} {i : Nat} (hp : 0 < p.length) (h : Turns p i) (j : Nat) : p.getD ((i + j) % p.length) 0 = p.getD (j % p.length) 0 := by
  have := h.2 (j % p.length) (Nat.mod_lt _ hp)
  rw [Nat.add_mod_mod] at this
  exact this
theorem turns_times {p : List Nat} {i : Nat} (hp : 0 < p.length) (h : Turns p i) (k j : Nat) : p.getD ((k * i + j) % p.length) 0 = p.getD (j % p.length) 0 := by
  induction k with
  | zero => rw [Nat.zero_mul, Nat.zero_add]
  | succ k ih =>
    rw [Nat.succ_mul, show k * i + i + j = i + (k * i + j) by omega, turns_step hp h, ih]
/-- the least turn divides the length -/
theorem least_turn {p : List Nat} {i : Nat} (hp : 0 < p.length) (h0 : 1 ≤ i) (h : Turns p i) (least : ∀ k, 1 ≤ k → k < i → ¬ Turns p k) :
    p.length % i = 0 ∧ rep (p.length / i) (p.take i) = p := by
  have hd := Nat.div_add_mod p.length i
  have hm := Nat.mod_lt p.length (show i > 0 by omega)
  have hr : p.length % i = 0 := by
    rcases Nat.eq_zero_or_pos (p.length % i) with e | e
    · exact e
    · exfalso
      refine least (p.length % i) e hm ⟨by omega, fun j hj => ?_⟩
      have e1 := turns_times hp h (p.length / i) (p.length % i + j)
      rw [← e1, Nat.mul_comm, ← Nat.add_assoc, hd, Nat.add_mod_left, Nat.mod_eq_of_lt hj]
  refine ⟨hr, ?_⟩
  rw [hr, Nat.add_zero] at hd
  have hl : (p.take i).length = i := by rw [List.length_take]; have := h.1; omega
  rw [rep_per, hl]
  apply List.ext_getElem?
  intro j
  have hmul : p.length / i * i = p.length := by rw [Nat.mul_comm]; exact hd
  rw [hmul]
  by_cases hj : j < p.length
  · have hji : j % i < i := Nat.mod_lt _ (by omega)
    rw [per_get hj, hl, Nat.zero_add, List.getD_eq_getElem?_getD, List.getElem?_take_of_lt hji, List.getElem?_eq_getElem hj, ← List.getD_eq_getElem?_getD]
    have e1 := turns_times hp h (j / i) (j % i)
    rw [Nat.mul_comm, Nat.div_add_mod, Nat.mod_eq_of_lt hj] at e1
    have hlt : j % i < p.length := Nat.lt_of_lt_of_le hji h.1
    rw [Nat.mod_eq_of_lt hlt] at e1
    rw [← e1, List.getD_eq_getElem?_getD, List.getElem?_eq_getElem hj]
    rfl
  · rw [List.getElem?_eq_none (by rw [per_length]; omega), List.getElem?_eq_none (by omega)]
theorem turns_self (p : List Nat) : Turns p p.length := ⟨Nat.le_refl _, fun j hj => by rw [Nat.add_mod_left, Nat.mod_eq_of_lt hj]⟩

/-! ### runs -/
def plain : List (List Nat × Nat) → List Nat
  | [] => []
  | r :: rs => rep r.2 r.1 ++ plain rs
theorem plain_append (a b : List (List Nat × Nat)) : plain (a ++ b) = plain a ++ plain b := by
  induction a with
  | nil => rfl
  | cons r a ih => rw [List.cons_append, plain, plain, ih, List.append_assoc]
theorem plain_one (p : List Nat) (n : Nat) : plain [(p, n)] = rep n p := by simp [plain]
theorem plain_snoc (a : List (List Nat × Nat)) (p : List Nat) (n : Nat) : plain (a ++ [(p, n)]) = plain a ++ rep n p := by rw [plain_append, plain_one]
theorem plain_take_succ {rs : List (List Nat × Nat)} {i : Nat} {r : List Nat × Nat} (h : rs[i]? = some r) : plain (rs.take (i + 1)) = plain (rs.take i) ++ rep r.2 r.1 := by
  rw [List.take_add_one, h]
  exact plain_snoc _ _ _
theorem plain_drop_at {rs : List (List Nat × Nat)} {i : Nat} {r : List Nat × Nat} (h : rs[i]? = some r) : plain (rs.drop i) = rep r.2 r.1 ++ plain (rs.drop (i + 1)) := by
  obtain ⟨hi, e⟩ := List.getElem?_eq_some_iff.mp h
  rw [List.drop_eq_getElem_cons hi, e, plain]
theorem plain_split (rs : List (List Nat × Nat)) (i : Nat) : plain rs = plain (rs.take i) ++ plain (rs.drop i) := by rw [← plain_append, List.take_append_drop]
theorem plain_length_take (rs : List (List Nat × Nat)) (i : Nat) : (plain (rs.take i)).length ≤ (plain rs).length := by
  rw [plain_split rs i, List.length_append]; omega
/-- runs as the program keeps them -/
def Good (rs : List (List Nat × Nat)) : Prop := ∀ r ∈ rs, 1 ≤ r.1.length ∧ r.1.length ≤ 20 ∧ 1 ≤ r.2
theorem Good.nil : Good [] := fun _ h => nomatch h
theorem Good.snoc {a : List (List Nat × Nat)} {p : List Nat} {n : Nat} (h : Good a) (h1 : 1 ≤ p.length) (h2 : p.length ≤ 20) (h3 : 1 ≤ n) : Good (a ++ [(p, n)]) := fun r hr => by
  rcases List.mem_append.mp hr with hr | hr
  · exact h r hr
  · rw [List.mem_singleton.mp hr]; exact ⟨h1, h2, h3⟩
theorem Good.left {a b : List (List Nat × Nat)} (h : Good (a ++ b)) : Good a := fun r hr => h r (List.mem_append_left _ hr)
theorem Good.get {rs : List (List Nat × Nat)} {i : Nat} {r : List Nat × Nat} (h : Good rs) (e : rs[i]? = some r) : 1 ≤ r.1.length ∧ r.1.length ≤ 20 ∧ 1 ≤ r.2 := h r (List.mem_of_getElem? e)
theorem Good.plain_nil {rs : List (List Nat × Nat)} (h : Good rs) : plain rs = [] ↔ rs = [] := by
  cases rs with
  | nil => simp [plain]
  | cons r rs =>
    obtain ⟨h1, _, h3⟩ := h r (List.mem_cons_self ..)
    have : 0 < (rep r.2 r.1).length := by rw [rep_length]; exact Nat.mul_pos h3 h1
    constructor
    · intro e
      have e2 := congrArg List.length e
      rw [plain, List.length_append, List.length_nil] at e2
      omega
    · intro e; cases e
/-- lengths and counts add up -/
theorem plain_length (rs : List (List Nat × Nat)) : (plain rs).length = (rs.map fun r => r.1.length * r.2).sum := by
  induction rs with
  | nil => rfl
  | cons r rs ih => rw [plain, List.length_append, ih, rep_length, List.map_cons, List.sum_cons, Nat.mul_comm]
theorem plain_count (rs : List (List Nat × Nat)) (c : Nat) : (plain rs).count c = (rs.map fun r => r.1.count c * r.2).sum := by
  induction rs with
  | nil => rfl
  | cons r rs ih => rw [plain, List.count_append, ih, rep_count, List.map_cons, List.sum_cons]

/-! ### places: a list that rises from 0 to the end -/
/-- what stands between neighbours -/
def between (L : List Nat) : List Nat → List (List Nat)
  | a :: b :: r => sl L a b :: between L (b :: r)
  | _ => []
def gaps : List Nat → List Nat
  | a :: b :: r => (b - a) :: gaps (b :: r)
  | _ => []
theorem between_length (L : List Nat) : ∀ ps : List Nat, (between L ps).length = ps.length - 1
  | [] => rfl
  | [_] => rfl
  | a :: b :: r => by
    rw [between, List.length_cons, between_length L (b :: r)]
    simp only [List.length_cons]
    omega
theorem between_get (L : List Nat) : ∀ (ps : List Nat) (i a b : Nat), ps[i]? = some a → ps[i + 1]? = some b → (between L ps)[i]? = some (sl L a b)
  | [], _, _, _, h, _ => by simp at h
  | [_], 0, _, _, _, h => by simp at h
  | [_], i + 1, _, _, h, _ => by simp at h
  | x :: y :: r, 0, a, b, h, h2 => by
    have e1 : x = a := Option.some.inj h
    have e2 : y = b := Option.some.inj h2
    rw [← e1, ← e2]; rfl
  | x :: y :: r, i + 1, a, b, h, h2 => between_get L (y :: r) i a b h h2
theorem gaps_get : ∀ (ps : List Nat) (i a b : Nat), ps[i]? = some a → ps[i + 1]? = some b → (gaps ps)[i]? = some (b - a)
  | [], _, _, _, h, _ => by simp at h
  | [_], 0, _, _, _, h => by simp at h
  | [_], i + 1, _, _, h, _ => by simp at h
  | x :: y :: r, 0, a, b, h, h2 => by
    have e1 : x = a := Option.some.inj h
    have e2 : y = b := Option.some.inj h2
    rw [← e1, ← e2]; rfl
  | x :: y :: r, i + 1, a, b, h, h2 => gaps_get (y :: r) i a b h h2
theorem gaps_length : ∀ ps : List Nat, (gaps ps).length = ps.length - 1
  | [] => rfl
  | [_] => rfl
  | a :: b :: r => by
    rw [gaps, List.length_cons, gaps_length (b :: r)]
    simp only [List.length_cons]
    omega
/-- rising, all at most n -/
def Rise (n : Nat) (ps : List Nat) : Prop := ps.Pairwise (· ≤ ·) ∧ ∀ x ∈ ps, x ≤ n
theorem between_flat (L : List Nat) : ∀ (ps : List Nat) (a z : Nat), Rise L.length ps → ps.head? = some a → ps.getLast? = some z → (between L ps).flatten = sl L a z
  | [], _, _, _, h, _ => by simp at h
  | [x], a, z, _, h, h2 => by
    have e1 : x = a := Option.some.inj h
    have e2 : x = z := Option.some.inj h2
    rw [← e1, ← e2, sl_empty (.inr (Nat.le_refl _))]; rfl
  | x :: y :: r, a, z, hr, h, h2 => by
    have e1 : x = a := Option.some.inj h
    subst e1
    have hr2 : Rise L.length (y :: r) := ⟨(List.pairwise_cons.mp hr.1).2, fun v hv => hr.2 v (List.mem_cons_of_mem _ hv)⟩
    have h3 : (y :: r).getLast? = some z := by rw [List.getLast?_cons_cons] at h2; exact h2
    rw [between, List.flatten_cons, between_flat L (y :: r) y z hr2 rfl h3]
    refine sl_join ((List.pairwise_cons.mp hr.1).1 y (List.mem_cons_self ..)) ?_
    have hz : z ∈ (y :: r) := List.mem_of_getLast? h3
    rcases List.mem_cons.mp hz with e | e
    · omega
    · exact (List.pairwise_cons.mp hr2.1).1 z e
theorem between_lens (L : List Nat) : ∀ (ps : List Nat), Rise L.length ps → (between L ps).map List.length = gaps ps
  | [], _ => rfl
  | [_], _ => rfl
  | x :: y :: r, hr => by
    have hr2 : Rise L.length (y :: r) := ⟨(List.pairwise_cons.mp hr.1).2, fun v hv => hr.2 v (List.mem_cons_of_mem _ hv)⟩
    rw [between, gaps, List.map_cons, between_lens L (y :: r) hr2, sl_length ((List.pairwise_cons.mp hr.1).1 y (List.mem_cons_self ..)) (hr.2 y (List.mem_cons_of_mem _ (List.mem_cons_self ..)))]
theorem flat_length (Ls : List (List Nat)) : (Ls.map List.length).sum = Ls.flatten.length := by rw [List.length_flatten]
theorem flat_count (Ls : List (List Nat)) (c : Nat) : (Ls.map fun l => l.count c).sum = Ls.flatten.count c := by
  induction Ls with
  | nil => rfl
  | cons l r ih => rw [List.map_cons, List.sum_cons, ih, List.flatten_cons, List.count_append]
theorem rise_at {n : Nat} {ps : List Nat} (hr : Rise n ps) {i a b : Nat} (h1 : ps[i]? = some a) (h2 : ps[i + 1]? = some b) : a ≤ b ∧ b ≤ n := by
  obtain ⟨k1, e1⟩ := List.getElem?_eq_some_iff.mp h1
  obtain ⟨k2, e2⟩ := List.getElem?_eq_some_iff.mp h2
  have := List.pairwise_iff_getElem.mp hr.1 i (i + 1) k1 k2 (by omega)
  rw [e1, e2] at this
  exact ⟨this, hr.2 b (List.mem_of_getElem? h2)⟩

/-! ### two lists of runs, side by side -/
/-- in the run at place, used items are behind us: T items of L -/
structure At (rs : List (List Nat × Nat)) (L : List Nat) (place used T : Nat) : Prop where
  le : place ≤ rs.length
  eq : (plain (rs.drop place)).drop used = L.drop T
  tl : T ≤ L.length
  lt : ∀ r, rs[place]? = some r → used < r.1.length * r.2
theorem At.zero {rs : List (List Nat × Nat)} (g : Good rs) : At rs (plain rs) 0 0 0 :=
  ⟨Nat.zero_le _, rfl, Nat.zero_le _, fun r e => Nat.mul_pos (g.get e).1 (g.get e).2.2⟩
theorem At.more {rs : List (List Nat × Nat)} {L : List Nat} {place used T : Nat} (h : At rs L place used T) (hp : place < rs.length) : T < L.length := by
  have e := h.eq
  rw [plain_drop_at (List.getElem?_eq_getElem hp)] at e
  have l := congrArg List.length e
  have k := h.lt _ (List.getElem?_eq_getElem hp)
  rw [List.length_drop, List.length_append, rep_length, List.length_drop, Nat.mul_comm] at l
  omega
theorem At.less {rs : List (List Nat × Nat)} {L : List Nat} {place used T : Nat} (h : At rs L place used T) (hT : T < L.length) : place < rs.length := by
  rcases Nat.lt_or_ge place rs.length with k | k
  · exact k
  · exfalso
    have e := h.eq
    rw [List.drop_of_length_le k, plain, List.drop_nil] at e
    have l := congrArg List.length e
    rw [List.length_drop, List.length_nil] at l
    omega
/-- what the run at place says of the rest -/
theorem At.look {rs : List (List Nat × Nat)} {L : List Nat} {place used T : Nat} {r : List Nat × Nat} (h : At rs L place used T) (e : rs[place]? = some r) {k : Nat} (hk : used + k ≤ r.1.length * r.2) :
    per r.1 used k = (L.drop T).take k := by
  rw [← h.eq, plain_drop_at e, List.drop_append, List.take_append, rep_per, per_drop, per_length, Nat.zero_add, Nat.mul_comm r.2]
  have e0 : k - (r.1.length * r.2 - used) = 0 := by omega
  rw [e0, List.take_zero, List.append_nil, per_take _ _ _ _ (by omega)]
theorem At.step {rs : List (List Nat × Nat)} {L : List Nat} {place used T : Nat} {r : List Nat × Nat} (g : Good rs) (h : At rs L place used T) (e : rs[place]? = some r) {k : Nat} (hk : used + k ≤ r.1.length * r.2) :
    (used + k = r.1.length * r.2 → At rs L (place + 1) 0 (T + k)) ∧ (used + k ≠ r.1.length * r.2 → At rs L place (used + k) (T + k)) := by
  have hp : place < rs.length := (List.getElem?_eq_some_iff.mp e).1
  have e1 : (plain (rs.drop place)).drop (used + k) = L.drop (T + k) := by rw [← List.drop_drop, h.eq, List.drop_drop]
  have ht : T + k ≤ L.length := by
    have l := congrArg List.length h.eq
    rw [plain_drop_at e, List.length_drop, List.length_append, rep_length, List.length_drop, Nat.mul_comm] at l
    have := h.lt r e
    omega
  refine ⟨fun q => ⟨hp, ?_, ht, fun r' e' => Nat.mul_pos (g.get e').1 (g.get e').2.2⟩, fun q => ⟨h.le, e1, ht, fun r' e' => ?_⟩⟩
  · have z : (rep r.2 r.1).drop (r.1.length * r.2) = [] := List.drop_of_length_le (by rw [rep_length, Nat.mul_comm]; exact Nat.le_refl _)
    rw [← e1, q, plain_drop_at e, List.drop_zero, List.drop_append, rep_length, Nat.mul_comm r.2, Nat.sub_self, List.drop_zero, z, List.nil_append]
  · have er : r = r' := Option.some.inj (e.symm.trans e')
    subst er
    omega
end Om
end

section
set_option Elab.async false
set_option linter.all false
set_option maxRecDepth 100000
set_option maxHeartbeats 2000000
/-! Or1: own __add__, __getitem__, != by the text's own ==, bool(x) by an own __bool__; four targets; text * int. -/
namespace L2.Ow
open PySem PySem.Spec PyProof.Rows

section
variable {X : Cx} {CX : CXT} {k : Nat} {f C : Addr} {fd : FuncData} {ps : List Str} {sp : Sp} {dvs : List V} {ds : List Value} {E : XK}
/-- the callee runs, called from a builtin -/
theorem run_in1 {pins : List (Addr × Obj)} {σ : St} {H : Hp} {s : Shared} {Q : VK} {us : List Value} {vs : List V} (F : FnOk X.prog X.w X.K X.mg X.base CX k f fd ps sp) (hr : Room (k + 1) X.A) (hb : Binds X.K fd ps []) (hx : Passes CX X E)
    (I : Inv X pins σ H s) (r : Vals vs us) (h : sp vs H Q E) : wpAny (model X.prog X.w) X.A.in1 (call (.ref f) us) (EP X pins σ Q) X.xe s := by
  have hl : (us ++ []).length = ps.length := by rw [List.append_nil, ← r.length]; exact F.len _ _ _ _ h
  have hb' := hb s us I.kIn hl
  rw [List.append_nil] at hb'
  refine wpAny_call (codeAny_mono (F.run X.A.in1 X.stack s H ⟨us, []⟩ us vs Q E hr.in1 I.env0.in1 hb' r h) fun r s' hq => ?_)
  cases r with
  | error e => exact hx pins σ H s e s' I hq
  | ok fl =>
    cases fl with
    | ret u => exact I.after hq
    | next => exact False.elim hq
    | brk => exact False.elim hq
    | cont => exact False.elim hq
theorem run_0 {pins : List (Addr × Obj)} {σ : St} {H : Hp} {s : Shared} {Q : VK} {us : List Value} {vs : List V} (F : FnOk X.prog X.w X.K X.mg X.base CX k f fd ps sp) (hr : Room k X.A) (hb : Binds X.K fd ps []) (hx : Passes CX X E)
    (I : Inv X pins σ H s) (r : Vals vs us) (h : sp vs H Q E) : wpAny (model X.prog X.w) X.A (call (.ref f) us) (EP X pins σ Q) X.xe s := by
  refine run_fn (ds := []) (dvs := []) F hr hb .nil hx I r ?_
  rw [List.append_nil]
  exact h

/-! ### x + y -/
def rAddO (C : Addr) (sp : Sp) (E : XK) : R2 := fun x y H Q => ∃ a b dx dy fs gs, x = .ref a ∧ y = .ref b ∧ H a = some (.ins C dx fs) ∧ H b = some (.ins C dy gs) ∧ sp [.ref a, .ref b] H Q E
theorem op_addO (F : FnOk X.prog X.w X.K X.mg X.base CX k f fd ps sp) (hr : Room k X.A) (hb : Binds X.K fd ps []) (hx : Passes CX X E) (hc : PySem.W.selfFirst X.K C = true)
    (hs : PySem.W.findIn X.K (.ref C) "__add__" = some (some (.ref f))) (hf : PySem.W.isFn X.K (.ref f) = true) : OpR X (binaryOp .Add) (rAddO C sp E) := by
  intro pins s σ H x y u v Q I rx ry h
  obtain ⟨a, b, dx, dy, fs, gs, rfl, rfl, ha, hb', hsp⟩ := h
  cases rx
  cases ry
  obtain ⟨mA, J, _⟩ := ins_get I.hok ha
  obtain ⟨mB, J', _⟩ := ins_get I.hok hb'
  obtain ⟨od, J, _⟩ := J.look
  obtain ⟨od', J', _⟩ := J'.look
  obtain ⟨m, hF⟩ := I.fr
  refine PySem.W.binop_K (op := .Add) hF I.ok.mod.kin J J'.type hc hs hf ?_
  refine thn (run_0 F hr hb hx I (vs := [.ref a, .ref b]) (us := [.ref a, .ref b]) (.cons rfl (.cons rfl .nil)) hsp) fun r s' hq => ?_
  obtain ⟨v, H', I', rv, q⟩ := hq
  have e : EP X pins σ Q r s' := ⟨v, H', I', rv, q⟩
  cases r <;> first | exact e | (cases v <;> first | (obtain ⟨t, z⟩ := rv; cases z) | cases rv)

/-! ### x[i] -/
def tSubO (C : Addr) (sp : Sp) (E : XK) (ta tb : TE) : TE := fun σ H Q => ta σ H fun x H1 => tb σ H1 fun y H2 => ∃ a dx fs, x = .ref a ∧ H2 a = some (.ins C dx fs) ∧ sp [.ref a, y] H2 Q E
theorem pe_ixO {a b : Expr} {pos : Pos} {ta tb : TE} (ha : PE X a ta) (hb0 : PE X b tb) (F : FnOk X.prog X.w X.K X.mg X.base CX k f fd ps sp) (hr : Room (k + 1) X.A) (hb : Binds X.K fd ps []) (hx : Passes CX X E)
    (hs : PySem.W.findIn X.K (.ref C) "__getitem__" = some (some (.ref f))) (hf : PySem.W.fnIn X.K f = true) (hfn : PySem.W.isFn X.K (.ref f) = true)
    (hsl : ∀ o i, subscripted b true o i = runValue (.builtin "lifetime.subscript" ⟨[o, i], []⟩) := by intros; with_unfolding_all rfl) : PE X (.Subscript a b pos) (tSubO C sp E ta tb) := by
  refine ⟨fun pins s σ H Q I h => ?_⟩
  refine Subscript_ (binT ha hb0 I h fun v u s2 x y H2 I2 rx ry q => ?_)
  obtain ⟨p, dx, fs, rfl, hp, hsp⟩ := q
  cases rx
  obtain ⟨mA, J, _⟩ := ins_get I2.hok hp
  obtain ⟨od, J, _⟩ := J.look
  obtain ⟨m, hF⟩ := I2.fr
  exact PySem.W.sub_K hF I2.ok.mod.kin J hs hf hfn (run_in1 F hr hb hx I2 (vs := [.ref p, y]) (us := [.ref p, u]) (.cons rfl (.cons ry .nil)) hsp) (hsl _ _)

/-! ### four targets -/
def tAsg4 (te : TE) (g1 g2 g3 g4 : TG) : TS := fun D σ H => te σ H fun x H1 => g1 x σ H1 fun σ1 H2 => g2 x σ1 H2 fun σ2 H3 => g3 x σ2 H3 fun σ3 H4 => g4 x σ3 H4 D.nx
theorem ps_asg4 {t1 t2 t3 t4 e : Expr} {te : TE} {g1 g2 g3 g4 : TG} {pos : Pos} (he : PE X e te) (h1 : PG X t1 g1) (h2 : PG X t2 g2) (h3 : PG X t3 g3) (h4 : PG X t4 g4)
    (hs : swapsWithSole [t1, t2, t3, t4] e pos.line X.env = pure false := by rfl)
    (ha : (assignEach [t1, t2, t3, t4] X.env).map (·.2) = [assign t1 X.env, assign t2 X.env, assign t3 X.env, assign t4 X.env] := by rfl) (hw : swappedStores [t1, t2, t3, t4] e X.env = pure none := by rfl) :
    PS X (.Assign [t1, t2, t3, t4] e pos) (tAsg4 te g1 g2 g3 g4) := by
  refine ⟨fun pins s σ H D I h => ?_⟩
  refine wpAny_Assign_stores (thn (he.run pins s σ H _ I h) fun v s1 ⟨x, H1, I1, r1, q1⟩ => ?_) hs hw
  rw [ha]
  have one : wpAny (model X.prog X.w) X.A (assign t1 X.env v) (fun _ s2 => wpAny (model X.prog X.w) X.A (assign t2 X.env v) (fun _ s3 => wpAny (model X.prog X.w) X.A (assign t3 X.env v) (fun _ s4 => wpAny (model X.prog X.w) X.A (assign t4 X.env v) (fun _ s5 => SP X pins D .next s5) X.xe s4) X.xe s3) X.xe s2) X.xe s1 := by
    refine thn (h1.run pins s1 σ H1 x v _ I1 r1 q1) fun _ s2 ⟨σ2, H2, I2, q2⟩ => ?_
    refine thn (h2.run pins s2 σ2 H2 x v _ I2 r1 q2) fun _ s3 ⟨σ3, H3, I3, q3⟩ => ?_
    refine thn (h3.run pins s3 σ3 H3 x v _ I3 r1 q3) fun _ s4 ⟨σ4, H4, I4, q4⟩ => ?_
    exact thn (h4.run pins s4 σ4 H4 x v _ I4 r1 q4) fun _ s5 q => q
  exact wpAny_bind (wpAny_holding (wpAny_mono one (fun _ s₂ h₂ => wpAny_bind (wpAny_holding (wpAny_mono h₂ (fun _ s₃ h₃ => wpAny_bind (wpAny_holding h₃)) fun _ _ x => x))) fun _ _ x => x))
end
end L2.Ow
end

section
set_option Elab.async false
set_option linter.all false
set_option maxRecDepth 100000
set_option maxHeartbeats 2000000
namespace PySem
open Builtin
open PySem.Sem (wp)
section
variable {prog : Program} {w : World} {A : Around} {E : Value → Shared → Prop} {s : Shared}
/-- bool(v), by v's truth -/
theorem ow_bool {v : Value} {Q : Value → Shared → Prop} (h : wpAny (model prog w) A.in1.in1 (truthy v) (fun b s' => Q (.bool b) s') E s) : wpAny (model prog w) A (call (.type "bool") [v]) Q E s := by
  obtain ⟨c, tl, mr⟩ := F.called_bool.mro
  have hm1 := F.called_bool.made
  have hs1 := F.called_bool.sub
  have hn1 := F.called_bool.notType
  have hc1 := F.called_bool.canCreate
  have ct := F.typeCall_bool_1 v
  refine wpAny_call (codeAny_of_tree ?_)
  show wpAny _ _ (callAny (.type "bool") ⟨[v], []⟩) _ _ _
  refine wpAny_pure ⟨Code.quiet_builtin _ (by decide +kernel), codeAny_builtin F.entry_type_call ?_⟩
  rw [Around.under_plain (weight_type_call_type "bool" [v] []) (units_type_call_type "bool" [v] [])]
  repeat (any_goals (first | assumption | wp_step))
  have body : wpAny (model prog w) A.in1.in1 (Builtin.«bool.__new__» ⟨[.type "bool", v], []⟩) (fun fin s' => ∃ b, fin = .done (.ret (.bool b)) ∧ Q (.bool b) s') E s := by
    have f1 := F.conv_sub_bool
    obtain ⟨hp, g, d, tk, os⟩ := s
    unfold Builtin.«bool.__new__»
    repeat (any_goals (first | assumption | (with_reducible refine wpAny_bind (m := truthy _) (wpAny_mono h (fun b s' hb => ?_) fun _ _ x => x)) | wp_step))
    all_goals first | exact ⟨_, rfl, hb⟩ | skip
  refine codeAny_mono (R := wants (fun obj s1 => ∃ b, obj = .bool b ∧ Q obj s1) E) (codeAny_call_builtin F.called_bool.plain F.entry_bool_new (wpAny_of_eq (F.newCall_bool_1 v) (wpAny_mono body (fun fin s' hb => ?_) fun _ _ x => x))) fun r s1 hr => ?_
  · obtain ⟨b, rfl, q⟩ := hb
    exact ⟨b, rfl, q⟩
  cases r with
  | error e => exact hr
  | ok fl =>
    cases fl with
    | ret obj =>
      obtain ⟨b, rfl, q⟩ := hr
      have hT : s1.TypeIs (.bool b) "bool" := rfl
      have li := F.called_bool.init.lookup
      have bi := F.called_bool.init.bind (.bool b)
      repeat (any_goals (first | assumption | wp_step))
      have gi := object_init_meets (self := .bool b) (rest := [v]) F.called_bool.init.lookup F.called_bool.made F.newNe_bool
      refine codeAny_mono (R := wants (fun r s2 => r = .none ∧ Q (.bool b) s2) E) (codeAny_call_builtin F.called_bool.init.plain F.entry_object_init (F.called_bool.init.check _ _ _ _ _ _ _ _ hT (F.args_object_init_2 _ v) (gi prog w A.in1 _ s1 ⟨hT, rfl, q⟩))) fun r2 s2 hr2 => ?_
      cases r2 with
      | error e => exact hr2
      | ok fl2 =>
        cases fl2 with
        | ret r =>
          obtain ⟨rfl, q2⟩ := hr2
          repeat (any_goals (first | assumption | wp_step))
        | _ => exact hr2.elim
    | _ => exact hr.elim
end
end PySem
end

section
set_option Elab.async false
set_option linter.all false
set_option maxRecDepth 100000
set_option maxHeartbeats 2000000
namespace L2.Ow
open PySem PySem.Spec PyProof.Rows

section
variable {X : Cx} {CX : CXT} {k : Nat} {f C : Addr} {fd : FuncData} {ps : List Str} {sp : Sp} {E : XK}
theorem run_in2 {pins : List (Addr × Obj)} {σ : St} {H : Hp} {s : Shared} {Q : VK} {us : List Value} {vs : List V} (F : FnOk X.prog X.w X.K X.mg X.base CX k f fd ps sp) (hr : Room (k + 2) X.A) (hb : Binds X.K fd ps []) (hx : Passes CX X E)
    (I : Inv X pins σ H s) (r : Vals vs us) (h : sp vs H Q E) : wpAny (model X.prog X.w) X.A.in1.in1 (call (.ref f) us) (EP X pins σ Q) X.xe s := by
  have hl : (us ++ []).length = ps.length := by rw [List.append_nil, ← r.length]; exact F.len _ _ _ _ h
  have hb' := hb s us I.kIn hl
  rw [List.append_nil] at hb'
  refine wpAny_call (codeAny_mono (F.run X.A.in1.in1 X.stack s H ⟨us, []⟩ us vs Q E hr.in1.in1 I.env0.in1.in1 hb' r h) fun r s' hq => ?_)
  cases r with
  | error e => exact hx pins σ H s e s' I hq
  | ok fl =>
    cases fl with
    | ret u => exact I.after hq
    | next => exact False.elim hq
    | brk => exact False.elim hq
    | cont => exact False.elim hq

/-! ### bool(x) -/
theorem call_boolO (F : FnOk X.prog X.w X.K X.mg X.base CX k f fd ps sp) (hr : Room (k + 2) X.A) (hb : Binds X.K fd ps []) (hx : Passes CX X E)
    (hs : PySem.W.findIn X.K (.ref C) "__bool__" = some (some (.ref f))) (hf : PySem.W.isFn X.K (.ref f) = true) :
    CallR X (.type "bool") (fun xs H Q => ∃ a dx fs, xs = [.ref a] ∧ H a = some (.ins C dx fs) ∧ sp [.ref a] H (fun v H' => ∃ b, v = .bl b ∧ Q (.bl b) H') E) := by
  intro pins s σ H xs us Q I r h
  obtain ⟨a, dx, fs, rfl, ha, hsp⟩ := h
  obtain ⟨u, rfl, ru⟩ := vals1 r
  cases ru
  obtain ⟨mA, J, _⟩ := ins_get I.hok ha
  obtain ⟨od, J, _⟩ := J.look
  obtain ⟨m, hF⟩ := I.fr
  refine ow_bool (PySem.W.truthy_K hF I.ok.mod.kin J hs hf ?_)
  refine thn (run_in2 F hr hb hx I (vs := [.ref a]) (us := [.ref a]) (.cons rfl .nil) hsp) fun r s' hq => ?_
  obtain ⟨v, H', I', rv, b, rfl, q⟩ := hq
  cases rv
  exact ⟨.bl b, H', I', rfl, q⟩

/-! ### x != y by the text's own == (object.__ne__ asks it) -/
def rNeO (C : Addr) (sp : Sp) (E : XK) : R2 := fun x y H Q => ∃ a b dx dy fs gs, x = .ref a ∧ y = .ref b ∧ H a = some (.ins C dx fs) ∧ H b = some (.ins C dy gs) ∧ sp [.ref a, .ref b] H (fun v H' => ∃ k, v = .bl k ∧ Q (.bl (!k)) H') E
theorem op_neO (F : FnOk X.prog X.w X.K X.mg X.base CX k f fd ps sp) (hr : Room (k + 1) X.A) (hb : Binds X.K fd ps []) (hx : Passes CX X E)
    (hn : PySem.W.findIn X.K (.ref C) "__ne__" = some (some (.builtin "object.__ne__"))) (ho : PySem.W.subIn X.K (.ref C) (.type "object") = some true)
    (hs : PySem.W.findIn X.K (.ref C) "__eq__" = some (some (.ref f))) (hf : PySem.W.isFn X.K (.ref f) = true) : OpR X (compareOp .NotEq) (rNeO C sp E) := by
  intro pins s σ H x y v u Q I rx ry h
  obtain ⟨a, b, dx, dy, fs, gs, rfl, rfl, ha, hb', hsp⟩ := h
  cases rx
  cases ry
  obtain ⟨mA, J, _⟩ := ins_get I.hok ha
  obtain ⟨mB, J', _⟩ := ins_get I.hok hb'
  obtain ⟨od, J, _⟩ := J.look
  obtain ⟨od', J', _⟩ := J'.look
  have KI := I.kIn
  have S : Slot "object" "__ne__" "object.__ne__" := PySem.F.slot_object_ne
  have hu1 : X.A.in1.units < cLine := (hr.in1).units0
  -- the builtin's body
  have body : wpAny (model X.prog X.w) X.A.in1 (Builtin.«object.__ne__» ⟨[.ref a, .ref b], []⟩) (fun fin s' => ∃ k, fin = .done (.ret (.bool (!k))) ∧ EP X pins σ Q (.bool (!k)) s') X.xe s := by
    have hc := thn (run_in1 F hr hb hx I (vs := [.ref a, .ref b]) (us := [.ref a, .ref b]) (.cons rfl (.cons rfl .nil)) hsp) (Q' := fun r s' => ∃ k, r = .bool k ∧ EP X pins σ Q (.bool (!k)) s') fun r s' hq => by
      obtain ⟨v, H', I', rv, k, rfl, q⟩ := hq
      cases rv
      exact ⟨k, rfl, .bl (!k), H', I', rfl, q⟩
    unfold Builtin.«object.__ne__»
    refine wpAny_bind (m := slotArgs "__ne__" 1 _) (wpAny_pure ?_)
    refine wpAny_bind (wpAny_cRoomFor hu1 ?_)
    refine wpAny_bind (m := callSpecialIfBound? (.ref a) (Str.ofString "__eq__") [.ref b]) (PySem.W.ifBound_K KI J hs hf (wpAny_mono hc (fun r s' hq => ?_) fun _ _ z => z))
    obtain ⟨k, rfl, q⟩ := hq
    refine wpAny_bind (wpAny_truthy_bool ?_)
    exact wpAny_pure ⟨k, rfl, q⟩
  have one : wpAny (model X.prog X.w) X.A (tryCompare (.ref a) "__ne__" (.ref b)) (fun r s' => ∃ v, r = some v ∧ EP X pins σ Q v s') X.xe s := by
    have cal : wpAny (model X.prog X.w) X.A (call (.builtin "object.__ne__") ([.ref a] ++ [.ref b])) (fun v s' => ∃ k, v = .bool (!k) ∧ EP X pins σ Q (.bool (!k)) s') X.xe s := by
      refine wpAny_call (codeAny_call_builtin S.plain PySem.F.cmpEntry_ne ?_)
      refine PySem.W.check_slot PySem.F.cmpKind_ne PySem.F.cmpSplit_ne (J.type.andThen (PySem.W.looks_subIn KI ho)) (PySem.F.cmpArgs_ne _ _) (wpAny_mono body (fun fin s' hq => ?_) fun _ _ z => z)
      obtain ⟨k, rfl, q⟩ := hq
      exact ⟨k, rfl, q⟩
    have fin : wpAny (model X.prog X.w) X.A (call (.builtin "object.__ne__") ([.ref a] ++ [.ref b]) >>= fun v => pure (some v)) (fun r s' => ∃ v, r = some v ∧ v ≠ .notImplemented ∧ EP X pins σ Q v s') X.xe s :=
      wpAny_bind (wpAny_mono cal (fun v s' hq => by
        obtain ⟨k, rfl, q⟩ := hq
        exact wpAny_pure ⟨_, rfl, (fun z => nomatch z), q⟩) fun _ _ z => z)
    unfold tryCompare
    refine wpAny_bind (wpAny_mono (Q := fun r s' => ∃ v, r = some v ∧ v ≠ .notImplemented ∧ EP X pins σ Q v s') ?_ (fun r s' hq => ?_) fun _ _ z => z)
    · simp only [callSpecialIfBound?, bindSpecialIfBound?]
      refine wpAny_holding (wpAny_bind (wpAny_bind (wpAny_bind (J.type.here ((PySem.W.looks_findIn KI hn).here ?_)))))
      simp only [S.bind]
      refine wpAny_bind (wpAny_askSetting (wpAny_ite ?_))
      split
      · exact wpAny_bind (wpAny_pure (wpAny_pure (by exact fin)))
      · exact wpAny_tryCatch (wpAny_bind (wpAny_pure (wpAny_pure (by exact fin))))
    · obtain ⟨v, rfl, nv, q⟩ := hq
      cases v <;> first | exact absurd rfl nv | exact wpAny_pure ⟨_, rfl, q⟩
  show wpAny (model X.prog X.w) X.A (richCompare .NotEq (.ref a) (.ref b)) (EP X pins σ Q) X.xe s
  unfold richCompare
  simp only [oneThing_ref]
  refine wpAny_holding (wpAny_bind (wpAny_cRoomFor hr.units0 ?_))
  rw [cmpInfo_NotEq]
  dsimp only
  refine wpAny_bind (J.type.here (wpAny_bind (J'.type.here ?_)))
  rw [show (Value.ref C != Value.ref C) = false from by simp]
  simp only [Bool.false_eq_true, if_false]
  refine wpAny_bind (wpAny_pure ?_)
  simp only [Bool.false_eq_true, if_false]
  refine wpAny_bind (wpAny_mono one (fun r s' hq => ?_) fun _ _ z => z)
  obtain ⟨v, rfl, q⟩ := hq
  first | exact wpAny_pure q | exact wpAny_pure (wpAny_pure q)
end
end L2.Ow
end

section
set_option Elab.async false
set_option linter.all false
set_option maxRecDepth 100000
set_option maxHeartbeats 2000000
/-! Or4: text * int; what find says of a text in its double; texts as lists of signs. -/
namespace L2.Ow
open PySem PySem.Spec PyProof.Rows
open Om (rep per)
/-- a text of these signs -/
abbrev T (p : List Nat) : Str := ⟨p.toArray⟩
theorem T_of (x : Str) : x = T x.cps.toList := by cases x; rfl
theorem T_len (p : List Nat) : (T p).length = p.length := by show p.toArray.size = p.length; simp
theorem T_add (p q : List Nat) : T p ++ T q = T (p ++ q) := by
  show (⟨p.toArray ++ q.toArray⟩ : Str) = ⟨(p ++ q).toArray⟩
  simp
theorem T_inj {p q : List Nat} (h : T p = T q) : p = q := by
  have := congrArg (fun z : Str => z.cps.toList) h
  simpa using this
theorem fold_rep (n : Nat) (p : List Nat) (acc : Array Nat) : (List.replicate n p.toArray).foldl (· ++ ·) acc = acc ++ (rep n p).toArray := by
  induction n generalizing acc with
  | zero => simp [rep]
  | succ n ih =>
    rw [List.replicate_succ, List.foldl_cons, ih, rep, Array.append_assoc]
    congr 1
    simp
section
variable {X : Cx}
/-- s * n, small -/
theorem op_mulS : OpR X (binaryOp .Mult) (fun x y H Q => ∃ (p : List Nat) (n : Nat), x = .str (T p) ∧ y = .int (n : Int) ∧ 1 ≤ n ∧ n ≤ 1000 ∧ p.length ≤ 1000 ∧ Q (.str (T (rep n p))) H) := by
  intro pins s σ H x y v u Q I rx ry h
  obtain ⟨p, n, rfl, rfl, h1, h2, h3, q⟩ := h
  obtain ⟨t, rfl⟩ := rx
  obtain ⟨t', rfl⟩ := ry
  have hn : ¬ ((n : Nat) : Int) < 1 := by omega
  have e1 : decide (((n : Nat) : Int) < -(2 ^ 63 : Int)) = false := decide_eq_false (by omega)
  have e2 : decide (((n : Nat) : Int) ≥ 2 ^ 63) = false := decide_eq_false (by omega)
  have hmul : p.length * n ≤ 1000 * 1000 := Nat.mul_le_mul h3 h2
  refine PySem.P.mul_str (by rw [e1, e2]; rfl) (fun _ _ => ?_) (fun _ _ => ?_) ?_
  · rw [T_len]
    have : (1000 : Int) ≤ (2 ^ 63 - 1) / ((n : Nat) : Int) := (Int.le_ediv_iff_mul_le (by omega)).mpr (by omega)
    omega
  · rw [T_len]
    show decide (p.length * ((n : Nat) : Int).toNat > sizeLine) = false
    refine decide_eq_false ?_
    rw [Int.toNat_natCast, sizeLine_eq]
    omega
  · rw [if_neg hn]
    by_cases c : ((((n : Nat) : Int) == 1) || (T p).length == 0) = true
    · rw [if_pos c]
      have e : rep n p = p := by
        rcases Bool.or_eq_true_iff.mp c with c | c
        · have : n = 1 := by have := eq_of_beq c; omega
          rw [this, Om.rep_one]
        · have : p.length = 0 := by rw [← T_len]; exact eq_of_beq c
          rw [List.eq_nil_of_length_eq_zero this, Om.rep_nil]
      rw [e] at q
      exact ⟨.str (T p), H, I, ⟨t, rfl⟩, q⟩
    · rw [if_neg c]
      have e : (⟨(List.replicate ((n : Nat) : Int).toNat (T p).cps).foldl (· ++ ·) #[]⟩ : Str) = T (rep n p) := by
        rw [Int.toNat_natCast, fold_rep]
        simp
      rw [e]
      refine ⟨?_, .str _, H, I.tok _, ⟨_, rfl⟩, q⟩
      rw [T_len, Om.rep_length, sizeLine_eq, Nat.mul_comm]
      omega
end
open PySem.StrLaws in
/-- (p + p).find(p, 1) of a text that has signs: the least turn -/
theorem find_turn {p : List Nat} (hp : 0 < p.length) : ∃ i : Nat, Txt.find3 (T p ++ T p) (T p) 1 = (i : Int) ∧ 1 ≤ i ∧ i ≤ p.length ∧ p.length % i = 0 ∧ rep (p.length / i) (p.take i) = p := by
  have hat : ∀ i, At (T p ++ T p) (T p) (T p ++ T p).length i ↔ Om.Turns p i := by
    intro i
    show (i + (T p).length ≤ (T p ++ T p).length ∧ Builtin.Str.subAt (T p ++ T p) (T p) i = true) ↔ _
    rw [T_add, T_len, T_len, List.length_append, subAt_eq]
    constructor
    · rintro ⟨h1, h2⟩
      refine Om.turns_of (by omega) ?_
      have := eq_of_beq h2
      simpa [T_len] using this
    · intro h
      have h1 := h.1
      refine ⟨by omega, ?_⟩
      have := Om.of_turns h
      simpa [T_len] using this
  have hfrom : PySem.fromIndex (T p ++ T p).length 1 = 1 := by
    unfold PySem.fromIndex
    rw [if_neg (by decide)]
    rfl
  have key := occ_head_from (T p ++ T p) (T p) 1 1 (Nat.le_refl 1)
  rcases key with ⟨_, hn⟩ | ⟨i, r, e, h1, h2, h3⟩
  · exact absurd ((hat p.length).mpr (Om.turns_self p)) (hn _ hp)
  · have ht := (hat i).mp h2
    have ld := Om.least_turn hp h1 ht fun k k1 k2 kt => h3 k k1 k2 ((hat k).mpr kt)
    refine ⟨i, ?_, h1, ht.1, ld.1, ld.2⟩
    unfold Txt.find3
    rw [hfrom, e]
end L2.Ow
end

section
set_option Elab.async false
set_option linter.all false
set_option maxRecDepth 100000
set_option maxHeartbeats 2000000
/-! Or5: loops and comprehensions over any walk that has n turns. -/
namespace L2.Ow
open PySem PySem.Spec PyProof.Rows
theorem for_n {J : It} {g : TG} {tb : TS} {D : Ends} {σ : St} {H : Hp} (n : Nat) (Pv : Nat → St → Hp → Prop) (h0 : Pv 0 σ H) (hgo : ∀ i σ H, i < n → Pv i σ H → J.go i H) (hstop : ∀ σ H, Pv n σ H → J.stop n H)
    (hs : ∀ i x σ H H', i < n → Pv i σ H → J.yld i H x H' → g x σ H' fun σ2 H2 => tb { D with nx := Pv (i + 1), ct := Pv (i + 1), bk := D.nx } σ2 H2) (hd : ∀ σ H, Pv n σ H → D.nx σ H) :
    ∃ W : Nat → Nat → St → Hp → Prop, (∃ m, W 0 m σ H) ∧ ∀ i m σ H, W i m σ H →
      (J.stop i H ∧ D.nx σ H) ∨ (J.go i H ∧ ∃ N : St → Hp → Prop, (∀ σ' H', N σ' H' → ∃ m', m' < m ∧ W (i + 1) m' σ' H') ∧ ∀ x H', J.yld i H x H' → g x σ H' fun σ2 H2 => tb { D with nx := N, ct := N, bk := D.nx } σ2 H2) := by
  refine ⟨fun i m σ H => m = n - i ∧ i ≤ n ∧ Pv i σ H, ⟨n, by simp, Nat.zero_le _, h0⟩, ?_⟩
  rintro i m σ H ⟨rfl, hi, p⟩
  by_cases h : i < n
  · exact .inr ⟨hgo i σ H h p, Pv (i + 1), fun σ' H' q => ⟨n - (i + 1), by omega, rfl, h, q⟩, fun x H' y => hs i x σ H H' h p y⟩
  · have e : i = n := by omega
    subst e
    exact .inl ⟨hstop σ H p, hd σ H p⟩
theorem lc_n {J : It} {g : TG} {tt : TT} {te : TE} {vs : List Nat} {σ : St} {H1 : Hp} {D : Addr} {Qd : Hp → Prop} (n : Nat) (Pv : Nat → Hp → Prop) (h0 : Pv 0 (upd H1 D (.lst []))) (hgo : ∀ i H, i < n → Pv i H → J.go i H) (hstop : ∀ H, Pv n H → J.stop n H)
    (hs : ∀ i x H H', i < n → Pv i H → J.yld i H x H' → g x (wipe σ vs) H' fun σ2 H2 => wipe σ2 vs = wipe σ vs ∧ tt σ2 H2 fun b H3 =>
      if b = true then te σ2 H3 fun y H4 => ∃ acc, H4 D = some (.lst acc) ∧ acc.length < sizeLine ∧ Pv (i + 1) (upd H4 D (.lst (acc ++ [y]))) else Pv (i + 1) H3) (hd : ∀ H, Pv n H → Qd H) :
    ∃ W : Nat → Nat → Hp → Prop, (∃ m, W 0 m (upd H1 D (.lst []))) ∧ ∀ i m H, W i m H →
      (J.stop i H ∧ Qd H) ∨ (J.go i H ∧ ∃ Nx : Hp → Prop, (∀ H', Nx H' → ∃ m', m' < m ∧ W (i + 1) m' H') ∧ ∀ x H', J.yld i H x H' → g x (wipe σ vs) H' fun σ2 H2 => wipe σ2 vs = wipe σ vs ∧ tt σ2 H2 fun b H3 =>
        if b = true then te σ2 H3 fun y H4 => ∃ acc, H4 D = some (.lst acc) ∧ acc.length < sizeLine ∧ Nx (upd H4 D (.lst (acc ++ [y]))) else Nx H3) := by
  refine ⟨fun i m H => m = n - i ∧ i ≤ n ∧ Pv i H, ⟨n, by simp, Nat.zero_le _, h0⟩, ?_⟩
  rintro i m H ⟨rfl, hi, p⟩
  by_cases h : i < n
  · exact .inr ⟨hgo i H h p, Pv (i + 1), fun H' q => ⟨n - (i + 1), by omega, rfl, h, q⟩, fun x H' y => hs i x H H' h p y⟩
  · have e : i = n := by omega
    subst e
    exact .inl ⟨hstop H p, hd H p⟩
/-- .. without tests -/
theorem lc_m {J : It} {g : TG} {te : TE} {vs : List Nat} {σ : St} {H1 : Hp} {D : Addr} {Qd : Hp → Prop} (n : Nat) (Pv : Nat → Hp → Prop) (h0 : Pv 0 (upd H1 D (.lst []))) (hgo : ∀ i H, i < n → Pv i H → J.go i H) (hstop : ∀ H, Pv n H → J.stop n H)
    (hs : ∀ i x H H', i < n → Pv i H → J.yld i H x H' → g x (wipe σ vs) H' fun σ2 H2 => wipe σ2 vs = wipe σ vs ∧ te σ2 H2 fun y H4 => ∃ acc, H4 D = some (.lst acc) ∧ acc.length < sizeLine ∧ Pv (i + 1) (upd H4 D (.lst (acc ++ [y])))) (hd : ∀ H, Pv n H → Qd H)
    (mono : ∀ x σ H (Q Q' : St → Hp → Prop), (∀ σ2 H2, Q σ2 H2 → Q' σ2 H2) → g x σ H Q → g x σ H Q') :
    ∃ W : Nat → Nat → Hp → Prop, (∃ m, W 0 m (upd H1 D (.lst []))) ∧ ∀ i m H, W i m H →
      (J.stop i H ∧ Qd H) ∨ (J.go i H ∧ ∃ Nx : Hp → Prop, (∀ H', Nx H' → ∃ m', m' < m ∧ W (i + 1) m' H') ∧ ∀ x H', J.yld i H x H' → g x (wipe σ vs) H' fun σ2 H2 => wipe σ2 vs = wipe σ vs ∧ tYes σ2 H2 fun b H3 =>
        if b = true then te σ2 H3 fun y H4 => ∃ acc, H4 D = some (.lst acc) ∧ acc.length < sizeLine ∧ Nx (upd H4 D (.lst (acc ++ [y]))) else Nx H3) := by
  refine lc_n n Pv h0 hgo hstop (fun i x H H' hi p y => ?_) hd
  refine mono _ _ _ _ _ (fun σ2 H2 q => ⟨q.1, ?_⟩) (hs i x H H' hi p y)
  unfold tYes
  dsimp only
  rw [if_pos rfl]
  exact q.2
theorem mono_name (i : Nat) : ∀ x σ H (Q Q' : St → Hp → Prop), (∀ σ2 H2, Q σ2 H2 → Q' σ2 H2) → gName i x σ H Q → gName i x σ H Q' := fun _ _ _ _ _ k q => k _ _ q
theorem mono_two (K : PySem.W.Frag) (i j n : Nat) : ∀ x σ H (Q Q' : St → Hp → Prop), (∀ σ2 H2, Q σ2 H2 → Q' σ2 H2) → gTup K n (gCons (gName i) (gCons (gName j) gNil)) x σ H Q → gTup K n (gCons (gName i) (gCons (gName j) gNil)) x σ H Q' := fun _ _ _ _ _ k q => by
  obtain ⟨a, xs, e, s, l, v, r, e1, v2, r2, e2, e3, q⟩ := q
  exact ⟨a, xs, e, s, l, v, r, e1, v2, r2, e2, e3, k _ _ q⟩
theorem small1e6 {n : Nat} (h : n ≤ 1000000) : n < sizeLine := Nat.lt_of_le_of_lt h (by decide)
end L2.Ow
end

section
set_option Elab.async false
set_option linter.all false
set_option maxRecDepth 100000
set_option maxHeartbeats 2000000
/-! Or6: != of data, whatever the texts. -/
namespace L2.Ow
open PySem PySem.Spec PyProof.Rows
section
variable {X : Cx}
def rNeP (K : PySem.W.Frag) : R2 := fun x y H Q => ∃ d e, Dp K H x d ∧ Dp K H y e ∧ d.plain = true ∧ e.plain = true ∧ min d.depth e.depth ≤ 64 ∧ Q (.bl (!PyData.eqv d e)) H
theorem op_neP (hu : X.A.units + 64 < cLine) : OpR X (compareOp .NotEq) (rNeP X.K) := by
  intro pins s σ H x y v u Q I rx ry h
  obtain ⟨d, e, hd, he, sd, se, hm, q⟩ := h
  obtain ⟨as, r1⟩ := Dp.reads I d x v hd rx
  obtain ⟨bs, r2⟩ := Dp.reads I e y u he ry
  exact SeqAt.ne_plain r1 r2 sd se (by omega) ⟨.bl _, H, I, rfl, q⟩
end
end L2.Ow
end

section
set_option Elab.async false
set_option maxRecDepth 100000
set_option maxHeartbeats 4000000
/-! Od0: the text by places, what the top leaves, how runs and a Repeats stand in the heap. -/
namespace Ob
open PySem L2 L2.Ow
open Om (rep per plain Good sl)
/-! ### the text by places -/
def top (i : Nat) : Stmt := PySem.Challenge.pw_ownbranch_k58_whole_parts_hold_together.main.body.getD i (.Pass ⟨0, 0, 0, 0⟩)
abbrev sIsInt : Stmt := top 8
abbrev sIsText : Stmt := top 9
abbrev sIsPair : Stmt := top 15
abbrev sRoot : Stmt := top 16
abbrev sTidy : Stmt := top 17
abbrev sStretch : Stmt := top 18
abbrev sCut : Stmt := top 19
abbrev sSame : Stmt := top 20
abbrev sRunsI : Stmt := inClass (top 21) 0
abbrev sRepI : Stmt := inClass (top 22) 0
abbrev sLength : Stmt := inClass (top 22) 2
abbrev sItem : Stmt := inClass (top 22) 4
abbrev sPart : Stmt := inClass (top 22) 5
abbrev sCount : Stmt := inClass (top 22) 7
abbrev sAdd : Stmt := inClass (top 22) 9
abbrev sEq : Stmt := inClass (top 22) 11
abbrev sBool : Stmt := inClass (top 22) 12
abbrev sBag : Stmt := top 24
abbrev sTake : Stmt := top 25
abbrev sText : Stmt := top 26
abbrev sPairs : Stmt := top 27
abbrev sCuts : Stmt := top 29
abbrev sRight : Stmt := top 30
abbrev sLaw : Stmt := top 31
/-! ### what the top leaves: R the class Repeats, U the class Runs -/
structure Txt (K : PySem.W.Frag) (mg : Str → Option Value) (R U : Addr) : Prop where
  clR : Cls K R
  clU : Cls K U
  nRuns : NoAttr K R "runs"
  nTid : NoAttr K U "tidied"
  mgR : mg "Repeats" = some (.ref R)
  mgU : mg "Runs" = some (.ref U)
  cR : PySem.W.findIn K (.ref R) "__class__" = some (some (.builtin "object.__class__"))
  cU : PySem.W.findIn K (.ref U) "__class__" = some (some (.builtin "object.__class__"))
  cG : PySem.W.specialIn K (.builtin "object.__class__") "__get__" = some (some (.builtin "getset_descriptor.__get__"))
  cT : PySem.W.takesIn K (.builtin "object.__class__") = some true
  mR : PySem.W.mroIn K R (.type "object") = some true
  mU : PySem.W.mroIn K U (.type "object") = some true
  lU : PySem.W.kitOne K (.type "list") (.ref U) = some false
  items : ∃ t, mg "ITEMS" = some (.str "abcd" t)
  most : ∃ t, mg "MOST_TIMES" = some (.int (10 ^ 60) t)
  pairs : ∃ t, mg "MOST_PAIRS" = some (.int 50 t)
  lpart : ∃ t, mg "LONGEST_PART" = some (.int 20 t)
  len : mg "len" = none
  isi : mg "isinstance" = none
  all : mg "all" = none
  sum : mg "sum" = none
  min : mg "min" = none
  max : mg "max" = none
  dm : mg "divmod" = none
  abs : mg "abs" = none
  range : mg "range" = none
  zip : mg "zip" = none
  sorted : mg "sorted" = none
  bool : mg "bool" = none
  int : mg "int" = none
  str : mg "str" = none
  tuple : mg "tuple" = none
  list : mg "list" = none
/-! ### the heap -/
/-- a tuple (text, times) -/
def RunV (H : Hp) (v : V) (r : List Nat × Nat) : Prop := ∃ t, v = .ref t ∧ H t = some (.tup [.str (T r.1), .int (r.2 : Int)])
abbrev RunsV (H : Hp) (vs : List V) (rs : List (List Nat × Nat)) : Prop := Paired (RunV H) vs rs
theorem RunV.same {H H' : Hp} {v : V} {r : List Nat × Nat} (s : Same H H') (h : RunV H v r) : RunV H' v r := let ⟨t, e, h⟩ := h; ⟨t, e, s _ _ h⟩
theorem RunsV.same {H H' : Hp} {vs : List V} {rs : List (List Nat × Nat)} (s : Same H H') (h : RunsV H vs rs) : RunsV H' vs rs := Paired.mapP h fun _ _ q => RunV.same s q
theorem RunsV.length {H : Hp} {vs : List V} {rs : List (List Nat × Nat)} (h : RunsV H vs rs) : vs.length = rs.length := Paired.length h

theorem RunsV.app {H : Hp} : ∀ {vs ws : List V} {rs qs : List (List Nat × Nat)}, RunsV H vs rs → RunsV H ws qs → RunsV H (vs ++ ws) (rs ++ qs)
  | _, _, _, _, Paired.nil, k => k
  | _, _, _, _, .cons h t, k => .cons h (RunsV.app t k)
theorem RunsV.snoc {H : Hp} {vs : List V} {rs : List (List Nat × Nat)} {v : V} {r : List Nat × Nat} (h : RunsV H vs rs) (k : RunV H v r) : RunsV H (vs ++ [v]) (rs ++ [r]) := h.app (.cons k .nil)
theorem RunsV.get {H : Hp} : ∀ {vs : List V} {rs : List (List Nat × Nat)} {i : Nat} {v : V}, RunsV H vs rs → vs[i]? = some v → ∃ r, rs[i]? = some r ∧ RunV H v r
  | _, _, _, _, Paired.nil, e => by simp at e
  | _, _, 0, _, .cons h _, e => by
    have e1 := Option.some.inj e
    subst e1
    exact ⟨_, rfl, h⟩
  | _, _, i + 1, v, .cons _ t, e => RunsV.get (i := i) (v := v) t e
theorem RunsV.get' {H : Hp} : ∀ {vs : List V} {rs : List (List Nat × Nat)} {i : Nat} {r : List Nat × Nat}, RunsV H vs rs → rs[i]? = some r → ∃ v, vs[i]? = some v ∧ RunV H v r
  | _, _, _, _, Paired.nil, e => by simp at e
  | _, _, 0, _, .cons h _, e => by
    have e1 := Option.some.inj e
    subst e1
    exact ⟨_, rfl, h⟩
  | _, _, i + 1, r, .cons _ t, e => RunsV.get' (i := i) (r := r) t e
theorem RunsV.dropLast {H : Hp} : ∀ {vs : List V} {rs : List (List Nat × Nat)}, RunsV H vs rs → RunsV H vs.dropLast rs.dropLast
  | _, _, Paired.nil => Paired.nil
  | _, _, Paired.cons _ Paired.nil => Paired.nil
  | _, _, Paired.cons h (Paired.cons k t) => Paired.cons h (RunsV.dropLast (Paired.cons k t))
/-- a list of runs stands at a -/
def RunsAt (H : Hp) (a : Addr) (rs : List (List Nat × Nat)) : Prop := ∃ vs, H a = some (.lst vs) ∧ RunsV H vs rs
theorem RunsAt.same {H H' : Hp} {a : Addr} {rs : List (List Nat × Nat)} (s : Same H H') (h : RunsAt H a rs) : RunsAt H' a rs := let ⟨vs, e, h⟩ := h; ⟨vs, s _ _ e, h.same s⟩
/-- the attributes of a Repeats, of a Runs -/
def fR (l : Addr) : List (Str × V) := putF "runs" (.ref l) []
def fU (l : Addr) : List (Str × V) := putF "tidied" (.ref l) []
theorem fR_runs (l : Addr) : (fR l).lookup ("runs" : Str) = some (.ref l) := by
  unfold fR
  rw [lookup_putF, if_pos rfl]
theorem fR_no (l : Addr) {m : Str} (h : ¬ m = "runs") : (fR l).lookup m = none := by
  unfold fR
  rw [lookup_putF, if_neg h]
  all_goals rfl
theorem fU_tid (l : Addr) : (fU l).lookup ("tidied" : Str) = some (.ref l) := by
  unfold fU
  rw [lookup_putF, if_pos rfl]
/-- a Repeats that holds L, in at most n runs, stands at p -/
def RepAt (R : Addr) (H : Hp) (p : Addr) (L : List Nat) (n : Nat) : Prop := ∃ dx l rs, H p = some (.ins R dx (fR l)) ∧ RunsAt H l rs ∧ Good rs ∧ rs.length ≤ n ∧ plain rs = L
theorem RepAt.same {R : Addr} {H H' : Hp} {p : Addr} {L : List Nat} {n : Nat} (s : Same H H') (h : RepAt R H p L n) : RepAt R H' p L n := let ⟨dx, l, rs, e, a, g, z, q⟩ := h; ⟨dx, l, rs, s _ _ e, a.same s, g, z, q⟩
theorem RepAt.mono {R : Addr} {H : Hp} {p : Addr} {L : List Nat} {n m : Nat} (h : RepAt R H p L n) (k : n ≤ m) : RepAt R H p L m := let ⟨dx, l, rs, e, a, g, z, q⟩ := h; ⟨dx, l, rs, e, a, g, Nat.le_trans z k, q⟩
theorem same_upd {H : Hp} {p : Addr} {o : HO} (h : H p = none) : Same H (upd H p o) := fun b x e => by
  rw [upd_ne (ne_of_none e h)]
  exact e
/-- all but what stands at a -/
def But (a : Addr) (H H' : Hp) : Prop := ∀ b o, b ≠ a → H b = some o → H' b = some o
theorem But.refl {a : Addr} {H : Hp} : But a H H := fun _ _ _ h => h
theorem But.trans {a : Addr} {H H1 H2 : Hp} (x : But a H H1) (y : But a H1 H2) : But a H H2 := fun b o n h => y b o n (x b o n h)
theorem But.of {a : Addr} {H H' : Hp} (s : Same H H') : But a H H' := fun b o _ h => s b o h
theorem But.upd {a : Addr} {H : Hp} {o : HO} : But a H (upd H a o) := fun b x n h => by rw [upd_ne n]; exact h
/-- a list that was made here is written: what stood before stays -/
theorem same_write {H H1 : Hp} {p : Addr} {o : HO} (s : Same H H1) (h : H p = none) : Same H (upd H1 p o) := fun b x e => by
  rw [upd_ne (ne_of_none e h)]
  exact s b x e
end Ob
end

section
set_option Elab.async false
set_option maxRecDepth 100000
set_option maxHeartbeats 4000000
/-! Od1: is_integer, is_text, is_pair. -/
namespace Ob
open PySem L2 L2.Ow
section
variable {P : Program} {w : World} {K : PySem.W.Frag} {mg : Str → Option Value} {base : Heap} {R U : Addr}
/-! ### is_integer -/
def spIsInt : Sp := fun vs H Q _ => ∃ (i lo hi : Int), vs = [.int i, .int lo, .int hi] ∧ lo ≤ i ∧ i ≤ hi ∧ Q (.bl true) H
theorem scIsInt : FnScope ["thing", "least", "most"] ["thing", "least", "most"] (defScope sIsInt) := ⟨rfl, rfl, rfl, by decide +kernel, rfl, by decide +kernel, by decide +kernel⟩
theorem ok_isInt {f : Addr} {fd : FuncData} (F : Fun K "is_integer" "is_integer" sIsInt f fd) (T : Txt K mg R U) : FnOk P w K mg base CX0 1 f fd ["thing", "least", "most"] spIsInt := by
  refine F.ok scIsInt (fun vs H Q E h => ?_) (fun cdv A outer s H vs Q E hr h => ?_)
  · obtain ⟨i, lo, hi, rfl, _⟩ := h
    rfl
  · obtain ⟨i, lo, hi, rfl, h1, h2, k⟩ := h
    refine ⟨_, pss_one (ps_ret (pe_and (pe_callB call_isi (by rfl) T.isi (by decide +kernel) (pa_cons (pv 0) (pa_cons (pe_bltn (v := .ty "int") (by rfl) T.int (by decide +kernel) rfl) pa_nil)))
      (pe_and (pe_not (pe_callB call_isi (by rfl) T.isi (by decide +kernel) (pa_cons (pv 0) (pa_cons (pe_bltn (v := .ty "bool") (by rfl) T.bool (by decide +kernel) rfl) pa_nil))))
        (pe_one (pe_chain op_le op_le (pv 1) (pv 0) (pv 2)))))), ?_⟩
    refine ⟨_, rfl, _, _, .type "int", .type "int", true, rfl, .ty _, .base (.int i), kit_ty (by decide +kernel), true, rfl, iteT ?_⟩
    refine ⟨_, rfl, _, _, .type "int", .type "bool", false, rfl, .ty _, .base (.int i), kit_ty (by decide +kernel), false, rfl, true, rfl, iteT ?_⟩
    refine ⟨_, rfl, _, rfl, _, _, rfl, rfl, true, congrArg V.bl (decide_eq_true h1), iteT ?_⟩
    refine ⟨_, rfl, _, _, rfl, rfl, ?_⟩
    show Q (V.bl (decide (i ≤ hi))) H
    rw [decide_eq_true h2]
    exact k
/-! ### is_text -/
/-- signs of ITEMS -/
def Abc (p : List Nat) : Prop := ∀ c ∈ p, c = 97 ∨ c = 98 ∨ c = 99 ∨ c = 100
def spIsText : Sp := fun vs H Q _ => ∃ (p : List Nat), vs = [.str (T p)] ∧ Abc p ∧ p.length ≤ 2000 ∧ ∀ H', Same H H' → Q (.bl true) H'
theorem abcd_eq : (("abcd" : Str)).cps.toList = [97, 98, 99, 100] := by decide +kernel
theorem scIsText : FnScope ["thing", "letter"] ["thing"] (defScope sIsText) := ⟨rfl, rfl, rfl, by decide +kernel, rfl, by decide +kernel, by decide +kernel⟩
theorem ok_isText {f : Addr} {fd : FuncData} (F : Fun K "is_text" "is_text" sIsText f fd) (T : Txt K mg R U) : FnOk P w K mg base CX0 1 f fd ["thing"] spIsText := by
  refine F.ok scIsText (fun vs H Q E h => ?_) (fun cdv A outer s H vs Q E hr h => ?_)
  · obtain ⟨p, rfl, _⟩ := h
    rfl
  · obtain ⟨p, rfl, h1, h2, k⟩ := h
    obtain ⟨ti, hti⟩ := T.items
    refine ⟨_, pss_one (ps_ret (pe_and (pe_callB call_isi (by rfl) T.isi (by decide +kernel) (pa_cons (pv 0) (pa_cons (pe_bltn (v := .ty "str") (by rfl) T.str (by decide +kernel) rfl) pa_nil)))
      (pe_one (pe_callB (cr_all rfl) (by rfl) T.all (by decide +kernel) (pa_cons (pe_lc (own := [("letter", 1)]) (g := gName 1) (tt := tYes) rfl scIsText.nd (pi_str (pv 0)) (blkOk_by (N := ["thing", "letter"]) (sc := defScope sIsText) (by decide +kernel))
        (fun _ _ _ _ _ => pg_name (i := 1) scIsText.nd rfl (Or.inl rfl)) (fun _ _ _ _ _ => pts_nil)
        (fun _ _ _ _ _ => pe_cmpR op_in_sign (pv 1) (pe_glob (v := .str "abcd") (by rfl) hti ⟨_, rfl⟩) (by rfl))) pa_nil))))), ?_⟩
    refine ⟨_, rfl, _, _, .type "str", .type "str", true, rfl, .ty _, .base (.str _), kit_ty (by decide +kernel), true, rfl, iteT ?_⟩
    refine ⟨_, rfl, _, rfl, fun D hD => lc_m (p.length) (fun i H' => Same H H' ∧ H' D = some (.lst ((List.replicate i true).map V.bl))) ⟨same_upd hD, upd_same⟩
      (fun i H' hi _ => by show i < p.toArray.size; simpa using hi) (fun H' _ => by show p.toArray.size ≤ p.length; simp) (fun i x H1 H' hi ⟨s1, e1⟩ y => ?_) (fun H' ⟨s1, e1⟩ => ?_) (mono_name 1)⟩
    · obtain ⟨rfl, c, hc, rfl⟩ := y
      have hc' : p[i]? = some c := by simpa using hc
      have hm : c ∈ [97, 98, 99, 100] := by
        have := h1 c (List.mem_of_getElem? hc')
        simp
        exact this
      refine ⟨rfl, _, rfl, c, _, rfl, rfl, ?_⟩
      rw [abcd_eq, decide_eq_true hm]
      refine ⟨_, e1, by rw [List.length_map, List.length_replicate]; exact small1e6 (by omega), same_write s1 hD, ?_⟩
      rw [upd_same, List.replicate_succ', List.map_append]
      rfl
    · refine ⟨D, _, rfl, SqL.of e1, ?_⟩
      have ea : (List.replicate p.length true).all id = true := by simp
      rw [ea]
      exact k _ s1
end
end Ob
end

section
set_option Elab.async false
set_option maxRecDepth 100000
set_option maxHeartbeats 4000000
/-! Od2: is_pair, root, stretch, cut. -/
namespace Ob
open PySem L2 L2.Ow
open Om (rep per plain Good sl)
section
variable {P : Program} {w : World} {K : PySem.W.Frag} {mg : Str → Option Value} {base : Heap} {R U : Addr}
/-! ### is_pair -/
def spIsPair : Sp := fun vs H Q _ => ∃ (t : Addr) (p : List Nat) (n : Nat), vs = [.ref t] ∧ H t = some (.tup [.str (T p), .int (n : Int)]) ∧ Abc p ∧ p.length ≤ 20 ∧ n ≤ 10 ^ 60 ∧ ∀ H', Same H H' → Q (.bl true) H'
theorem scIsPair : FnScope ["thing", "part", "times"] ["thing"] (defScope sIsPair) := ⟨rfl, rfl, rfl, by decide +kernel, rfl, by decide +kernel, by decide +kernel⟩
theorem ok_isPair {f fT fI : Addr} {fd fdT fdI : FuncData} (F : Fun K "is_pair" "is_pair" sIsPair f fd) (Z : Txt K mg R U)
    (FT : Fun K "is_text" "is_text" sIsText fT fdT) (bT : Binds K fdT ["thing"] []) (gT : mg "is_text" = some (.ref fT))
    (FI : Fun K "is_integer" "is_integer" sIsInt fI fdI) (bI : Binds K fdI ["thing", "least", "most"] []) (gI : mg "is_integer" = some (.ref fI)) : FnOk P w K mg base CX0 2 f fd ["thing"] spIsPair := by
  have GT : FnOk P w K mg base CX0 1 fT fdT ["thing"] spIsText := ok_isText FT Z
  have GI : FnOk P w K mg base CX0 1 fI fdI ["thing", "least", "most"] spIsInt := ok_isInt FI Z
  refine F.ok scIsPair (fun vs H Q E h => ?_) (fun cdv A outer s H vs Q E hr h => ?_)
  · obtain ⟨t, p, n, rfl, _⟩ := h
    rfl
  · obtain ⟨t, p, n, rfl, ht, ha, hp, hn, k⟩ := h
    obtain ⟨tl, htl⟩ := Z.lpart
    obtain ⟨tm, htm⟩ := Z.most
    refine ⟨_, pss_cons (ps_if (PW.pt (pw_or (pt_not (pt_val (pe_callB call_isi (by rfl) Z.isi (by decide +kernel) (pa_cons (pv 0) (pa_cons (pe_bltn (v := .ty "tuple") (by rfl) Z.tuple (by decide +kernel) rfl) pa_nil)))))
        (pw_or1 (pt_cmpR op_ne (pe_callB call_len_seq (by rfl) Z.len PySem.boot_len (pa_cons (pv 0) pa_nil)) pe_int (nomark _))))) (pss_one (ps_ret pe_bl)) pss_nil)
      (pss_cons (ps_asg (pv 0) (pg_tup rfl (pgs_cons (pg_name (i := 1) scIsPair.nd rfl (.inl rfl)) (pgs_cons (pg_name (i := 2) scIsPair.nd rfl (.inl rfl)) pgs_nil))))
      (pss_one (ps_ret (pe_and (pe_call GT hr (by rfl) gT FT.kp bT .nil pass0 (pa_cons (pv 1) pa_nil))
        (pe_and (pe_cmpR op_le (pe_callB call_len_str (by rfl) Z.len PySem.boot_len (pa_cons (pv 1) pa_nil)) (pe_glob (v := .int 20) (by rfl) htl ⟨_, rfl⟩) (nomark _))
          (pe_one (pe_call GI hr (by rfl) gI FI.kp bI .nil pass0 (pa_cons (pv 2) (pa_cons pe_int (pa_cons (pe_glob (v := .int (10 ^ 60)) (by rfl) htm ⟨_, rfl⟩) pa_nil)))))))))), ?_⟩
    refine ⟨_, rfl, _, _, .type "tuple", .type "tuple", true, rfl, .ty _, .base (.tup ht), kit_ty (by decide +kernel), true, rfl, iteF ?_⟩
    refine ⟨_, rfl, t, _, rfl, .inr (SqT.of ht), rfl, _, rfl, iteF ?_⟩
    refine ⟨_, rfl, t, _, rfl, SqT.of ht, rfl, _, _, rfl, _, _, rfl, rfl, ?_⟩
    refine ⟨_, rfl, p, rfl, ha, by omega, fun H1 s1 => ?_⟩
    refine ⟨true, rfl, iteT ?_⟩
    refine ⟨_, rfl, _, rfl, by rw [T_len]; exact Nat.le_of_lt (small1e6 (by omega)), _, _, rfl, rfl, ?_⟩
    have e20 : decide (((Ow.T p).length : Int) ≤ 20) = true := decide_eq_true (by rw [T_len]; omega)
    refine ⟨true, congrArg V.bl e20, iteT ?_⟩
    refine ⟨_, rfl, (n : Int), 0, 10 ^ 60, rfl, by omega, ?_, k _ s1⟩
    have := Int.ofNat_le.mpr hn
    simpa using this

/-! ### root -/
def spRoot : Sp := fun vs H Q _ => ∃ (p : List Nat), vs = [.str (T p)] ∧ 1 ≤ p.length ∧ p.length ≤ 20 ∧
  ∀ q, 1 ≤ q.length → q.length ≤ p.length → p.length % q.length = 0 → rep (p.length / q.length) q = p → Q (.str (T q)) H
theorem scRoot : FnScope ["part"] ["part"] (defScope sRoot) := ⟨rfl, rfl, rfl, by decide +kernel, rfl, by decide +kernel, by decide +kernel⟩
theorem cutS_T (p : List Nat) (lo hi : Option Int) : cutS (T p) lo hi = T ((p.drop (HT.sIx p.length 0 lo)).take (HT.sIx p.length p.length hi - HT.sIx p.length 0 lo)) := by
  unfold cutS
  rw [T_len]
theorem ok_root {f : Addr} {fd : FuncData} (F : Fun K "root" "root" sRoot f fd) : FnOk P w K mg base CX0 1 f fd ["part"] spRoot := by
  refine F.ok scRoot (fun vs H Q E h => ?_) (fun cdv A outer s H vs Q E hr h => ?_)
  · obtain ⟨p, rfl, _⟩ := h
    rfl
  · obtain ⟨p, rfl, h1, h2, k⟩ := h
    obtain ⟨i, ef, i1, i2, i3, i4⟩ := find_turn (p := p) (by omega)
    refine ⟨_, pss_one (ps_ret (pe_slice sl_str (pv 0) po_none (po_some (pe_bm PySem.F.plainAttrs_str PySem.F.slot_str_find PySem.F.type_str_find mt_find3 (pe_op op_add_str (pv 0) (pv 0)) (pa_cons (pv 0) (pa_cons pe_int pa_nil)))))), ?_⟩
    have hl : (Ow.T p).length = p.length := T_len p
    refine ⟨_, rfl, _, rfl, _, rfl, _, _, rfl, rfl, by rw [hl]; exact Nat.le_of_lt (small1e6 (by omega)), ?_⟩
    refine ⟨rfl, _, rfl, _, _, _, rfl, rfl, _, rfl, _, rfl, by rw [hl]; exact Nat.le_of_lt (small1e6 (by omega)), ?_⟩
    show Q (V.str (cutS (Ow.T p) none (some (Txt.find3 (Ow.T p ++ Ow.T p) (Ow.T p) 1)))) H
    have ec : cutS (Ow.T p) none (some (Txt.find3 (Ow.T p ++ Ow.T p) (Ow.T p) 1)) = Ow.T (p.take i) := by
      rw [ef, cutS_T, HT.sIx_none, HT.sIx_nat, Nat.min_eq_left i2, Nat.sub_zero, List.drop_zero]
    rw [ec]
    have el : (p.take i).length = i := by rw [List.length_take]; omega
    exact k _ (by omega) (by omega) (by rw [el]; exact i3) (by rw [el]; exact i4)

/-! ### stretch -/
def spStretch : Sp := fun vs H Q _ => ∃ (p : List Nat) (i n : Nat), vs = [.str (T p), .int (i : Int), .int (n : Int)] ∧ 1 ≤ p.length ∧ p.length ≤ 20 ∧ n ≤ 100 ∧ Q (.str (T (per p i n))) H
theorem scStretch : FnScope ["part", "first", "many", "offset", "copies"] ["part", "first", "many"] (defScope sStretch) := ⟨rfl, rfl, rfl, by decide +kernel, rfl, by decide +kernel, by decide +kernel⟩
theorem ok_stretch {f : Addr} {fd : FuncData} (F : Fun K "stretch" "stretch" sStretch f fd) (Z : Txt K mg R U) : FnOk P w K mg base CX0 1 f fd ["part", "first", "many"] spStretch := by
  refine F.ok scStretch (fun vs H Q E h => ?_) (fun cdv A outer s H vs Q E hr h => ?_)
  · obtain ⟨p, i, n, rfl, _⟩ := h
    rfl
  · obtain ⟨p, i, n, rfl, h1, h2, h3, k⟩ := h
    refine ⟨_, pss_cons (ps_set (i := 3) scStretch.nd rfl (Or.inl rfl) (pe_op op_mod (pv 1) (pe_callB call_len_str (by rfl) Z.len PySem.boot_len (pa_cons (pv 0) pa_nil))))
      (pss_cons (ps_set (i := 4) scStretch.nd rfl (Or.inl rfl) (pe_op op_add (pe_op op_fdiv (pe_op op_add (pv 3) (pv 2)) (pe_callB call_len_str (by rfl) Z.len PySem.boot_len (pa_cons (pv 0) pa_nil))) pe_int))
      (pss_one (ps_ret (pe_slice sl_str (pe_op op_mulS (pv 0) (pv 4)) (po_some (pv 3)) (po_some (pe_op op_add (pv 3) (pv 2))))))), ?_⟩
    have hl : (Ow.T p).length = p.length := T_len p
    have hz : (Ow.T p).length ≤ sizeLine := by rw [hl]; exact Nat.le_of_lt (small1e6 (by omega))
    refine ⟨_, rfl, _, rfl, _, rfl, hz, _, _, rfl, rfl, by rw [hl]; omega, ?_⟩
    have e1 : ((i : Int) % ((Ow.T p).length : Int)) = ((i % p.length : Nat) : Int) := by rw [hl]; exact (Int.natCast_emod i p.length).symm
    refine ⟨_, rfl, _, rfl, _, _, rfl, rfl, _, rfl, _, rfl, hz, _, _, rfl, rfl, ⟨by rw [hl]; omega, by rw [hl]; omega⟩, _, _, rfl, rfl, ?_⟩
    have e2 : (((i : Int) % ((Ow.T p).length : Int)) + (n : Int)) / ((Ow.T p).length : Int) + 1 = (((i % p.length + n) / p.length + 1 : Nat) : Int) := by
      rw [e1, hl]
      simp
    have hm : i % p.length < p.length := Nat.mod_lt _ (by omega)
    have hd : (i % p.length + n) / p.length ≤ 120 := Nat.le_trans (Nat.div_le_self _ _) (by omega)
    refine ⟨_, rfl, _, rfl, p, (i % p.length + n) / p.length + 1, rfl, congrArg V.int e2, Nat.succ_le_succ (Nat.zero_le _), by omega, by omega, ?_⟩
    refine ⟨_, rfl, _, rfl, _, rfl, _, rfl, _, _, rfl, rfl, _, rfl, _, rfl, ?_, ?_⟩
    · rw [T_len, Om.rep_length]
      have : ((i % p.length + n) / p.length + 1) * p.length ≤ 121 * 20 := Nat.mul_le_mul (by omega) h2
      exact Nat.le_of_lt (small1e6 (by omega))
    · have hk : i % p.length + n ≤ ((i % p.length + n) / p.length + 1) * p.length := by
        have a1 := Nat.div_add_mod (i % p.length + n) p.length
        have a2 := Nat.mod_lt (i % p.length + n) (show p.length > 0 by omega)
        rw [Nat.succ_mul, Nat.mul_comm]
        omega
      have ec : cutS (Ow.T (rep ((i % p.length + n) / p.length + 1) p)) (some ((i : Int) % ((Ow.T p).length : Int))) (some (((i : Int) % ((Ow.T p).length : Int)) + (n : Int))) = Ow.T (per p i n) := by
        have e3 : (((i % p.length : Nat) : Int) + (n : Int)) = ((i % p.length + n : Nat) : Int) := by simp
        rw [e1, e3, cutS_T, HT.sIx_nat, HT.sIx_nat, Om.rep_length, Nat.min_eq_left hk, Nat.min_eq_left (Nat.le_trans (Nat.le_add_right _ n) hk), Nat.add_sub_cancel_left, Om.stretch_eq (by omega)]
      show Q (V.str (cutS (Ow.T (rep ((i % p.length + n) / p.length + 1) p)) (some ((i : Int) % ((Ow.T p).length : Int))) (some (((i : Int) % ((Ow.T p).length : Int)) + (n : Int))))) H
      rw [ec]
      exact k
end
end Ob
end

section
set_option Elab.async false
set_option maxRecDepth 100000
set_option maxHeartbeats 4000000
/-! Od3: cut. -/
namespace Ob
open PySem L2 L2.Ow
open Om (rep per plain Good sl)
section
variable {P : Program} {w : World} {K : PySem.W.Frag} {mg : Str → Option Value} {base : Heap} {R U : Addr}
/-- short texts -/
def Short (rs : List (List Nat × Nat)) : Prop := ∀ r ∈ rs, r.1.length ≤ 20
def spCut : Sp := fun vs H Q _ => ∃ (p : List Nat) (b e : Nat), vs = [.str (T p), .int (b : Int), .int (e : Int)] ∧ 1 ≤ p.length ∧ p.length ≤ 20 ∧ b ≤ e ∧
  ∀ H' a rs, Same H H' → H a = none → RunsAt H' a rs → Short rs → rs.length ≤ 3 → plain rs = per p b (e - b) → Q (.ref a) H'
theorem scCut : FnScope ["part", "begin", "end", "first", "offset", "last", "rest"] ["part", "begin", "end"] (defScope sCut) := ⟨rfl, rfl, rfl, by decide +kernel, rfl, by decide +kernel, by decide +kernel⟩
theorem ok_cut {f : Addr} {fd : FuncData} (F : Fun K "cut" "cut" sCut f fd) (Z : Txt K mg R U) : FnOk P w K mg base CX0 1 f fd ["part", "begin", "end"] spCut := by
  refine F.ok scCut (fun vs H Q E h => ?_) (fun cdv A outer s H vs Q E hr h => ?_)
  · obtain ⟨p, b, e, rfl, _⟩ := h
    rfl
  · obtain ⟨p, b, e, rfl, h1, h2, hbe, k⟩ := h
    refine ⟨_, pss_cons (ps_asg (pe_callB call_divmod (by rfl) Z.dm (by decide +kernel) (pa_cons (pv 1) (pa_cons (pe_callB call_len_str (by rfl) Z.len PySem.boot_len (pa_cons (pv 0) pa_nil)) pa_nil)))
        (pg_tup rfl (pgs_cons (pg_name (i := 3) scCut.nd rfl (.inl rfl)) (pgs_cons (pg_name (i := 4) scCut.nd rfl (.inl rfl)) pgs_nil))))
      (pss_cons (ps_asg (pe_callB call_divmod (by rfl) Z.dm (by decide +kernel) (pa_cons (pv 2) (pa_cons (pe_callB call_len_str (by rfl) Z.len PySem.boot_len (pa_cons (pv 0) pa_nil)) pa_nil)))
        (pg_tup rfl (pgs_cons (pg_name (i := 5) scCut.nd rfl (.inl rfl)) (pgs_cons (pg_name (i := 6) scCut.nd rfl (.inl rfl)) pgs_nil))))
      (pss_cons (ps_if (pt_cmpR op_eq (pv 3) (pv 5) (nomark _)) (pss_one (ps_ret (pe_lst (pa_cons (pe_tup (pa_cons (pe_slice sl_str (pv 0) (po_some (pv 4)) (po_some (pv 6))) (pa_cons pe_int pa_nil))) pa_nil)))) pss_nil)
      (pss_one (ps_ret (pe_lst (pa_cons (pe_tup (pa_cons (pe_slice sl_str (pv 0) (po_some (pv 4)) po_none) (pa_cons pe_int pa_nil)))
        (pa_cons (pe_tup (pa_cons (pv 0) (pa_cons (pe_op op_sub (pe_op op_sub (pv 5) (pv 3)) pe_int) pa_nil)))
        (pa_cons (pe_tup (pa_cons (pe_slice sl_str (pv 0) po_none (po_some (pv 6))) (pa_cons pe_int pa_nil))) pa_nil)))))))), ?_⟩
    have hl : (Ow.T p).length = p.length := T_len p
    have hz : (Ow.T p).length ≤ sizeLine := by rw [hl]; exact Nat.le_of_lt (small1e6 (by omega))
    have hp : 0 < p.length := by omega
    have hd : CDiv (b : Int) ((Ow.T p).length : Int) := ⟨by rw [hl]; omega, by rw [hl]; omega⟩
    have hd2 : CDiv (e : Int) ((Ow.T p).length : Int) := ⟨by rw [hl]; omega, by rw [hl]; omega⟩
    have q1 : ((b : Int) / ((Ow.T p).length : Int)) = ((b / p.length : Nat) : Int) := by rw [hl]; exact (Int.natCast_ediv b p.length).symm
    have q2 : ((e : Int) / ((Ow.T p).length : Int)) = ((e / p.length : Nat) : Int) := by rw [hl]; exact (Int.natCast_ediv e p.length).symm
    have m1 : ((b : Int) % ((Ow.T p).length : Int)) = ((b % p.length : Nat) : Int) := by rw [hl]; exact (Int.natCast_emod b p.length).symm
    have m2 : ((e : Int) % ((Ow.T p).length : Int)) = ((e % p.length : Nat) : Int) := by rw [hl]; exact (Int.natCast_emod e p.length).symm
    have b1 := Nat.mod_lt b hp
    have b2 := Nat.mod_lt e hp
    refine ⟨_, rfl, _, rfl, _, rfl, hz, _, _, rfl, hd, fun t1 n1 => ?_⟩
    have s1 : Same H (upd H t1 (.tup [.int ((b : Int) / ((Ow.T p).length : Int)), .int ((b : Int) % ((Ow.T p).length : Int))])) := same_upd n1
    refine ⟨t1, _, rfl, SqT.of upd_same, rfl, _, _, rfl, _, _, rfl, rfl, ?_⟩
    refine ⟨_, rfl, _, rfl, _, rfl, hz, _, _, rfl, hd2, fun t2 n2 => ?_⟩
    have s2 := s1.trans (same_upd (o := .tup [.int ((e : Int) / ((Ow.T p).length : Int)), .int ((e : Int) % ((Ow.T p).length : Int))]) n2)
    refine ⟨t2, _, rfl, SqT.of upd_same, rfl, _, _, rfl, _, _, rfl, rfl, ?_⟩
    refine ⟨_, rfl, _, rfl, rfl, _, rfl, ite2 (fun c => ?_) (fun c => ?_)⟩
    · have hc : b / p.length = e / p.length := by
        have c' := V.int.inj (of_decide_eq_true c)
        rw [q1, q2] at c'
        omega
      refine ⟨_, rfl, _, rfl, _, rfl, _, rfl, _, rfl, _, rfl, hz, (by show 2 ≤ sizeLine; decide), fun t3 n3 => ⟨(by show 1 ≤ sizeLine; decide), fun a na => ?_⟩⟩
      have ec : cutS (Ow.T p) (some ((b : Int) % ((Ow.T p).length : Int))) (some ((e : Int) % ((Ow.T p).length : Int))) = Ow.T (per p b (e - b)) := by
        rw [m1, m2, cutS_T, HT.sIx_nat, HT.sIx_nat, Nat.min_eq_left (Nat.le_of_lt b1), Nat.min_eq_left (Nat.le_of_lt b2), ← Om.cut_same hp hbe hc, List.drop_take]
      rw [ec] at na ⊢
      have s3 := s2.trans (same_upd (o := .tup [.str (Ow.T (per p b (e - b))), .int 1]) n3)
      refine k _ a [(per p b (e - b), 1)] (s3.trans (same_upd na)) ?_ ⟨_, upd_same, .cons ⟨t3, rfl, ?_⟩ .nil⟩ ?_ (by simp) ?_
      · exact s3.free na
      · rw [upd_ne (ne_of_none upd_same na), upd_same]
        rfl
      · intro r hr'
        rw [List.mem_singleton.mp hr', Om.per_length]
        have a1 := Nat.div_add_mod b p.length
        have a2 := Nat.div_add_mod e p.length
        rw [hc] at a1
        omega
      · rw [Om.plain_one, Om.rep_one]
    · have hc : b / p.length ≠ e / p.length := fun z => c (by rw [q1, q2, z]; exact decide_eq_true rfl)
      obtain ⟨ep, hle⟩ := Om.cut_apart hp hbe hc
      refine ⟨_, rfl, _, rfl, _, rfl, _, rfl, hz, (by show 2 ≤ sizeLine; decide), fun t3 n3 => ?_⟩
      refine ⟨_, rfl, _, rfl, _, rfl, _, _, rfl, rfl, _, _, rfl, rfl, (by show 2 ≤ sizeLine; decide), fun t4 n4 => ?_⟩
      refine ⟨_, rfl, _, rfl, _, rfl, _, rfl, hz, (by show 2 ≤ sizeLine; decide), fun t5 n5 => ⟨(by show 3 ≤ sizeLine; decide), fun a na => ?_⟩⟩
      have ea : cutS (Ow.T p) (some ((b : Int) % ((Ow.T p).length : Int))) none = Ow.T (p.drop (b % p.length)) := by
        rw [m1, cutS_T, HT.sIx_nat, HT.sIx_none, Nat.min_eq_left (Nat.le_of_lt b1), List.take_of_length_le (by rw [List.length_drop]; omega)]
      have eb : cutS (Ow.T p) none (some ((e : Int) % ((Ow.T p).length : Int))) = Ow.T (p.take (e % p.length)) := by
        rw [m2, cutS_T, HT.sIx_nat, HT.sIx_none, Nat.min_eq_left (Nat.le_of_lt b2), List.drop_zero, Nat.sub_zero]
      have em : (fun i j => V.int (i - j)) ((e : Int) / ((Ow.T p).length : Int) - (b : Int) / ((Ow.T p).length : Int)) 1 = V.int ((e / p.length - b / p.length - 1 : Nat) : Int) := by
        show V.int ((e : Int) / ((Ow.T p).length : Int) - (b : Int) / ((Ow.T p).length : Int) - 1) = _
        rw [q1, q2]
        congr 1
        omega
      have x3 := (same_upd n4).trans ((same_upd n5).trans (same_upd (o := .lst [.ref t3, .ref t4, .ref t5]) na)) _ _ upd_same
      have x4 := (same_upd n5).trans (same_upd (o := .lst [.ref t3, .ref t4, .ref t5]) na) _ _ upd_same
      have x5 := (same_upd (o := .lst [.ref t3, .ref t4, .ref t5]) na) _ _ upd_same
      have fa : H a = none := Same.free (s2.trans ((same_upd n3).trans ((same_upd n4).trans (same_upd n5)))) na
      refine k _ a [(p.drop (b % p.length), 1), (p, e / p.length - b / p.length - 1), (p.take (e % p.length), 1)] (s2.trans ((same_upd n3).trans ((same_upd n4).trans ((same_upd n5).trans (same_upd na))))) fa
        ⟨_, upd_same, .cons ⟨t3, rfl, ?_⟩ (.cons ⟨t4, rfl, ?_⟩ (.cons ⟨t5, rfl, ?_⟩ .nil))⟩ ?_ (Nat.le_refl _) ?_
      · rw [x3, ea]
        rfl
      · rw [x4, em]
      · rw [x5, eb]
        rfl
      · intro r hr'
        simp only [List.mem_cons, List.not_mem_nil, or_false] at hr'
        rcases hr' with z | z | z
        · rw [z, List.length_drop]; omega
        · rw [z]; exact h2
        · rw [z, List.length_take]; omega
      · rw [Om.plain, Om.plain, Om.plain_one, Om.rep_one, Om.rep_one]
        exact ep
end
end Ob
end

section
set_option Elab.async false
set_option maxRecDepth 100000
set_option maxHeartbeats 4000000
/-! Od4: tidy. -/
namespace Ob
open PySem L2 L2.Ow
open Om (rep per plain Good sl)
def runD (r : List Nat × Nat) : PyData := .tuple [.str (T r.1), .int (r.2 : Int)]
theorem dp_run {K : PySem.W.Frag} {H : Hp} {v : V} {r : List Nat × Nat} (h : RunV H v r) : Dp K H v (runD r) := by
  obtain ⟨t, rfl, h⟩ := h
  exact .tup (SqT.of h) (.cons (.str _) (.cons (.int _) .nil))
theorem dpAll_runs {K : PySem.W.Frag} {H : Hp} : ∀ {vs : List V} {rs : List (List Nat × Nat)}, RunsV H vs rs → DpAll K H vs (rs.map runD)
  | _, _, Paired.nil => .nil
  | _, _, Paired.cons h t => .cons (dp_run h) (dpAll_runs t)
theorem plainAll_runs : ∀ rs : List (List Nat × Nat), PyData.plainAll (rs.map runD) = true
  | [] => rfl
  | r :: rs => by
    show (true && PyData.plainAll (rs.map runD)) = true
    rw [plainAll_runs rs]
    rfl
theorem eqv_runs_nil (rs : List (List Nat × Nat)) : PyData.eqv (.list (rs.map runD)) (.list []) = rs.isEmpty := by
  cases rs with
  | nil => rfl
  | cons r rs => rfl
theorem T_nil_iff (p : List Nat) : (T p = ("" : Str)) ↔ p = [] := by
  have e : ("" : Str) = T [] := by decide +kernel
  rw [e]
  exact ⟨T_inj, fun h => by rw [h]⟩
section
variable {P : Program} {w : World} {K : PySem.W.Frag} {mg : Str → Option Value} {base : Heap} {R U : Addr}
def spTidy : Sp := fun vs H Q _ => ∃ (a : Addr) (prs : List (List Nat × Nat)), vs = [.ref a] ∧ RunsAt H a prs ∧ Short prs ∧ prs.length ≤ 100000 ∧
  ∀ H' l rs, Same H H' → H l = none → RunsAt H' l rs → Good rs → rs.length ≤ prs.length → plain rs = plain prs → Q (.ref l) H'
theorem scTidy : FnScope ["pairs", "found", "part", "times", "short", "many"] ["pairs"] (defScope sTidy) := ⟨rfl, rfl, rfl, by decide +kernel, rfl, by decide +kernel, by decide +kernel⟩
/-- the word of tidy's loop -/
structure WTidy (H : Hp) (a l : Addr) (prs : List (List Nat × Nat)) (i : Nat) (σ : L2.St) (H' : Hp) : Prop where
  st : ∃ y2 y3 y4 y5, σ = [some (.ref a), some (.ref l), y2, y3, y4, y5]
  same : Same H H'
  li : ∃ vs rs, H' l = some (.lst vs) ∧ RunsV H' vs rs ∧ Good rs ∧ rs.length ≤ i ∧ plain rs = plain (prs.take i)
theorem wt_app {H H4 : Hp} {a l t' : Addr} {prs rs' : List (List Nat × Nat)} {vs' : List V} {i m : Nat} {q : List Nat} {σ : L2.St} (st : ∃ y2 y3 y4 y5, σ = [some (.ref a), some (.ref l), y2, y3, y4, y5]) (nl : H l = none)
    (s4 : Same H H4) (e4 : H4 l = some (.lst vs')) (hv : RunsV H4 vs' rs') (hg : Good rs') (hl : rs'.length ≤ i) (hm : 1 ≤ m) (hq1 : 1 ≤ q.length) (hq2 : q.length ≤ 20) (hp : plain rs' ++ rep m q = plain (prs.take (i + 1))) (nt : H4 t' = none) {z : V} (hz : z = .int (m : Int)) :
    WTidy H a l prs (i + 1) σ (upd (upd H4 t' (.tup [.str (T q), z])) l (.lst (vs' ++ [.ref t']))) := by
  subst hz
  have s5 : Same H4 (upd H4 t' (.tup [.str (T q), .int (m : Int)])) := same_upd nt
  have ntl : t' ≠ l := (ne_of_none e4 nt).symm
  -- the tuples stand as before when the list is written
  have tups : ∀ {v r}, RunV (upd H4 t' (.tup [.str (T q), .int (m : Int)])) v r → RunV (upd (upd H4 t' (.tup [.str (T q), .int (m : Int)])) l (.lst (vs' ++ [.ref t']))) v r := fun {v r} h => by
    obtain ⟨u, e, hu⟩ := h
    refine ⟨u, e, ?_⟩
    have nu : u ≠ l := ne_of hu (s5 _ _ e4) (by intro z; cases z)
    rw [upd_ne nu]
    exact hu
  refine ⟨st, same_write (s4.trans s5) nl, vs' ++ [.ref t'], rs' ++ [(q, m)], upd_same, ?_, hg.snoc hq1 hq2 hm, ?_, ?_⟩
  · exact RunsV.snoc (Paired.mapP (hv.same s5) fun _ _ h => tups h) (tups ⟨t', rfl, upd_same⟩)
  · rw [List.length_append, List.length_singleton]
    omega
  · rw [Om.plain_snoc, hp]
theorem ok_tidy {f fR : Addr} {fd fdR : FuncData} (F : Fun K "tidy" "tidy" sTidy f fd) (Z : Txt K mg R U) (FR : Fun K "root" "root" sRoot fR fdR) (bR : Binds K fdR ["part"] []) (gR : mg "root" = some (.ref fR)) :
    FnOk P w K mg base CX0 2 f fd ["pairs"] spTidy := by
  have GR : FnOk P w K mg base CX0 1 fR fdR ["part"] spRoot := ok_root FR
  refine F.ok scTidy (fun vs H Q E h => ?_) (fun cdv A outer s H vs Q E hr h => ?_)
  · obtain ⟨a, prs, rfl, _⟩ := h
    rfl
  · obtain ⟨a, prs, rfl, ⟨vs0, ha, hv0⟩, hsh, hlen, k⟩ := h
    refine ⟨_, pss_cons (ps_set (i := 1) scTidy.nd rfl (Or.inl rfl) (pe_lst pa_nil))
      (pss_cons (ps_for PassesOwn.never rfl (pi_list (pv 0)) (pg_tup rfl (pgs_cons (pg_name (i := 2) scTidy.nd rfl (.inl rfl)) (pgs_cons (pg_name (i := 3) scTidy.nd rfl (.inl rfl)) pgs_nil)))
        (pss_one (ps_if (PW.pt (pw_and (pt_cmpR op_ne (pv 2) pe_str (nomark _)) (pw_and1 (pt_cmpR op_gt (pv 3) pe_int (nomark _)))))
          (pss_cons (ps_set (i := 4) scTidy.nd rfl (Or.inl rfl) (pe_call GR hr (by rfl) gR FR.kp bR .nil pass0 (pa_cons (pv 2) pa_nil)))
          (pss_cons (ps_set (i := 5) scTidy.nd rfl (Or.inl rfl) (pe_op op_mul (pv 3) (pe_op op_fdiv (pe_callB call_len_str (by rfl) Z.len PySem.boot_len (pa_cons (pv 2) pa_nil)) (pe_callB call_len_str (by rfl) Z.len PySem.boot_len (pa_cons (pv 4) pa_nil)))))
          (pss_cons (ps_if (PW.pt (pw_and (pt_cmpR (op_neP hr.units) (pv 1) (pe_lst pa_nil) (nomark _))
              (pw_and1 (pt_cmpR op_eq (pe_ix ix_tup (pe_ix ix_list (pv 1) (pe_un un_neg pe_int) (fun _ _ => rfl)) pe_int (fun _ _ => rfl)) (pv 4) (nomark _)))))
            (pss_one (ps_set (i := 5) scTidy.nd rfl (Or.inl rfl) (pe_op op_add (pv 5) (pe_ix ix_tup (pe_bm0 PySem.F.plainAttrs_list PySem.F.slot_list_pop PySem.F.type_list_pop mt_pop (pv 1)) pe_int (fun _ _ => rfl))))) pss_nil)
          (pss_one (ps_expr (pe_bm PySem.F.plainAttrs_list PySem.F.slot_list_append PySem.F.type_list_append mt_append (pv 1) (pa_cons (pe_tup (pa_cons (pv 4) (pa_cons (pv 5) pa_nil))) pa_nil)))))))
          pss_nil)))
      (pss_one (ps_ret (pv 1)))), ?_⟩
    have hl0 : vs0.length = prs.length := hv0.length
    refine ⟨Nat.zero_le _, fun l nl => ?_⟩
    have s0 : Same H (upd H l (.lst [])) := same_upd nl
    refine ⟨_, rfl, a, rfl, ⟨_, SqL.of (s0 _ _ ha)⟩, for_list (K := K) (a := a) (xs := vs0) (WTidy H a l prs) ⟨⟨none, none, none, none, rfl⟩, s0, [], [], upd_same, .nil, Good.nil, Nat.zero_le _, rfl⟩
      (fun i σ H' _ W => SqL.of (W.same _ _ ha)) ?_ ?_⟩
    · rintro i x σ H1 hx ⟨⟨y2, y3, y4, y5, rfl⟩, s1, vs, rs, e1, hv, hg, hrl, hpl⟩
      obtain ⟨⟨p, n⟩, hpr, t, rfl, ht⟩ := hv0.get hx
      have ht1 := s1 _ _ ht
      have hi : i < prs.length := (List.getElem?_eq_some_iff.mp hpr).1
      have hp20 : p.length ≤ 20 := hsh _ (List.mem_of_getElem? hpr)
      have hrs : plain (prs.take (i + 1)) = plain rs ++ rep n p := by rw [Om.plain_take_succ hpr, hpl]
      refine ⟨t, _, rfl, SqT.of ht1, rfl, _, _, rfl, _, _, rfl, rfl, ?_⟩
      refine ⟨_, rfl, rfl, _, rfl, ite2 (fun c => ?_) (fun c => ?_)⟩
      · have hp1 : 1 ≤ p.length := by
          rcases Nat.eq_zero_or_pos p.length with z | z
          · exfalso
            have zp := List.eq_nil_of_length_eq_zero z
            subst zp
            have e0 : (Ow.T [] : Str) = ("" : Str) := (T_nil_iff []).mpr rfl
            have c' : (!decide (V.str (Ow.T []) = V.str ("" : Str))) = true := c
            rw [e0, decide_eq_true rfl] at c'
            cases c'
          · exact z
        refine ⟨_, rfl, _, _, rfl, rfl, _, rfl, ite2 (fun c2 => ?_) (fun c2 => ?_)⟩
        · have hn1 : 1 ≤ n := by
            have : (0 : Int) < (n : Int) := of_decide_eq_true c2
            omega
          refine ⟨_, rfl, p, rfl, hp1, hp20, fun q q1 q2 q3 q4 => ?_⟩
          have lq : (Ow.T q).length = q.length := T_len q
          have lp : (Ow.T p).length = p.length := T_len p
          have dq : p.length / q.length ≤ 20 := Nat.le_trans (Nat.div_le_self _ _) hp20
          have dp : 1 ≤ p.length / q.length := Nat.div_pos q2 (by omega)
          have ed : ((Ow.T p).length : Int) / ((Ow.T q).length : Int) = ((p.length / q.length : Nat) : Int) := by rw [lp, lq]; exact (Int.natCast_ediv _ _).symm
          have em : (n : Int) * (((Ow.T p).length : Int) / ((Ow.T q).length : Int)) = ((n * (p.length / q.length) : Nat) : Int) := by rw [ed]; simp
          have erep : rep (n * (p.length / q.length)) q = rep n p := by rw [Om.rep_mul, q4]
          refine ⟨_, rfl, _, rfl, _, rfl, by rw [lp]; exact Nat.le_of_lt (small1e6 (by omega)), _, rfl, _, rfl, by rw [lq]; exact Nat.le_of_lt (small1e6 (by omega)), _, _, rfl, rfl, ⟨by rw [lq]; omega, by rw [lq]; omega⟩,
            _, _, rfl, rfl, .inr ⟨by rw [ed]; omega, by rw [ed]; omega⟩, ?_⟩
          refine ⟨_, rfl, Nat.zero_le _, fun l2 nl2 => ?_⟩
          have s2 : Same H1 (upd H1 l2 (.lst [])) := same_upd nl2
          have e2 := s2 _ _ e1
          have hv2 := hv.same s2
          refine ⟨.list (rs.map runD), .list [], .lst (SqL.of e2) (dpAll_runs hv2), .lst (SqL.of upd_same) .nil, plainAll_runs rs, rfl, Nat.le_trans (Nat.min_le_right _ _) (by decide), _, rfl, ?_⟩
          rw [eqv_runs_nil]
          refine ite2 (fun c3 => ?_) (fun c3 => ?_)
          · -- there is a last run
            have hne : rs ≠ [] := fun z => by rw [z] at c3; cases c3
            obtain ⟨ini, ⟨u, m⟩, rfl⟩ : ∃ ini r, rs = ini ++ [r] := ⟨rs.dropLast, rs.getLast hne, (List.dropLast_concat_getLast hne).symm⟩
            have hvl : vs.length = ini.length + 1 := by rw [hv.length, List.length_append, List.length_singleton]
            have hgl : (ini ++ [(u, m)])[ini.length]? = some (u, m) := by simp
            obtain ⟨v, hv3, t3, rfl, ht3⟩ := RunsV.get' hv2 hgl
            have hat : atI vs (-1) = some (.ref t3) := by
              have e : vs = vs.dropLast ++ [.ref t3] := by
                have hne2 : vs ≠ [] := fun z => by rw [z] at hvl; simp at hvl
                have : vs.getLast hne2 = .ref t3 := by
                  rw [List.getLast_eq_getElem]
                  have h4 := (List.getElem?_eq_some_iff.mp hv3).2
                  have h5 : vs.length - 1 = ini.length := by omega
                  simp only [h5]
                  exact h4
                rw [← this]
                exact (List.dropLast_concat_getLast hne2).symm
              rw [e]
              exact atI_last _ _
            have hgu := hg (u, m) (List.mem_append_right _ (List.mem_singleton.mpr rfl))
            refine ⟨_, rfl, _, rfl, l, _, -1, _, rfl, rfl, SqL.of e2, hat, t3, _, 0, _, rfl, rfl, SqT.of ht3, atI_nat (j := 0) rfl, _, rfl, rfl, _, rfl, ite2 (fun c4 => ?_) (fun c4 => ?_)⟩
            · -- the same root: one run
              have equ : u = q := T_inj (V.str.inj (of_decide_eq_true c4))
              subst equ
              have hv5 : vs[vs.length - 1]? = some (.ref t3) := by
                have h5 : vs.length - 1 = ini.length := by omega
                rw [h5]
                exact hv3
              refine ⟨_, rfl, _, rfl, .inl ⟨rfl, _, SqL.of e2⟩, l, _, V.ref t3, rfl, rfl, e2, hv5, ?_⟩
              have ht3l : t3 ≠ l := ne_of ht3 e2 (by intro z; cases z)
              have ht4 : (upd (upd H1 l2 (.lst [])) l (.lst vs.dropLast)) t3 = some (.tup [.str (Ow.T u), .int (m : Int)]) := by rw [upd_ne ht3l]; exact ht3
              refine ⟨t3, _, 1, _, rfl, rfl, SqT.of ht4, atI_nat (j := 1) rfl, _, _, rfl, rfl, ?_⟩
              refine ⟨_, rfl, .inl ⟨rfl, _, SqL.of upd_same⟩, _, rfl, _, rfl, (by show 2 ≤ sizeLine; decide), fun t5 nt5 => ?_⟩
              have hv6 : RunsV (upd (upd H1 l2 (.lst [])) l (.lst vs.dropLast)) vs.dropLast ini := by
                have h7 := hv2.dropLast
                rw [List.dropLast_concat] at h7
                refine Paired.mapP h7 fun v r h => ?_
                obtain ⟨x, ex, hx⟩ := h
                refine ⟨x, ex, ?_⟩
                rw [upd_ne (ne_of hx e2 (by intro z; cases z))]
                exact hx
              have hlen6 : vs.dropLast.length ≤ 100000 := by rw [List.length_dropLast]; rw [hv.length] ; omega
              have n5l : l ≠ t5 := ne_of_none upd_same nt5
              refine ⟨l, _, _, rfl, rfl, (upd_ne n5l).trans upd_same, small1e6 (by omega), ?_⟩
              rw [List.length_append, List.length_singleton] at hrl
              refine wt_app ⟨_, _, _, _, rfl⟩ nl (m := n * (p.length / u.length) + m) (same_write (s1.trans s2) nl) upd_same hv6 hg.left (by omega) (by omega) q1 (by omega) ?_ nt5 ?_
              · rw [hrs, Nat.add_comm, Om.rep_add, Om.plain_snoc, List.append_assoc, erep]
              · show V.int ((n : Int) * (((Ow.T p).length : Int) / ((Ow.T u).length : Int)) + (m : Int)) = _
                rw [em]
                simp
            · -- another root
              refine ⟨_, rfl, .inl ⟨rfl, _, SqL.of e2⟩, _, rfl, _, rfl, (by show 2 ≤ sizeLine; decide), fun t5 nt5 => ?_⟩
              have n5l : l ≠ t5 := ne_of_none e2 nt5
              refine ⟨l, _, _, rfl, rfl, (upd_ne n5l).trans e2, small1e6 (by rw [hv.length]; omega), ?_⟩
              refine wt_app ⟨_, _, _, _, rfl⟩ nl (m := n * (p.length / q.length)) (s1.trans s2) e2 hv2 hg hrl (Nat.mul_pos hn1 dp) q1 (by omega) ?_ nt5 (congrArg V.int em)
              rw [hrs, erep]
          · -- the first run
            refine ⟨_, rfl, .inl ⟨rfl, _, SqL.of e2⟩, _, rfl, _, rfl, (by show 2 ≤ sizeLine; decide), fun t5 nt5 => ?_⟩
            have n5l : l ≠ t5 := ne_of_none e2 nt5
            refine ⟨l, _, _, rfl, rfl, (upd_ne n5l).trans e2, small1e6 (by rw [hv.length]; omega), ?_⟩
            refine wt_app ⟨_, _, _, _, rfl⟩ nl (m := n * (p.length / q.length)) (s1.trans s2) e2 hv2 hg hrl (Nat.mul_pos hn1 dp) q1 (by omega) ?_ nt5 (congrArg V.int em)
            rw [hrs, erep]
        · -- no times
          have hn0 : n = 0 := by
            have : ¬ (0 : Int) < (n : Int) := fun z => c2 (decide_eq_true z)
            omega
          refine ⟨⟨_, _, _, _, rfl⟩, s1, vs, rs, e1, hv, hg, Nat.le_succ_of_le hrl, ?_⟩
          rw [hrs, hn0, Om.rep_zero, List.append_nil]
      · -- an empty text
        have hp0 : p = [] := by
          refine Classical.byContradiction fun z => c ?_
          have : ¬ V.str (Ow.T p) = V.str ("" : Str) := fun y => z ((T_nil_iff p).mp (V.str.inj y))
          show (!decide (V.str (Ow.T p) = V.str ("" : Str))) = true
          rw [decide_eq_false this]
          rfl
        refine iteF ?_
        refine ⟨⟨_, _, _, _, rfl⟩, s1, vs, rs, e1, hv, hg, Nat.le_succ_of_le hrl, ?_⟩
        rw [hrs, hp0, Om.rep_nil, List.append_nil]
    · rintro σ H1 ⟨⟨y2, y3, y4, y5, rfl⟩, s1, vs, rs, e1, hv, hg, hrl, hpl⟩
      rw [hl0] at hrl hpl
      rw [List.take_length] at hpl
      exact ⟨_, rfl, k H1 l rs s1 nl ⟨vs, e1, hv⟩ hg hrl hpl⟩
end
end Ob
end

section
set_option Elab.async false
set_option maxRecDepth 100000
set_option maxHeartbeats 4000000
/-! Od5: same_items, of two lists that hold the same. -/
namespace Ob
open PySem L2 L2.Ow
open Om (rep per plain Good sl)
section
variable {P : Program} {w : World} {K : PySem.W.Frag} {mg : Str → Option Value} {base : Heap} {R U : Addr}
def spSame : Sp := fun vs H Q _ => ∃ (a b : Addr) (rs qs : List (List Nat × Nat)), vs = [.ref a, .ref b] ∧ RunsAt H a rs ∧ RunsAt H b qs ∧ Good rs ∧ Good qs ∧ plain rs = plain qs ∧ Q (.bl true) H
theorem scSame : FnScope ["one", "other", "place", "other_place", "used", "other_used", "part", "times", "other_part", "other_times", "many", "looked_at"] ["one", "other"] (defScope sSame) := ⟨rfl, rfl, rfl, by decide +kernel, rfl, by decide +kernel, by decide +kernel⟩
/-- the word of the while: T items are behind us in both -/
def WSame (H : Hp) (a b : Addr) (rs qs : List (List Nat × Nat)) (L : List Nat) (m : Nat) (σ : L2.St) (H' : Hp) : Prop :=
  H' = H ∧ ∃ (i j u v t : Nat) (y6 y7 y8 y9 y10 y11 : Option V), σ = [some (.ref a), some (.ref b), some (.int (i : Int)), some (.int (j : Int)), some (.int (u : Int)), some (.int (v : Int)), y6, y7, y8, y9, y10, y11] ∧
    Om.At rs L i u t ∧ Om.At qs L j v t ∧ m = L.length - t
theorem ok_same {f fS : Addr} {fd fdS : FuncData} (F : Fun K "same_items" "same_items" sSame f fd) (Z : Txt K mg R U) (FS : Fun K "stretch" "stretch" sStretch fS fdS) (bS : Binds K fdS ["part", "first", "many"] []) (gS : mg "stretch" = some (.ref fS)) :
    FnOk P w K mg base CX0 2 f fd ["one", "other"] spSame := by
  have GS : FnOk P w K mg base CX0 1 fS fdS ["part", "first", "many"] spStretch := ok_stretch FS Z
  refine F.ok scSame (fun vs H Q E h => ?_) (fun cdv A outer s H vs Q E hr h => ?_)
  · obtain ⟨a, b, rs, qs, rfl, _⟩ := h
    rfl
  · obtain ⟨a, b, rs, qs, rfl, ⟨vs, ha, hvs⟩, ⟨ws, hb, hws⟩, gr, gq, epl, k⟩ := h
    refine ⟨_, (pss_cons (ps_asg4 pe_int (pg_name (i := 2) scSame.nd rfl (Or.inl rfl)) (pg_name (i := 3) scSame.nd rfl (Or.inl rfl)) (pg_name (i := 4) scSame.nd rfl (Or.inl rfl)) (pg_name (i := 5) scSame.nd rfl (Or.inl rfl)))
      (pss_cons (ps_while PassesOwn.never (pt_cmpR op_lt (pv 2) (pe_callB call_len_seq (by rfl) Z.len PySem.boot_len (pa_cons (pv 0) pa_nil)) (nomark _))
        (pss_cons (ps_asg (pe_ix ix_list (pv 0) (pv 2) (fun _ _ => rfl)) (pg_tup rfl (pgs_cons (pg_name (i := 6) scSame.nd rfl (Or.inl rfl)) (pgs_cons (pg_name (i := 7) scSame.nd rfl (Or.inl rfl)) pgs_nil))))
        (pss_cons (ps_asg (pe_ix ix_list (pv 1) (pv 3) (fun _ _ => rfl)) (pg_tup rfl (pgs_cons (pg_name (i := 8) scSame.nd rfl (Or.inl rfl)) (pgs_cons (pg_name (i := 9) scSame.nd rfl (Or.inl rfl)) pgs_nil))))
        (pss_cons (ps_set (i := 10) scSame.nd rfl (Or.inl rfl) (pe_callB (call_min2 rfl) (by rfl) Z.min (by decide +kernel) (pa_cons (pe_op op_sub (pe_op op_mul (pe_callB call_len_str (by rfl) Z.len PySem.boot_len (pa_cons (pv 6) pa_nil)) (pv 7)) (pv 4)) (pa_cons (pe_op op_sub (pe_op op_mul (pe_callB call_len_str (by rfl) Z.len PySem.boot_len (pa_cons (pv 8) pa_nil)) (pv 9)) (pv 5)) pa_nil))))
        (pss_cons (ps_set (i := 11) scSame.nd rfl (Or.inl rfl) (pe_callB (call_min2 rfl) (by rfl) Z.min (by decide +kernel) (pa_cons (pv 10) (pa_cons (pe_op op_add (pe_callB call_len_str (by rfl) Z.len PySem.boot_len (pa_cons (pv 6) pa_nil)) (pe_callB call_len_str (by rfl) Z.len PySem.boot_len (pa_cons (pv 8) pa_nil))) pa_nil))))
        (pss_cons (ps_if (pt_cmpR op_ne (pe_call GS hr (by rfl) gS FS.kp bS .nil pass0 (pa_cons (pv 6) (pa_cons (pv 4) (pa_cons (pv 11) pa_nil)))) (pe_call GS hr (by rfl) gS FS.kp bS .nil pass0 (pa_cons (pv 8) (pa_cons (pv 5) (pa_cons (pv 11) pa_nil)))) (nomark _))
          (pss_one (ps_ret pe_bl)) pss_nil)
        (pss_cons (ps_set (i := 4) scSame.nd rfl (Or.inl rfl) (pe_op op_add (pv 4) (pv 10)))
        (pss_cons (ps_set (i := 5) scSame.nd rfl (Or.inl rfl) (pe_op op_add (pv 5) (pv 10)))
        (pss_cons (ps_if (pt_cmpR op_eq (pv 4) (pe_op op_mul (pe_callB call_len_str (by rfl) Z.len PySem.boot_len (pa_cons (pv 6) pa_nil)) (pv 7)) (nomark _))
          (pss_one (ps_par (i := 2) (j := 4) (by rfl) scSame.nd rfl rfl (by decide) rfl rfl (pa_cons (pe_op op_add (pv 2) pe_int) (pa_cons pe_int pa_nil)) (by rfl))) pss_nil)
        (pss_one (ps_if (pt_cmpR op_eq (pv 5) (pe_op op_mul (pe_callB call_len_str (by rfl) Z.len PySem.boot_len (pa_cons (pv 8) pa_nil)) (pv 9)) (nomark _))
          (pss_one (ps_par (i := 3) (j := 5) (by rfl) scSame.nd rfl rfl (by decide) rfl rfl (pa_cons (pe_op op_add (pv 3) pe_int) (pa_cons pe_int pa_nil)) (by rfl))) pss_nil)))))))))))
      (pss_one (ps_ret pe_bl)))), ?_⟩
    refine ⟨fun m σ H' => WSame H a b rs qs (plain rs) m σ H', ⟨_, rfl, 0, 0, 0, 0, 0, none, none, none, none, none, none, rfl, Om.At.zero gr, epl ▸ Om.At.zero gq, rfl⟩, ?_⟩
    rintro m σ H' ⟨rfl, i, j, u, v, t, y6, y7, y8, y9, y10, y11, rfl, A1, A2, rfl⟩
    have hvl : vs.length = rs.length := hvs.length
    refine ⟨_, rfl, _, rfl, a, _, rfl, .inl (SqL.of ha), _, _, rfl, rfl, _, rfl, ite2 (fun c => ?_) (fun _ => k)⟩
    have hi : i < rs.length := by
      have : (i : Int) < (vs.length : Int) := of_decide_eq_true c
      omega
    have hT := A1.more hi
    have hj := A2.less hT
    obtain ⟨⟨p, n⟩, hp⟩ : ∃ r, rs[i]? = some r := ⟨_, List.getElem?_eq_getElem hi⟩
    obtain ⟨⟨q, m⟩, hq⟩ : ∃ r, qs[j]? = some r := ⟨_, List.getElem?_eq_getElem hj⟩
    obtain ⟨x1, hx1, t1, rfl, ht1⟩ := RunsV.get' hvs hp
    obtain ⟨x2, hx2, t2, rfl, ht2⟩ := RunsV.get' hws hq
    obtain ⟨p1, p2, _⟩ := gr.get hp
    obtain ⟨q1, q2, _⟩ := gq.get hq
    have lu := A1.lt _ hp
    have lv := A2.lt _ hq
    simp only at p1 p2 q1 q2 lu lv ht1 ht2
    have lp : (Ow.T p).length = p.length := T_len p
    have lq : (Ow.T q).length = q.length := T_len q
    have zp : (Ow.T p).length ≤ sizeLine := by rw [lp]; exact Nat.le_of_lt (small1e6 (by omega))
    have zq : (Ow.T q).length ≤ sizeLine := by rw [lq]; exact Nat.le_of_lt (small1e6 (by omega))
    -- sizes
    obtain ⟨s1, es1⟩ : ∃ s1, s1 = p.length * n := ⟨_, rfl⟩
    obtain ⟨s2, es2⟩ : ∃ s2, s2 = q.length * m := ⟨_, rfl⟩
    rw [← es1] at lu
    rw [← es2] at lv
    have i1 : ((Ow.T p).length : Int) * (n : Int) = (s1 : Int) := by rw [lp, es1]; simp
    have i2 : ((Ow.T q).length : Int) * (m : Int) = (s2 : Int) := by rw [lq, es2]; simp
    obtain ⟨many, em⟩ : ∃ many, many = min (s1 - u) (s2 - v) := ⟨_, rfl⟩
    obtain ⟨look, el⟩ : ∃ look, look = min many (p.length + q.length) := ⟨_, rfl⟩
    have emany : (if ((Ow.T q).length : Int) * (m : Int) - (v : Int) < ((Ow.T p).length : Int) * (n : Int) - (u : Int) then ((Ow.T q).length : Int) * (m : Int) - (v : Int) else ((Ow.T p).length : Int) * (n : Int) - (u : Int)) = (many : Int) := by
      rw [i1, i2]
      split <;> omega
    have hm1 : 1 ≤ many := by omega
    refine ⟨fun σ' H2 => WSame H' a b rs qs (plain rs) ((plain rs).length - (t + many)) σ' H2, fun σ' H2 z => ⟨_, by omega, z⟩, ?_⟩
    refine ⟨_, rfl, _, rfl, a, _, _, _, rfl, rfl, SqL.of ha, atI_nat hx1, t1, _, rfl, SqT.of ht1, rfl, _, _, rfl, _, _, rfl, rfl, ?_⟩
    refine ⟨_, rfl, _, rfl, b, _, _, _, rfl, rfl, SqL.of hb, atI_nat hx2, t2, _, rfl, SqT.of ht2, rfl, _, _, rfl, _, _, rfl, rfl, ?_⟩
    refine ⟨_, rfl, _, rfl, zp, _, rfl, _, _, rfl, rfl, .inl ⟨by rw [lp]; omega, by rw [lp]; omega⟩, _, rfl, _, _, rfl, rfl, ?_⟩
    refine ⟨_, rfl, _, rfl, zq, _, rfl, _, _, rfl, rfl, .inl ⟨by rw [lq]; omega, by rw [lq]; omega⟩, _, rfl, _, _, rfl, rfl, _, _, rfl, ?_⟩
    rw [emany]
    have elook : (if ((Ow.T p).length : Int) + ((Ow.T q).length : Int) < (many : Int) then ((Ow.T p).length : Int) + ((Ow.T q).length : Int) else (many : Int)) = (look : Int) := by
      rw [lp, lq]
      split <;> omega
    refine ⟨_, rfl, _, rfl, _, rfl, zp, _, rfl, _, rfl, zq, _, _, rfl, rfl, _, _, rfl, ?_⟩
    show L2.gName 11 (V.int (if ((Ow.T p).length : Int) + ((Ow.T q).length : Int) < (many : Int) then ((Ow.T p).length : Int) + ((Ow.T q).length : Int) else (many : Int))) _ _ _
    rw [elook]
    have eper : per p u look = per q v look := by
      rw [A1.look hp (k := look) (by show u + look ≤ p.length * n; omega), A2.look hq (k := look) (by show v + look ≤ q.length * m; omega)]
    refine ⟨_, rfl, _, rfl, _, rfl, p, u, look, rfl, p1, p2, by omega, _, rfl, _, rfl, _, rfl, q, v, look, rfl, q1, q2, by omega, rfl, _, rfl, ?_⟩
    rw [eper]
    refine iteNS rfl ?_
    -- used, other_used
    refine ⟨_, rfl, _, rfl, _, _, rfl, rfl, ?_⟩
    refine ⟨_, rfl, _, rfl, _, _, rfl, rfl, ?_⟩
    obtain ⟨b1, b2⟩ := A1.step gr hp (k := many) (by show u + many ≤ p.length * n; omega)
    obtain ⟨d1, d2⟩ := A2.step gq hq (k := many) (by show v + many ≤ q.length * m; omega)
    have c1 : ((u : Int) + (many : Int)) = ((u + many : Nat) : Int) := by simp
    have c2 : ((v : Int) + (many : Int)) = ((v + many : Nat) : Int) := by simp
    refine ⟨_, rfl, _, rfl, _, rfl, zp, _, rfl, _, _, rfl, rfl, .inl ⟨by rw [lp]; omega, by rw [lp]; omega⟩, rfl, _, rfl, ite2 (fun e1 => ?_) (fun e1 => ?_)⟩
    · have f1 : u + many = p.length * n := by
        have := V.int.inj (of_decide_eq_true e1)
        rw [i1] at this
        omega
      refine ⟨_, rfl, _, _, rfl, rfl, _, _, rfl, ?_⟩
      refine ⟨_, rfl, _, rfl, _, rfl, zq, _, rfl, _, _, rfl, rfl, .inl ⟨by rw [lq]; omega, by rw [lq]; omega⟩, rfl, _, rfl, ite2 (fun e2 => ?_) (fun e2 => ?_)⟩
      · have f2 : v + many = q.length * m := by
          have := V.int.inj (of_decide_eq_true e2)
          rw [i2] at this
          omega
        refine ⟨_, rfl, _, _, rfl, rfl, _, _, rfl, ?_⟩
        exact ⟨rfl, i + 1, j + 1, 0, 0, t + many, _, _, _, _, _, _, rfl, b1 f1, d1 f2, rfl⟩
      · have f2 : v + many ≠ q.length * m := fun z => e2 (by
          refine decide_eq_true ?_
          show V.int ((v : Int) + (many : Int)) = V.int (((Ow.T q).length : Int) * (m : Int))
          rw [i2, c2, z, es2])
        refine ⟨rfl, i + 1, j, 0, v + many, t + many, _, _, _, _, _, _, rfl, b1 f1, d2 f2, rfl⟩
    · have f1 : u + many ≠ p.length * n := fun z => e1 (by
        refine decide_eq_true ?_
        show V.int ((u : Int) + (many : Int)) = V.int (((Ow.T p).length : Int) * (n : Int))
        rw [i1, c1, z, es1])
      refine ⟨_, rfl, _, rfl, _, rfl, zq, _, rfl, _, _, rfl, rfl, .inl ⟨by rw [lq]; omega, by rw [lq]; omega⟩, rfl, _, rfl, ite2 (fun e2 => ?_) (fun e2 => ?_)⟩
      · have f2 : v + many = q.length * m := by
          have := V.int.inj (of_decide_eq_true e2)
          rw [i2] at this
          omega
        refine ⟨_, rfl, _, _, rfl, rfl, _, _, rfl, ?_⟩
        refine ⟨rfl, i, j + 1, u + many, 0, t + many, _, _, _, _, _, _, rfl, b2 f1, d1 f2, rfl⟩
      · have f2 : v + many ≠ q.length * m := fun z => e2 (by
          refine decide_eq_true ?_
          show V.int ((v : Int) + (many : Int)) = V.int (((Ow.T q).length : Int) * (m : Int))
          rw [i2, c2, z, es2])
        refine ⟨rfl, i, j, u + many, v + many, t + many, _, _, _, _, _, _, rfl, b2 f1, d2 f2, rfl⟩
end
end Ob
end

section
set_option Elab.async false
set_option maxRecDepth 100000
set_option maxHeartbeats 4000000
/-! Od6: the two __init__, length, __bool__. -/
namespace Ob
open PySem L2 L2.Ow
open Om (rep per plain Good sl)
/-- an instance is written: runs stand as before -/
theorem RunV.but {x C dx : Addr} {fs : List (Str × V)} {H H' : Hp} {v : V} {r : List Nat × Nat} (b : But x H H') (hx : H x = some (.ins C dx fs)) (h : RunV H v r) : RunV H' v r := by
  obtain ⟨t, e, ht⟩ := h
  exact ⟨t, e, b _ _ (ne_of ht hx (by intro z; cases z)) ht⟩
theorem RunsAt.but {x C dx l : Addr} {fs : List (Str × V)} {H H' : Hp} {rs : List (List Nat × Nat)} (b : But x H H') (hx : H x = some (.ins C dx fs)) (h : RunsAt H l rs) : RunsAt H' l rs := by
  obtain ⟨vs, e, hv⟩ := h
  exact ⟨vs, b _ _ (ne_of e hx (by intro z; cases z)) e, Paired.mapP hv fun _ _ q => RunV.but b hx q⟩
/-- a new Repeats: its list, too, did not stand in H -/
def RepNew (R : Addr) (H H' : Hp) (p : Addr) (L : List Nat) (n : Nat) : Prop := ∃ dx l rs, H' p = some (.ins R dx (fR l)) ∧ RunsAt H' l rs ∧ Good rs ∧ rs.length ≤ n ∧ plain rs = L ∧ H l = none
theorem RepNew.at {R : Addr} {H H' : Hp} {p : Addr} {L : List Nat} {n : Nat} (h : RepNew R H H' p L n) : RepAt R H' p L n := let ⟨dx, l, rs, e, a, g, z, q, _⟩ := h; ⟨dx, l, rs, e, a, g, z, q⟩
/-- what a Repeats is made of: a Runs, or pairs -/
def Src (U : Addr) (H : Hp) (a : Addr) (L : List Nat) (n : Nat) : Prop :=
  (∃ du l rs, H a = some (.ins U du (fU l)) ∧ RunsAt H l rs ∧ Good rs ∧ rs.length ≤ n ∧ plain rs = L) ∨
  (∃ prs, RunsAt H a prs ∧ (∀ r ∈ prs, Abc r.1 ∧ r.1.length ≤ 20 ∧ r.2 ≤ 10 ^ 60) ∧ prs.length ≤ 50 ∧ prs.length ≤ n ∧ plain prs = L)
section
variable {P : Program} {w : World} {K : PySem.W.Frag} {mg : Str → Option Value} {base : Heap} {R U : Addr}
/-! ### Runs(pairs) -/
def spRunsI (U : Addr) : Sp := fun vs H Q _ => ∃ (x dx a : Addr) (prs : List (List Nat × Nat)), vs = [.ref x, .ref a] ∧ H x = some (.ins U dx []) ∧ RunsAt H a prs ∧ Short prs ∧ prs.length ≤ 100000 ∧
  ∀ H' l rs, But x H H' → H l = none → H' x = some (.ins U dx (fU l)) → RunsAt H' l rs → Good rs → rs.length ≤ prs.length → plain rs = plain prs → Q .non H'
theorem scRunsI : FnScope ["self", "pairs"] ["self", "pairs"] (defScope sRunsI) := ⟨rfl, rfl, rfl, by decide +kernel, rfl, by decide +kernel, by decide +kernel⟩
theorem ok_runsI {f fT : Addr} {fd fdT : FuncData} (F : Fun K "__init__" "Runs.__init__" sRunsI f fd) (Z : Txt K mg R U) (FT : Fun K "tidy" "tidy" sTidy fT fdT) (bT : Binds K fdT ["pairs"] []) (gT : mg "tidy" = some (.ref fT))
    (GT : FnOk P w K mg base CX0 2 fT fdT ["pairs"] spTidy) : FnOk P w K mg base CX0 3 f fd ["self", "pairs"] (spRunsI U) := by
  refine F.ok scRunsI (fun vs H Q E h => ?_) (fun cdv A outer s H vs Q E hr h => ?_)
  · obtain ⟨x, dx, a, prs, rfl, _⟩ := h
    rfl
  · obtain ⟨x, dx, a, prs, rfl, hx, ha, hs, hl, k⟩ := h
    refine ⟨_, (pss_one (ps_fld (pv 0) (pe_call GT hr (by rfl) gT FT.kp bT .nil pass0 (pa_cons (pv 1) pa_nil)) rfl)), ?_⟩
    refine ⟨_, rfl, a, prs, rfl, ha, hs, hl, fun H1 l rs s1 nl hr1 g1 l1 e1 => ?_⟩
    have hx1 := s1 _ _ hx
    refine ⟨_, rfl, x, U, dx, [], rfl, hx1, Z.clU, Z.nTid, (by show 0 < 1000; decide), ?_⟩
    refine k _ l rs ((But.of s1).trans But.upd) nl ?_ (hr1.but But.upd hx1) g1 l1 e1
    rw [upd_same]
    rfl
/-! ### Repeats(..) -/
def spRepI (R U : Addr) : Sp := fun vs H Q _ => ∃ (x dx a : Addr) (L : List Nat) (n : Nat), vs = [.ref x, .ref a] ∧ H x = some (.ins R dx []) ∧ Src U H a L n ∧
  ∀ H' l rs, But x H H' → H' x = some (.ins R dx (fR l)) → RunsAt H' l rs → Good rs → rs.length ≤ n → plain rs = L → (H l = none ∨ ∃ du, H a = some (.ins U du (fU l))) → Q .non H'
theorem fU_inj {l m : Addr} (h : fU l = fU m) : l = m := by
  have e := congrArg (fun fs : List (Str × V) => fs.lookup ("tidied" : Str)) h
  rw [fU_tid, fU_tid] at e
  exact V.ref.inj (Option.some.inj e)
theorem scRepI : FnScope ["self", "pairs", "pair"] ["self", "pairs"] (defScope sRepI) := ⟨rfl, rfl, rfl, by decide +kernel, rfl, by decide +kernel, by decide +kernel⟩
theorem ok_repI {f fT fP : Addr} {fd fdT fdP : FuncData} (F : Fun K "__init__" "Repeats.__init__" sRepI f fd) (Z : Txt K mg R U) (FT : Fun K "tidy" "tidy" sTidy fT fdT) (bT : Binds K fdT ["pairs"] []) (gT : mg "tidy" = some (.ref fT))
    (GT : FnOk P w K mg base CX0 2 fT fdT ["pairs"] spTidy) (FP : Fun K "is_pair" "is_pair" sIsPair fP fdP) (bP : Binds K fdP ["thing"] []) (gP : mg "is_pair" = some (.ref fP)) (GP : FnOk P w K mg base CX0 2 fP fdP ["thing"] spIsPair) :
    FnOk P w K mg base CX0 3 f fd ["self", "pairs"] (spRepI R U) := by
  refine F.ok scRepI (fun vs H Q E h => ?_) (fun cdv A outer s H vs Q E hr h => ?_)
  · obtain ⟨x, dx, a, L, n, rfl, _⟩ := h
    rfl
  · obtain ⟨x, dx, a, L, n, rfl, hx, hsrc, k⟩ := h
    obtain ⟨tp, htp⟩ := Z.pairs
    refine ⟨_, (pss_cons (ps_if (pt_val (pe_callB call_isi (by rfl) Z.isi (by decide +kernel) (pa_cons (pv 1) (pa_cons (pe_glob (v := .ref U) (by rfl) Z.mgU rfl) pa_nil))))
        (pss_cons (ps_fld (pv 0) (pe_fld (pv 1) rfl) rfl)
        (pss_one ps_retN)) pss_nil)
      (pss_cons (ps_if (PW.pt (pw_or (pt_not (pt_val (pe_callB call_isi (by rfl) Z.isi (by decide +kernel) (pa_cons (pv 1) (pa_cons (pe_bltn (v := .ty "list") (by rfl) Z.list (by decide +kernel) rfl) pa_nil))))) (pw_or (pt_cmpR op_gt (pe_callB call_len_seq (by rfl) Z.len PySem.boot_len (pa_cons (pv 1) pa_nil)) (pe_glob (v := .int 50) (by rfl) htp ⟨_, rfl⟩) (nomark _)) (pw_or1 (pt_not (pt_val (pe_callB (cr_all rfl) (by rfl) Z.all (by decide +kernel) (pa_cons (pe_lc (own := [("pair", 2)]) (g := gName 2) (tt := tYes) rfl scRepI.nd (pi_list (pv 1)) (blkOk_by (N := ["self", "pairs", "pair"]) (sc := defScope sRepI) (by decide +kernel)) (fun _ _ _ _ _ => (pg_name (i := 2) scRepI.nd rfl (Or.inl rfl))) (fun _ _ _ _ _ => pts_nil) (fun _ _ _ _ _ => (pe_call GP hr (by rfl) gP FP.kp bP .nil pass0 (pa_cons (pv 2) pa_nil)))) pa_nil))))))))
        (pss_one ps_never) pss_nil)
      (pss_one (ps_fld (pv 0) (pe_call GT hr (by rfl) gT FT.kp bT .nil pass0 (pa_cons (pv 1) pa_nil)) rfl)))), ?_⟩
    rcases hsrc with ⟨du, l, rs, ha, hrs, g, hn, e⟩ | ⟨prs, ⟨ws, ha, hws⟩, hok, h50, hn, e⟩
    · refine ⟨_, rfl, _, _, .ref U, .ref U, true, rfl, .own U, .base (.ins ha Z.clU Z.cU Z.cG Z.cT Z.mU), ?_, true, rfl, iteT ?_⟩
      · unfold PySem.W.kitOne
        rw [if_pos (by simp)]
      refine ⟨_, rfl, a, U, du, _, _, rfl, ha, Z.clU, Z.nTid, fU_tid l, _, rfl, x, R, dx, [], rfl, hx, Z.clR, Z.nRuns, (by show 0 < 1000; decide), ?_⟩
      refine k _ l rs But.upd ?_ (hrs.but But.upd hx) g hn e (.inr ⟨du, ha⟩)
      rw [upd_same]
      rfl
    · have hwl : ws.length = prs.length := hws.length
      refine ⟨_, rfl, _, _, .type "list", .ref U, false, rfl, .own U, .base (.lst ha), Z.lU, false, rfl, iteF ?_⟩
      refine ⟨_, rfl, _, _, .type "list", .type "list", true, rfl, .ty _, .base (.lst ha), kit_ty (by decide +kernel), true, rfl, iteF ?_⟩
      have e50 : decide ((50 : Int) < (ws.length : Int)) = false := decide_eq_false (by omega)
      refine ⟨_, rfl, a, _, rfl, .inl (SqL.of ha), _, _, rfl, rfl, false, congrArg V.bl e50, iteF ?_⟩
      refine ⟨_, rfl, a, rfl, ⟨_, SqL.of ha⟩, fun D hD => ?_⟩
      refine lc_m prs.length (fun i H' => Same H H' ∧ H' D = some (.lst ((List.replicate i true).map V.bl))) ⟨same_upd hD, upd_same⟩
        (fun i H' hi W => ⟨ws, ws[i]'(by omega), SqL.of (W.1 _ _ ha), List.getElem?_eq_getElem (by omega)⟩) (fun H' W => ⟨ws, SqL.of (W.1 _ _ ha), by omega⟩) (fun i y H1 H2 hi ⟨s1, e1⟩ hy => ?_) (fun H' ⟨s1, e1⟩ => ?_) (mono_name 2)
      · obtain ⟨rfl, hy⟩ := hy
        have hy := hy ws (SqL.of (s1 _ _ ha))
        obtain ⟨⟨p, m⟩, hr', t, rfl, ht⟩ := hws.get hy
        obtain ⟨o1, o2, o3⟩ := hok _ (List.mem_of_getElem? hr')
        refine ⟨rfl, _, rfl, t, p, m, rfl, s1 _ _ ht, o1, o2, o3, fun H3 s3 => ?_⟩
        refine ⟨_, s3 _ _ e1, by rw [List.length_map, List.length_replicate]; exact small1e6 (by omega), same_write (s1.trans s3) hD, ?_⟩
        rw [upd_same, List.replicate_succ', List.map_append]
        rfl
      · refine ⟨D, _, rfl, SqL.of e1, true, ?_, iteF ?_⟩
        · congr 1
          simp
        refine ⟨_, rfl, a, prs, rfl, ⟨ws, s1 _ _ ha, hws.same s1⟩, fun r hr' => (hok r hr').2.1, by omega, fun H2 l rs s2 nl hr2 g2 l2 e2 => ?_⟩
        have hx2 := s2 _ _ (s1 _ _ hx)
        refine ⟨_, rfl, x, R, dx, [], rfl, hx2, Z.clR, Z.nRuns, (by show 0 < 1000; decide), ?_⟩
        refine k _ l rs ((But.of (s1.trans s2)).trans But.upd) ?_ (hr2.but But.upd hx2) g2 (by omega) (e2.trans e) (.inl (s1.free nl))
        rw [upd_same]
        rfl
end
end Ob
end

section
set_option Elab.async false
set_option maxRecDepth 100000
set_option maxHeartbeats 4000000
/-! Od7: length, __bool__, count, __getitem__. -/
namespace Ob
open PySem L2 L2.Ow
open Om (rep per plain Good sl)
theorem sum_cast (l : List Nat) : (l.map fun n : Nat => ((n : Nat) : Int)).sum = ((l.sum : Nat) : Int) := by
  induction l with
  | nil => rfl
  | cons a r ih =>
    rw [List.map_cons, List.sum_cons, ih, List.sum_cons]
    simp
section
variable {P : Program} {w : World} {K : PySem.W.Frag} {mg : Str → Option Value} {base : Heap} {R U : Addr}
/-! ### length -/
def spLength (R : Addr) : Sp := fun vs H Q _ => ∃ (x : Addr) (L : List Nat) (n : Nat), vs = [.ref x] ∧ RepAt R H x L n ∧ n ≤ 100000 ∧ ∀ H', Same H H' → Q (.int (L.length : Int)) H'
theorem scLength : FnScope ["self", "part", "times"] ["self"] (defScope sLength) := ⟨rfl, rfl, rfl, by decide +kernel, rfl, by decide +kernel, by decide +kernel⟩
theorem ok_length {f : Addr} {fd : FuncData} (F : Fun K "length" "Repeats.length" sLength f fd) (Z : Txt K mg R U) : FnOk P w K mg base CX0 1 f fd ["self"] (spLength R) := by
  refine F.ok scLength (fun vs H Q E h => ?_) (fun cdv A outer s H vs Q E hr h => ?_)
  · obtain ⟨x, L, n, rfl, _⟩ := h
    rfl
  · obtain ⟨x, L, n, rfl, ⟨dx, l, rs, hx, ⟨vs, hl, hv⟩, g, hn, e⟩, hnb, k⟩ := h
    refine ⟨_, (pss_one (ps_ret (pe_callB (cr_sum rfl) (by rfl) Z.sum (by decide +kernel) (pa_cons (pe_lc (own := [("part", 1), ("times", 2)]) (g := gTup K 2 (gCons (gName 1) (gCons (gName 2) gNil))) (tt := tYes) rfl scLength.nd (pi_list (pe_fld (pv 0) rfl)) (blkOk_by (N := ["self", "part", "times"]) (sc := defScope sLength) (by decide +kernel)) (fun _ _ _ _ _ => (pg_tup rfl (pgs_cons (pg_name (i := 1) scLength.nd rfl (Or.inl rfl)) (pgs_cons (pg_name (i := 2) scLength.nd rfl (Or.inl rfl)) pgs_nil)))) (fun _ _ _ _ _ => pts_nil) (fun _ _ _ _ _ => (pe_op op_mul (pe_callB call_len_str (by rfl) Z.len PySem.boot_len (pa_cons (pv 1) pa_nil)) (pv 2)))) pa_nil)))), ?_⟩
    have hvl : vs.length = rs.length := hv.length
    refine ⟨_, rfl, x, R, dx, _, _, rfl, hx, Z.clR, Z.nRuns, fR_runs l, l, rfl, ⟨_, SqL.of hl⟩, fun D hD => ?_⟩
    refine lc_m rs.length (fun i H' => Same H H' ∧ H' D = some (.lst (((rs.take i).map fun r => ((r.1.length * r.2 : Nat) : Int)).map V.int))) ⟨same_upd hD, upd_same⟩
      (fun i H' hi W => ⟨vs, vs[i]'(by omega), SqL.of (W.1 _ _ hl), List.getElem?_eq_getElem (by omega)⟩) (fun H' W => ⟨vs, SqL.of (W.1 _ _ hl), by omega⟩) (fun i y H1 H2 hi ⟨s1, e1⟩ hy => ?_) (fun H' ⟨s1, e1⟩ => ?_) (mono_two K 1 2 2)
    · obtain ⟨rfl, hy⟩ := hy
      have hy := hy vs (SqL.of (s1 _ _ hl))
      obtain ⟨⟨p, m⟩, hr', t, rfl, ht⟩ := hv.get hy
      obtain ⟨g1, g2, _⟩ := g.get hr'
      have ht1 := s1 _ _ ht
      have lp : (Ow.T p).length = p.length := T_len p
      simp only at g1 g2 ht1
      refine ⟨t, _, rfl, SqT.of ht1, rfl, _, _, rfl, _, _, rfl, rfl, rfl, ?_⟩
      refine ⟨_, rfl, _, rfl, by rw [lp]; exact Nat.le_of_lt (small1e6 (by omega)), _, rfl, _, _, rfl, rfl, .inl ⟨by rw [lp]; omega, by rw [lp]; omega⟩, ?_⟩
      refine ⟨_, e1, by rw [List.length_map, List.length_map, List.length_take]; exact small1e6 (by omega), same_write s1 hD, ?_⟩
      rw [upd_same, List.take_add_one, hr', List.map_append, List.map_append]
      show some (HO.lst (_ ++ [V.int (((Ow.T p).length : Int) * (m : Int))])) = some (HO.lst (_ ++ [V.int ((p.length * m : Nat) : Int)]))
      rw [lp]
      simp
    · refine ⟨D, _, rfl, SqL.of e1, ?_⟩
      rw [List.take_length]
      have es : (rs.map fun r => ((r.1.length * r.2 : Nat) : Int)).sum = (L.length : Int) := by
        rw [← e, Om.plain_length, ← sum_cast, List.map_map]
        rfl
      rw [es]
      exact k _ s1
/-! ### __bool__ -/
def spBool (R : Addr) : Sp := fun vs H Q _ => ∃ (x : Addr) (L : List Nat) (n : Nat), vs = [.ref x] ∧ RepAt R H x L n ∧ Q (.bl (decide (0 < L.length))) H
theorem scBool : FnScope ["self"] ["self"] (defScope sBool) := ⟨rfl, rfl, rfl, by decide +kernel, rfl, by decide +kernel, by decide +kernel⟩
theorem ok_bool {f : Addr} {fd : FuncData} (F : Fun K "__bool__" "Repeats.__bool__" sBool f fd) (Z : Txt K mg R U) : FnOk P w K mg base CX0 1 f fd ["self"] (spBool R) := by
  refine F.ok scBool (fun vs H Q E h => ?_) (fun cdv A outer s H vs Q E hr h => ?_)
  · obtain ⟨x, L, n, rfl, _⟩ := h
    rfl
  · obtain ⟨x, L, n, rfl, ⟨dx, l, rs, hx, ⟨vs, hl, hv⟩, g, hn, e⟩, k⟩ := h
    refine ⟨_, (pss_one (ps_ret (pe_cmpR op_gt (pe_callB call_len_seq (by rfl) Z.len PySem.boot_len (pa_cons (pe_fld (pv 0) rfl) pa_nil)) pe_int (nomark _)))), ?_⟩
    refine ⟨_, rfl, x, R, dx, _, _, rfl, hx, Z.clR, Z.nRuns, fR_runs l, l, _, rfl, .inl (SqL.of hl), _, _, rfl, rfl, ?_⟩
    have hvl : vs.length = rs.length := hv.length
    have eb : decide ((0 : Int) < (vs.length : Int)) = decide (0 < L.length) := by
      refine decide_eq_decide.mpr ?_
      have := g.plain_nil
      rw [e] at this
      cases L with
      | nil =>
        have z := this.mp rfl
        subst z
        simp [hvl]
      | cons c L' =>
        have nz : rs ≠ [] := fun z => by have := this.mpr z; cases this
        have : 0 < rs.length := List.length_pos_iff.mpr nz
        simp
        omega
    show Q (V.bl (decide ((0 : Int) < (vs.length : Int)))) H
    rw [eb]
    exact k
end
end Ob
end

section
set_option Elab.async false
set_option maxRecDepth 100000
set_option maxHeartbeats 4000000
/-! Od8: count, __getitem__. -/
namespace Ob
open PySem L2 L2.Ow
open Om (rep per plain Good sl)
theorem count_T (p : List Nat) (c : Nat) : Txt.count (T p) ⟨#[c]⟩ = ((p.count c : Nat) : Int) := by
  rw [PyProof.Rows.count_cnt]
  show PyProof.Rows.cnt c p = _
  induction p with
  | nil => rfl
  | cons a r ih =>
    rw [PyProof.Rows.cnt_cons, ih, List.count_cons]
    by_cases h : a = c
    · rw [if_pos h, if_pos (by simpa using h)]
      omega
    · rw [if_neg h, if_neg (by simpa using h)]
      omega
section
variable {P : Program} {w : World} {K : PySem.W.Frag} {mg : Str → Option Value} {base : Heap} {R U : Addr}
/-! ### count -/
def spCount (R : Addr) : Sp := fun vs H Q _ => ∃ (x : Addr) (L : List Nat) (n c : Nat), vs = [.ref x, .str ⟨#[c]⟩] ∧ RepAt R H x L n ∧ n ≤ 100000 ∧ ∀ H', Same H H' → Q (.int ((L.count c : Nat) : Int)) H'
theorem scCount : FnScope ["self", "item", "part", "times"] ["self", "item"] (defScope sCount) := ⟨rfl, rfl, rfl, by decide +kernel, rfl, by decide +kernel, by decide +kernel⟩
theorem ok_count {f : Addr} {fd : FuncData} (F : Fun K "count" "Repeats.count" sCount f fd) (Z : Txt K mg R U) : FnOk P w K mg base CX0 1 f fd ["self", "item"] (spCount R) := by
  refine F.ok scCount (fun vs H Q E h => ?_) (fun cdv A outer s H vs Q E hr h => ?_)
  · obtain ⟨x, L, n, c, rfl, _⟩ := h
    rfl
  · obtain ⟨x, L, n, c, rfl, ⟨dx, l, rs, hx, ⟨vs, hl, hv⟩, g, hn, e⟩, hnb, k⟩ := h
    refine ⟨_, (pss_one (ps_ret (pe_callB (cr_sum rfl) (by rfl) Z.sum (by decide +kernel) (pa_cons (pe_lc (own := [("part", 2), ("times", 3)]) (g := gTup K 2 (gCons (gName 2) (gCons (gName 3) gNil))) (tt := tYes) rfl scCount.nd (pi_list (pe_fld (pv 0) rfl)) (blkOk_by (N := ["self", "item", "part", "times"]) (sc := defScope sCount) (by decide +kernel)) (fun _ _ _ _ _ => (pg_tup rfl (pgs_cons (pg_name (i := 2) scCount.nd rfl (Or.inl rfl)) (pgs_cons (pg_name (i := 3) scCount.nd rfl (Or.inl rfl)) pgs_nil)))) (fun _ _ _ _ _ => pts_nil) (fun _ _ _ _ _ => (pe_op op_mul (pe_m1 PySem.F.slot_str_count PySem.F.type_str_count mt_count (pv 2) (pv 1)) (pv 3)))) pa_nil)))), ?_⟩
    have hvl : vs.length = rs.length := hv.length
    refine ⟨_, rfl, x, R, dx, _, _, rfl, hx, Z.clR, Z.nRuns, fR_runs l, l, rfl, ⟨_, SqL.of hl⟩, fun D hD => ?_⟩
    refine lc_m rs.length (fun i H' => Same H H' ∧ H' D = some (.lst (((rs.take i).map fun r => ((r.1.count c * r.2 : Nat) : Int)).map V.int))) ⟨same_upd hD, upd_same⟩
      (fun i H' hi W => ⟨vs, vs[i]'(by omega), SqL.of (W.1 _ _ hl), List.getElem?_eq_getElem (by omega)⟩) (fun H' W => ⟨vs, SqL.of (W.1 _ _ hl), by omega⟩) (fun i y H1 H2 hi ⟨s1, e1⟩ hy => ?_) (fun H' ⟨s1, e1⟩ => ?_) (mono_two K 2 3 2)
    · obtain ⟨rfl, hy⟩ := hy
      have hy := hy vs (SqL.of (s1 _ _ hl))
      obtain ⟨⟨p, m⟩, hr', t, rfl, ht⟩ := hv.get hy
      obtain ⟨g1, g2, _⟩ := g.get hr'
      have ht1 := s1 _ _ ht
      simp only at g1 g2 ht1
      have hc : p.count c ≤ p.length := List.count_le_length
      refine ⟨t, _, rfl, SqT.of ht1, rfl, _, _, rfl, _, _, rfl, rfl, rfl, ?_⟩
      refine ⟨_, rfl, ⟨_, rfl⟩, _, rfl, _, _, rfl, rfl, _, rfl, _, _, rfl, rfl, .inl ⟨by rw [count_T]; omega, by rw [count_T]; omega⟩, ?_⟩
      refine ⟨_, e1, by rw [List.length_map, List.length_map, List.length_take]; exact small1e6 (by omega), same_write s1 hD, ?_⟩
      rw [upd_same, List.take_add_one, hr', List.map_append, List.map_append]
      show some (HO.lst (_ ++ [V.int (Txt.count (Ow.T p) ⟨#[c]⟩ * (m : Int))])) = some (HO.lst (_ ++ [V.int ((p.count c * m : Nat) : Int)]))
      rw [count_T]
      simp
    · refine ⟨D, _, rfl, SqL.of e1, ?_⟩
      rw [List.take_length]
      have es : (rs.map fun r => ((r.1.count c * r.2 : Nat) : Int)).sum = ((L.count c : Nat) : Int) := by
        rw [← e, Om.plain_count, ← sum_cast, List.map_map]
        rfl
      rw [es]
      exact k _ s1
/-! ### __getitem__ -/
def spItem (R : Addr) : Sp := fun vs H Q _ => ∃ (x : Addr) (L : List Nat) (n i c : Nat), vs = [.ref x, .int (i : Int)] ∧ RepAt R H x L n ∧ n ≤ 100000 ∧ L[i]? = some c ∧ ∀ H', Same H H' → Q (.str ⟨#[c]⟩) H'
theorem scItem : FnScope ["self", "index", "begin", "part", "times"] ["self", "index"] (defScope sItem) := ⟨rfl, rfl, rfl, by decide +kernel, rfl, by decide +kernel, by decide +kernel⟩
theorem ok_item {f fL fI pL : Addr} {fd fdL fdI : FuncData} (F : Fun K "__getitem__" "Repeats.__getitem__" sItem f fd) (Z : Txt K mg R U) (PL : PropOf K R "length" pL fL) (bL : Binds K fdL ["self"] []) (GL : FnOk P w K mg base CX0 1 fL fdL ["self"] (spLength R))
    (FI : Fun K "is_integer" "is_integer" sIsInt fI fdI) (bI : Binds K fdI ["thing", "least", "most"] []) (gI : mg "is_integer" = some (.ref fI)) : FnOk P w K mg base CX0 3 f fd ["self", "index"] (spItem R) := by
  have GI : FnOk P w K mg base CX0 1 fI fdI ["thing", "least", "most"] spIsInt := ok_isInt FI Z
  refine F.ok scItem (fun vs H Q E h => ?_) (fun cdv A outer s H vs Q E hr h => ?_)
  · obtain ⟨x, L, n, i, c, rfl, _⟩ := h
    rfl
  · obtain ⟨x, L, n, i, c, rfl, hX, hnb, hc, k⟩ := h
    obtain ⟨dx, l, rs, hx, ⟨vs, hl, hv⟩, g, hn, e⟩ := id hX
    have hrL : Room 2 _ := hr
    have hr1 : Room 1 _ := hr.mono (by decide)
    have hi : i < L.length := (List.getElem?_eq_some_iff.mp hc).1
    refine ⟨_, (pss_cons (ps_if (pt_not (pt_val (pe_call GI hr1 (by rfl) gI FI.kp bI .nil pass0 (pa_cons (pv 1) (pa_cons pe_int (pa_cons (pe_op op_sub (pe_prop (pv 0) Z.clR PL GL hrL bL .nil pass0 rfl) pe_int) pa_nil))))))
        (pss_one ps_never) pss_nil)
      (pss_cons (ps_set (i := 2) scItem.nd rfl (Or.inl rfl) pe_int)
      (pss_cons (ps_for PassesOwn.never rfl (pi_list (pe_fld (pv 0) rfl)) (pg_tup rfl (pgs_cons (pg_name (i := 3) scItem.nd rfl (Or.inl rfl)) (pgs_cons (pg_name (i := 4) scItem.nd rfl (Or.inl rfl)) pgs_nil)))
        (pss_cons (ps_if (pt_cmpR op_lt (pv 1) (pe_op op_add (pv 2) (pe_op op_mul (pe_callB call_len_str (by rfl) Z.len PySem.boot_len (pa_cons (pv 3) pa_nil)) (pv 4))) (nomark _))
          (pss_one (ps_ret (pe_ix ix_str (pv 3) (pe_op op_mod (pe_op op_sub (pv 1) (pv 2)) (pe_callB call_len_str (by rfl) Z.len PySem.boot_len (pa_cons (pv 3) pa_nil))) (fun _ _ => rfl)))) pss_nil)
        (pss_one (ps_set (i := 2) scItem.nd rfl (Or.inl rfl) (pe_op op_add (pv 2) (pe_op op_mul (pe_callB call_len_str (by rfl) Z.len PySem.boot_len (pa_cons (pv 3) pa_nil)) (pv 4)))))))
      (pss_one (ps_ret pe_str))))), ?_⟩
    refine ⟨_, rfl, _, rfl, x, dx, _, rfl, hx, x, L, n, rfl, hX, hnb, fun H1 s1 => ?_⟩
    refine ⟨_, _, rfl, rfl, (i : Int), 0, (L.length : Int) - 1, rfl, by omega, by omega, true, rfl, iteF ?_⟩
    have hvl : vs.length = rs.length := hv.length
    refine ⟨_, rfl, x, R, dx, _, _, rfl, s1 _ _ hx, Z.clR, Z.nRuns, fR_runs l, l, rfl, ⟨_, SqL.of (s1 _ _ hl)⟩, ?_⟩
    refine for_list (K := K) (a := l) (xs := vs) (fun j σ H' => H' = H1 ∧ (plain (rs.take j)).length ≤ i ∧ ∃ y3 y4, σ = [some (.ref x), some (.int (i : Int)), some (.int ((plain (rs.take j)).length : Int)), y3, y4]) ⟨rfl, Nat.zero_le _, none, none, rfl⟩
      (fun j σ H' _ W => W.1 ▸ SqL.of (s1 _ _ hl)) ?_ ?_
    · rintro j v σ H2 hj ⟨rfl, hb, y3, y4, rfl⟩
      obtain ⟨⟨p, m⟩, hr', t, rfl, ht⟩ := hv.get hj
      obtain ⟨g1, g2, _⟩ := g.get hr'
      have ht1 := s1 _ _ ht
      simp only at g1 g2 ht1
      have lp : (Ow.T p).length = p.length := T_len p
      have zp : (Ow.T p).length ≤ sizeLine := by rw [lp]; exact Nat.le_of_lt (small1e6 (by omega))
      have esz : ((Ow.T p).length : Int) * (m : Int) = ((p.length * m : Nat) : Int) := by rw [lp]; simp
      have etk : (plain (rs.take (j + 1))).length = (plain (rs.take j)).length + p.length * m := by
        rw [Om.plain_take_succ hr', List.length_append, Om.rep_length, Nat.mul_comm]
      refine ⟨t, _, rfl, SqT.of ht1, rfl, _, _, rfl, _, _, rfl, rfl, ?_⟩
      refine ⟨_, rfl, _, rfl, _, rfl, _, rfl, zp, _, rfl, _, _, rfl, rfl, .inl ⟨by rw [lp]; omega, by rw [lp]; omega⟩, _, _, rfl, rfl, _, _, rfl, rfl, _, rfl, ite2 (fun c1 => ?_) (fun c1 => ?_)⟩
      · have hlt : i < (plain (rs.take j)).length + p.length * m := by
          have h2 := of_decide_eq_true c1
          rw [esz] at h2
          omega
        have ei : ((i : Int) - ((plain (rs.take j)).length : Int)) = ((i - (plain (rs.take j)).length : Nat) : Int) := by omega
        have em : ((i : Int) - ((plain (rs.take j)).length : Int)) % ((Ow.T p).length : Int) = (((i - (plain (rs.take j)).length) % p.length : Nat) : Int) := by
          rw [ei, lp]
          exact (Int.natCast_emod _ _).symm
        have hmod : (i - (plain (rs.take j)).length) % p.length < p.length := Nat.mod_lt _ (by omega)
        have hget : p[(i - (plain (rs.take j)).length) % p.length]? = some c := by
          have hdr : plain (rs.drop j) = rep m p ++ plain (rs.drop (j + 1)) := Om.plain_drop_at hr'
          have hin : i - (plain (rs.take j)).length < (rep m p).length := by rw [Om.rep_length, Nat.mul_comm]; omega
          have h3 : L[i]? = (rep m p)[i - (plain (rs.take j)).length]? := by
            rw [← e, Om.plain_split rs j, List.getElem?_append_right hb, hdr, List.getElem?_append_left hin]
          rw [h3, Om.rep_per, Om.per_get (by rw [Nat.mul_comm]; omega), Nat.zero_add, List.getD_eq_getElem?_getD, List.getElem?_eq_getElem hmod] at hc
          rw [List.getElem?_eq_getElem hmod]
          exact hc
        refine ⟨_, rfl, _, rfl, _, rfl, _, _, rfl, rfl, _, rfl, _, rfl, zp, _, _, rfl, rfl, by rw [lp]; omega, _, _, c, rfl, rfl, zp, ?_, k _ s1⟩
        show atI p (((i : Int) - ((plain (rs.take j)).length : Int)) % ((Ow.T p).length : Int)) = some c
        rw [em]
        exact atI_nat hget
      · have hge : (plain (rs.take j)).length + p.length * m ≤ i := by
          have h2 : ¬ (i : Int) < ((plain (rs.take j)).length : Int) + ((Ow.T p).length : Int) * (m : Int) := fun z => c1 (decide_eq_true z)
          rw [esz] at h2
          omega
        refine ⟨_, rfl, _, rfl, _, rfl, zp, _, rfl, _, _, rfl, rfl, .inl ⟨by rw [lp]; omega, by rw [lp]; omega⟩, _, _, rfl, rfl, ?_⟩
        refine ⟨rfl, by omega, some (V.str (Ow.T p)), some (V.int (m : Int)), ?_⟩
        rw [etk]
        show [some (V.ref x), some (V.int (i : Int)), some (V.int (((plain (rs.take j)).length : Int) + ((Ow.T p).length : Int) * (m : Int))), some (V.str (Ow.T p)), some (V.int (m : Int))] = _
        rw [esz]
        rfl
    · rintro σ H2 ⟨rfl, hb, _⟩
      rw [hvl, List.take_length, e] at hb
      omega
end
end Ob
end

section
set_option Elab.async false
set_option maxRecDepth 100000
set_option maxHeartbeats 4000000
/-! Od9: part. -/
namespace Ob
open PySem L2 L2.Ow
open Om (rep per plain Good sl)
section
variable {P : Program} {w : World} {K : PySem.W.Frag} {mg : Str → Option Value} {base : Heap} {R U : Addr}
def spPart (R : Addr) : Sp := fun vs H Q _ => ∃ (x : Addr) (L : List Nat) (n b e : Nat), vs = [.ref x, .int (b : Int), .int (e : Int)] ∧ RepAt R H x L n ∧ n ≤ 30000 ∧ b ≤ e ∧ e ≤ L.length ∧
  ∀ H' q, Same H H' → RepNew R H H' q (sl L b e) (3 * n) → Q (.ref q) H'
theorem scPart : FnScope ["self", "begin", "end", "found", "before", "part", "times", "size"] ["self", "begin", "end"] (defScope sPart) := ⟨rfl, rfl, rfl, by decide +kernel, rfl, by decide +kernel, by decide +kernel⟩
structure WPart (H : Hp) (x fl : Addr) (b e : Nat) (rs : List (List Nat × Nat)) (i : Nat) (σ : L2.St) (H' : Hp) : Prop where
  st : ∃ y5 y6 y7, σ = [some (.ref x), some (.int (b : Int)), some (.int (e : Int)), some (.ref fl), some (.int ((plain (rs.take i)).length : Int)), y5, y6, y7]
  same : Same H H'
  li : ∃ vs prs, H' fl = some (.lst vs) ∧ RunsV H' vs prs ∧ Short prs ∧ prs.length ≤ 3 * i ∧ plain prs = sl (plain (rs.take i)) b e
theorem Short.app {a b : List (List Nat × Nat)} (h : Short a) (k : Short b) : Short (a ++ b) := fun r hr => (List.mem_append.mp hr).elim (h r) (k r)
theorem ok_part {f fL fI fC fRI fUI pL : Addr} {fd fdL fdI fdC fdRI fdUI : FuncData} (F : Fun K "part" "Repeats.part" sPart f fd) (Z : Txt K mg R U) (PL : PropOf K R "length" pL fL) (bL : Binds K fdL ["self"] []) (GL : FnOk P w K mg base CX0 1 fL fdL ["self"] (spLength R))
    (FI : Fun K "is_integer" "is_integer" sIsInt fI fdI) (bI : Binds K fdI ["thing", "least", "most"] []) (gI : mg "is_integer" = some (.ref fI))
    (FC : Fun K "cut" "cut" sCut fC fdC) (bC : Binds K fdC ["part", "begin", "end"] []) (gC : mg "cut" = some (.ref fC))
    (MR : Mk K R fRI) (bRI : Binds K fdRI ["self", "pairs"] []) (GRI : FnOk P w K mg base CX0 3 fRI fdRI ["self", "pairs"] (spRepI R U))
    (MU : Mk K U fUI) (bUI : Binds K fdUI ["self", "pairs"] []) (GUI : FnOk P w K mg base CX0 3 fUI fdUI ["self", "pairs"] (spRunsI U)) :
    FnOk P w K mg base CX0 5 f fd ["self", "begin", "end"] (spPart R) := by
  have GI : FnOk P w K mg base CX0 1 fI fdI ["thing", "least", "most"] spIsInt := ok_isInt FI Z
  have GC : FnOk P w K mg base CX0 1 fC fdC ["part", "begin", "end"] spCut := ok_cut FC Z
  refine F.ok scPart (fun vs H Q E h => ?_) (fun cdv A outer s H vs Q E hr h => ?_)
  · obtain ⟨x, L, n, b, e, rfl, _⟩ := h
    rfl
  · obtain ⟨x, L, n, b, e, rfl, hX, hnb, hbe, heL, k⟩ := h
    obtain ⟨dx, l, rs, hx, ⟨vs, hl, hv⟩, g, hn, eL⟩ := id hX
    have hrL : Room 2 _ := hr.mono (by decide)
    have hr1 : Room 1 _ := hr.mono (by decide)
    have hrR : Room 4 _ := hr
    have hrU : Room 4 _ := hr
    refine ⟨_, (pss_cons (ps_if (PW.pt (pw_or (pt_not (pt_val (pe_call GI hr1 (by rfl) gI FI.kp bI .nil pass0 (pa_cons (pv 2) (pa_cons pe_int (pa_cons (pe_prop (pv 0) Z.clR PL GL hrL bL .nil pass0 rfl) pa_nil)))))) (pw_or1 (pt_not (pt_val (pe_call GI hr1 (by rfl) gI FI.kp bI .nil pass0 (pa_cons (pv 1) (pa_cons pe_int (pa_cons (pv 2) pa_nil)))))))))
        (pss_one ps_never) pss_nil)
      (pss_cons (ps_par (i := 3) (j := 4) (by rfl) scPart.nd rfl rfl (by decide) rfl rfl (pa_cons (pe_lst pa_nil) (pa_cons pe_int pa_nil)) (by rfl))
      (pss_cons (ps_for PassesOwn.never rfl (pi_list (pe_fld (pv 0) rfl)) (pg_tup rfl (pgs_cons (pg_name (i := 5) scPart.nd rfl (Or.inl rfl)) (pgs_cons (pg_name (i := 6) scPart.nd rfl (Or.inl rfl)) pgs_nil)))
        (pss_cons (ps_set (i := 7) scPart.nd rfl (Or.inl rfl) (pe_op op_mul (pe_callB call_len_str (by rfl) Z.len PySem.boot_len (pa_cons (pv 5) pa_nil)) (pv 6)))
        (pss_cons (ps_if (PW.pt (pw_and (pt_cmpR op_lt (pv 1) (pe_op op_add (pv 4) (pv 7)) (nomark _)) (pw_and1 (pt_cmpR op_gt (pv 2) (pv 4) (nomark _)))))
          (pss_one (ps_expr (pe_bm PySem.F.plainAttrs_list PySem.F.slot_list_extend PySem.F.type_list_extend mt_extend (pv 3) (pa_cons (pe_call GC hr1 (by rfl) gC FC.kp bC .nil pass0 (pa_cons (pv 5) (pa_cons (pe_callB (call_max2 rfl) (by rfl) Z.max (by decide +kernel) (pa_cons (pe_op op_sub (pv 1) (pv 4)) (pa_cons pe_int pa_nil))) (pa_cons (pe_callB (call_min2 rfl) (by rfl) Z.min (by decide +kernel) (pa_cons (pe_op op_sub (pv 2) (pv 4)) (pa_cons (pv 7) pa_nil))) pa_nil)))) pa_nil)))) pss_nil)
        (pss_one (ps_aug (i := 4) scPart.nd rfl (Or.inl rfl) (pv 7) ip_add)))))
      (pss_one (ps_ret (pe_make MR GRI hrR (by rfl) Z.mgR bRI .nil pass0 (pa_cons (pe_make MU GUI hrU (by rfl) Z.mgU bUI .nil pass0 (pa_cons (pv 3) pa_nil)) pa_nil))))))), ?_⟩
    refine ⟨_, rfl, _, rfl, x, dx, _, rfl, hx, x, L, n, rfl, hX, by omega, fun H1 s1 => ?_⟩
    refine ⟨(e : Int), 0, (L.length : Int), rfl, by omega, by omega, true, rfl, iteF ?_⟩
    refine ⟨_, rfl, _, rfl, (b : Int), 0, (e : Int), rfl, by omega, by omega, true, rfl, iteF ?_⟩
    refine ⟨Nat.zero_le _, fun fl nfl => ⟨_, _, rfl, ?_⟩⟩
    have s2 : Same H (upd H1 fl (.lst [])) := s1.trans (same_upd nfl)
    have nfl0 : H fl = none := s1.free nfl
    have hvl : vs.length = rs.length := hv.length
    refine ⟨_, rfl, x, R, dx, _, _, rfl, s2 _ _ hx, Z.clR, Z.nRuns, fR_runs l, l, rfl, ⟨_, SqL.of (s2 _ _ hl)⟩, ?_⟩
    refine for_list (K := K) (a := l) (xs := vs) (WPart H x fl b e rs) ⟨⟨none, none, none, rfl⟩, s2, [], [], upd_same, .nil, (fun _ z => nomatch z), Nat.zero_le _, (Om.sl_nil b e).symm⟩
      (fun j σ H' _ W => SqL.of (W.same _ _ hl)) ?_ ?_
    · rintro j v σ H2 hj ⟨⟨y5, y6, y7, rfl⟩, sm, ws, prs, ef, hw, hsh, hpl, epl⟩
      obtain ⟨⟨p, m⟩, hr', t, rfl, ht⟩ := hv.get hj
      obtain ⟨g1, g2, _⟩ := g.get hr'
      have ht2 := sm _ _ ht
      simp only at g1 g2 ht2
      have hjr : j < rs.length := (List.getElem?_eq_some_iff.mp hr').1
      have lp : (Ow.T p).length = p.length := T_len p
      have zp : (Ow.T p).length ≤ sizeLine := by rw [lp]; exact Nat.le_of_lt (small1e6 (by omega))
      obtain ⟨sz, esz⟩ : ∃ sz, sz = p.length * m := ⟨_, rfl⟩
      obtain ⟨B, eB⟩ : ∃ B, B = (plain (rs.take j)).length := ⟨_, rfl⟩
      have ei : ((Ow.T p).length : Int) * (m : Int) = (sz : Int) := by rw [lp, esz]; simp
      have etk : (plain (rs.take (j + 1))).length = B + sz := by
        rw [Om.plain_take_succ hr', List.length_append, Om.rep_length, Nat.mul_comm, ← eB, ← esz]
      have esl : sl (plain (rs.take (j + 1))) b e = sl (plain (rs.take j)) b e ++ sl (rep m p) (b - B) (e - B) := by
        rw [Om.plain_take_succ hr', Om.sl_append, ← eB]
      have lrep : (rep m p).length = sz := by rw [Om.rep_length, Nat.mul_comm, esz]
      rw [← eB]
      refine ⟨t, _, rfl, SqT.of ht2, rfl, _, _, rfl, _, _, rfl, rfl, ?_⟩
      refine ⟨_, rfl, _, rfl, zp, _, rfl, _, _, rfl, rfl, .inl ⟨by rw [lp]; omega, by rw [lp]; omega⟩, ?_⟩
      show gName 7 (V.int (((Ow.T p).length : Int) * (m : Int))) _ _ _
      rw [ei]
      have last : ∀ (σ7 : L2.St) (H7 : Hp), (∃ y5 y6 y7, σ7 = [some (.ref x), some (.int (b : Int)), some (.int (e : Int)), some (.ref fl), some (.int ((B : Int) + (sz : Int))), y5, y6, y7]) → Same H H7 →
          (∃ vs prs, H7 fl = some (.lst vs) ∧ RunsV H7 vs prs ∧ Short prs ∧ prs.length ≤ 3 * (j + 1) ∧ plain prs = sl (plain (rs.take j)) b e ++ sl (rep m p) (b - B) (e - B)) → WPart H x fl b e rs (j + 1) σ7 H7 := fun σ7 H7 st sm7 li => by
        refine ⟨?_, sm7, ?_⟩
        · obtain ⟨y5, y6, y7, rfl⟩ := st
          refine ⟨y5, y6, y7, ?_⟩
          rw [etk]
          rfl
        · rw [esl]
          exact li
      have skip : sl (rep m p) (b - B) (e - B) = [] → WPart H x fl b e rs (j + 1) [some (.ref x), some (.int (b : Int)), some (.int (e : Int)), some (.ref fl), some (.int ((B : Int) + (sz : Int))), some (.str (Ow.T p)), some (.int (m : Int)), some (.int (sz : Int))] H2 := fun z =>
        last _ _ ⟨_, _, _, rfl⟩ sm ⟨ws, prs, ef, hw, hsh, by omega, by rw [z, List.append_nil]; exact epl⟩
      refine ⟨_, rfl, _, rfl, _, rfl, _, _, rfl, rfl, _, _, rfl, rfl, _, rfl, ite2 (fun c1 => ?_) (fun c1 => ?_)⟩
      · have d1 : b < B + sz := by
          have : (b : Int) < (B : Int) + (sz : Int) := of_decide_eq_true c1
          omega
        refine ⟨_, rfl, _, rfl, _, _, rfl, rfl, _, rfl, ite2 (fun c2 => ?_) (fun c2 => ?_)⟩
        · have d2 : B < e := by
            have : (B : Int) < (e : Int) := of_decide_eq_true c2
            omega
          have elo : (if (0 : Int) > (b : Int) - (B : Int) then (0 : Int) else (b : Int) - (B : Int)) = ((b - B : Nat) : Int) := by split <;> omega
          have ehi : (if (sz : Int) < (e : Int) - (B : Int) then (sz : Int) else (e : Int) - (B : Int)) = ((min (e - B) sz : Nat) : Int) := by split <;> omega
          have eargs : ([V.str (Ow.T p), V.int (if (0 : Int) > (b : Int) - (B : Int) then (0 : Int) else (b : Int) - (B : Int)), V.int (if (sz : Int) < (e : Int) - (B : Int) then (sz : Int) else (e : Int) - (B : Int))] : List V) =
              [.str (Ow.T p), .int ((b - B : Nat) : Int), .int ((min (e - B) sz : Nat) : Int)] := by rw [elo, ehi]
          refine ⟨_, rfl, .inl ⟨rfl, _, SqL.of ef⟩, _, rfl, _, rfl, _, rfl, _, _, rfl, rfl, _, _, rfl, _, rfl, _, rfl, _, _, rfl, rfl, _, rfl, _, _, rfl, p, b - B, min (e - B) sz, eargs, g1, g2, by omega, fun H3 a3 rs3 s3 na3 hr3 sh3 l3 e3 => ?_⟩
          obtain ⟨zs, hz, hv3⟩ := hr3
          have ef3 := s3 _ _ ef
          have naf : a3 ≠ fl := fun z => by rw [z, ef] at na3; cases na3
          have lw : ws.length = prs.length := hw.length
          have lz : zs.length = rs3.length := hv3.length
          refine ⟨fl, a3, ws, zs, rfl, rfl, ef3, hz, Nat.le_of_lt (small1e6 (by omega)), ?_⟩
          have keep : ∀ {v r}, RunV H3 v r → RunV (upd H3 fl (.lst (ws ++ zs))) v r := fun {v r} h => by
            obtain ⟨u, eu, hu⟩ := h
            refine ⟨u, eu, ?_⟩
            rw [upd_ne (ne_of hu ef3 (by intro z; cases z))]
            exact hu
          refine ⟨_, rfl, _, rfl, _, _, rfl, rfl, ?_⟩
          refine last _ _ ⟨_, _, _, rfl⟩ (same_write (sm.trans s3) nfl0) ⟨ws ++ zs, prs ++ rs3, upd_same, ?_, hsh.app sh3, ?_, ?_⟩
          · exact RunsV.app (Paired.mapP (hw.same s3) fun _ _ h => keep h) (Paired.mapP hv3 fun _ _ h => keep h)
          · rw [List.length_append]
            omega
          · rw [Om.plain_append, epl, e3]
            congr 1
            have hlo : b - B ≤ min (e - B) sz := by omega
            rw [← Om.sl_min (rep m p) (b - B) (e - B), lrep, Om.sl_rep hlo (by rw [Nat.mul_comm, ← esz]; omega)]
        · have d2 : e ≤ B := by
            have : ¬ (B : Int) < (e : Int) := fun z => c2 (decide_eq_true z)
            omega
          refine ⟨_, rfl, _, rfl, _, _, rfl, rfl, ?_⟩
          exact skip (Om.sl_empty (.inr (by omega)))
      · have d1 : B + sz ≤ b := by
          have : ¬ (b : Int) < (B : Int) + (sz : Int) := fun z => c1 (decide_eq_true z)
          omega
        refine iteF ⟨_, rfl, _, rfl, _, _, rfl, rfl, ?_⟩
        exact skip (Om.sl_empty (.inl (by rw [lrep]; omega)))
    · rintro σ H2 ⟨⟨y5, y6, y7, rfl⟩, sm, ws, prs, ef, hw, hsh, hpl, epl⟩
      rw [hvl] at hpl epl
      rw [List.take_length, eL] at epl
      refine ⟨_, rfl, fun u du nu ndu neu => ?_⟩
      have s3 : Same H2 (upd (upd H2 du (.own u)) u (.ins U du [])) := Same.made nu ndu fun _ _ h _ => h
      refine ⟨u, du, fl, prs, rfl, upd_same, ⟨ws, s3 _ _ ef, hw.same s3⟩, hsh, by omega, fun H3 l3 rs3 bt nl3 hu hr3 g3 l3e e3 => ⟨rfl, ?_⟩⟩
      have s4 : Same H2 H3 := Same.made nu ndu fun b o h z => bt b o z h
      intro y dy ny ndy ney
      have s5 : Same H3 (upd (upd H3 dy (.own y)) y (.ins R dy [])) := Same.made ny ndy fun _ _ h _ => h
      refine ⟨y, dy, u, sl L b e, 3 * n, rfl, upd_same, .inl ⟨du, l3, rs3, s5 _ _ hu, hr3.same s5, g3, by omega, e3.trans epl⟩, fun H4 l4 rs4 bt4 hy4 hr4 g4 n4 e4 hl4 => ⟨rfl, ?_⟩⟩
      have s6 : Same H3 H4 := Same.made ny ndy fun b o h z => bt4 b o z h
      have nl0 : H l3 = none := (sm.trans s3).free nl3
      refine k H4 y (sm.trans (s4.trans s6)) ⟨dy, l4, rs4, hy4, hr4, g4, n4, e4, ?_⟩
      rcases hl4 with z | ⟨du', z⟩
      · exact (sm.trans (s4.trans s5)).free z
      · have e5 := s5 _ _ hu
        rw [e5] at z
        have e6 := Option.some.inj z
        injection e6 with _ _ e7
        rw [← fU_inj e7]
        exact nl0
end
end Ob
end

section
set_option Elab.async false
set_option maxRecDepth 100000
set_option maxHeartbeats 4000000
/-! Od10: __add__, __eq__. -/
namespace Ob
open PySem L2 L2.Ow
open Om (rep per plain Good sl)
theorem Good.short {rs : List (List Nat × Nat)} (g : Good rs) : Short rs := fun r hr => (g r hr).2.1
section
variable {P : Program} {w : World} {K : PySem.W.Frag} {mg : Str → Option Value} {base : Heap} {R U : Addr}
def spAdd (R : Addr) : Sp := fun vs H Q _ => ∃ (x y : Addr) (L M : List Nat) (n m : Nat), vs = [.ref x, .ref y] ∧ RepAt R H x L n ∧ RepAt R H y M m ∧ n ≤ 30000 ∧ m ≤ 30000 ∧
  ∀ H' q, Same H H' → RepAt R H' q (L ++ M) (n + m) → Q (.ref q) H'
theorem scAdd : FnScope ["self", "other"] ["self", "other"] (defScope sAdd) := ⟨rfl, rfl, rfl, by decide +kernel, rfl, by decide +kernel, by decide +kernel⟩
theorem ok_add {f fRI fUI : Addr} {fd fdRI fdUI : FuncData} (F : Fun K "__add__" "Repeats.__add__" sAdd f fd) (Z : Txt K mg R U)
    (MR : Mk K R fRI) (bRI : Binds K fdRI ["self", "pairs"] []) (GRI : FnOk P w K mg base CX0 3 fRI fdRI ["self", "pairs"] (spRepI R U))
    (MU : Mk K U fUI) (bUI : Binds K fdUI ["self", "pairs"] []) (GUI : FnOk P w K mg base CX0 3 fUI fdUI ["self", "pairs"] (spRunsI U)) :
    FnOk P w K mg base CX0 5 f fd ["self", "other"] (spAdd R) := by
  refine F.ok scAdd (fun vs H Q E h => ?_) (fun cdv A outer s H vs Q E hr h => ?_)
  · obtain ⟨x, y, L, M, n, m, rfl, _⟩ := h
    rfl
  · obtain ⟨x, y, L, M, n, m, rfl, ⟨dx, l, rs, hx, ⟨vs, hl, hv⟩, g, hn, eL⟩, ⟨dy, l', qs, hy, ⟨ws, hl', hw⟩, g', hm, eM⟩, nb, mb, k⟩ := h
    have hrR : Room 4 _ := hr
    have hrU : Room 4 _ := hr
    have lv : vs.length = rs.length := hv.length
    have lw : ws.length = qs.length := hw.length
    refine ⟨_, (pss_one (ps_ret (pe_make MR GRI hrR (by rfl) Z.mgR bRI .nil pass0 (pa_cons (pe_make MU GUI hrU (by rfl) Z.mgU bUI .nil pass0 (pa_cons (pe_lst (StX.pa_star (pe_fld (pv 0) rfl) (StX.pa_star (pe_fld (pv 1) rfl) pa_nil))) pa_nil)) pa_nil)))), ?_⟩
    refine ⟨_, rfl, x, R, dx, _, _, rfl, hx, Z.clR, Z.nRuns, fR_runs l, l, vs, rfl, .inr (SqL.of hl), _, rfl, y, R, dy, _, _, rfl, hy, Z.clR, Z.nRuns, fR_runs l', l', ws, rfl, .inr (SqL.of hl'), ?_, fun fl nfl => ?_⟩
    · rw [List.append_nil, List.length_append]
      exact Nat.le_of_lt (small1e6 (by omega))
    have s1 : Same H (upd H fl (.lst (vs ++ (ws ++ [])))) := same_upd nfl
    have hvw : RunsV H (vs ++ (ws ++ [])) (rs ++ qs) := by
      rw [List.append_nil]
      exact RunsV.app hv hw
    intro u du nu ndu neu
    have s3 : Same (upd H fl (.lst (vs ++ (ws ++ [])))) (upd (upd (upd H fl (.lst (vs ++ (ws ++ [])))) du (.own u)) u (.ins U du [])) := Same.made nu ndu fun _ _ h _ => h
    refine ⟨u, du, fl, rs ++ qs, rfl, upd_same, ⟨_, s3 _ _ upd_same, hvw.same (s1.trans s3)⟩, (Good.short g).app (Good.short g'), by rw [List.length_append]; omega, fun H3 l3 rs3 bt nl3 hu hr3 g3 l3e e3 => ⟨rfl, ?_⟩⟩
    have s4 : Same H H3 := s1.trans (Same.made nu ndu fun b o h z => bt b o z h)
    intro z dz nz ndz nez
    have s5 : Same H3 (upd (upd H3 dz (.own z)) z (.ins R dz [])) := Same.made nz ndz fun _ _ h _ => h
    refine ⟨z, dz, u, L ++ M, n + m, rfl, upd_same, .inl ⟨du, l3, rs3, s5 _ _ hu, hr3.same s5, g3, ?_, ?_⟩, fun H4 l4 rs4 bt4 hy4 hr4 g4 n4 e4 _ => ⟨rfl, ?_⟩⟩
    · rw [List.length_append] at l3e
      omega
    · rw [e3, Om.plain_append, eL, eM]
    have s6 : Same H3 H4 := Same.made nz ndz fun b o h q => bt4 b o q h
    exact k H4 z (s4.trans s6) ⟨dz, l4, rs4, hy4, hr4, g4, n4, e4⟩
/-! ### __eq__ -/
def spEq (R : Addr) : Sp := fun vs H Q _ => ∃ (x y : Addr) (L : List Nat) (n m : Nat), vs = [.ref x, .ref y] ∧ RepAt R H x L n ∧ RepAt R H y L m ∧ n ≤ 100000 ∧ m ≤ 100000 ∧ ∀ H', Same H H' → Q (.bl true) H'
theorem scEq : FnScope ["self", "other"] ["self", "other"] (defScope sEq) := ⟨rfl, rfl, rfl, by decide +kernel, rfl, by decide +kernel, by decide +kernel⟩
theorem ok_eq {f fL fS pL : Addr} {fd fdL fdS : FuncData} (F : Fun K "__eq__" "Repeats.__eq__" sEq f fd) (Z : Txt K mg R U) (PL : PropOf K R "length" pL fL) (bL : Binds K fdL ["self"] []) (GL : FnOk P w K mg base CX0 1 fL fdL ["self"] (spLength R))
    (FS : Fun K "same_items" "same_items" sSame fS fdS) (bS : Binds K fdS ["one", "other"] []) (gS : mg "same_items" = some (.ref fS)) (GS : FnOk P w K mg base CX0 2 fS fdS ["one", "other"] spSame) :
    FnOk P w K mg base CX0 3 f fd ["self", "other"] (spEq R) := by
  refine F.ok scEq (fun vs H Q E h => ?_) (fun cdv A outer s H vs Q E hr h => ?_)
  · obtain ⟨x, y, L, n, m, rfl, _⟩ := h
    rfl
  · obtain ⟨x, y, L, n, m, rfl, hX, hY, nb, mb, k⟩ := h
    obtain ⟨dx, l, rs, hx, hrs, g, hn, eL⟩ := id hX
    obtain ⟨dy, l', qs, hy, hqs, g', hm, eM⟩ := id hY
    have hrL : Room 2 _ := hr
    refine ⟨_, (pss_cons (ps_if (PW.pt (pw_or (pt_not (pt_val (pe_callB call_isi (by rfl) Z.isi (by decide +kernel) (pa_cons (pv 1) (pa_cons (pe_glob (v := .ref R) (by rfl) Z.mgR rfl) pa_nil))))) (pw_or1 (pt_cmpR op_ne (pe_prop (pv 0) Z.clR PL GL hrL bL .nil pass0 rfl) (pe_prop (pv 1) Z.clR PL GL hrL bL .nil pass0 rfl) (nomark _)))))
        (pss_one (ps_ret pe_bl)) pss_nil)
      (pss_one (ps_ret (pe_call GS hr (by rfl) gS FS.kp bS .nil pass0 (pa_cons (pe_fld (pv 0) rfl) (pa_cons (pe_fld (pv 1) rfl) pa_nil)))))), ?_⟩
    refine ⟨_, rfl, _, _, .ref R, .ref R, true, rfl, .own R, .base (.ins hy Z.clR Z.cR Z.cG Z.cT Z.mR), ?_, true, rfl, iteF ?_⟩
    · unfold PySem.W.kitOne
      rw [if_pos (by simp)]
    refine ⟨_, rfl, x, dx, _, rfl, hx, x, L, n, rfl, hX, nb, fun H1 s1 => ?_⟩
    refine ⟨_, rfl, y, dy, _, rfl, s1 _ _ hy, y, L, m, rfl, hY.same s1, mb, fun H2 s2 => ?_⟩
    refine ⟨rfl, _, rfl, iteNS rfl ?_⟩
    have s12 := s1.trans s2
    refine ⟨_, rfl, x, R, dx, _, _, rfl, s12 _ _ hx, Z.clR, Z.nRuns, fR_runs l, _, rfl, y, R, dy, _, _, rfl, s12 _ _ hy, Z.clR, Z.nRuns, fR_runs l', l, l', rs, qs, rfl, hrs.same s12, hqs.same s12, g, g', eL.trans eM.symm, k _ s12⟩
end
end Ob
end

section
set_option Elab.async false
set_option maxRecDepth 100000
set_option maxHeartbeats 4000000
/-! Od11: the law's bag and take. -/
namespace Ob
open PySem L2 L2.Ow
open Om (rep per plain Good sl)
theorem pos47 : (0 : Int) < 2147483647 := by decide
theorem pos29 : (0 : Int) < 2147483629 := by decide
/-- the law's bag: a list of three numbers -/
def BagAt (H : Hp) (a : Addr) : Prop := ∃ (g s c : Int), H a = some (.lst [.int g, .int s, .int c]) ∧ 0 ≤ g ∧ 0 ≤ s ∧ s < 2147483648
theorem BagAt.same {H H' : Hp} {a : Addr} (s : Same H H') (h : BagAt H a) : BagAt H' a := let ⟨g, x, c, e, k⟩ := h; ⟨g, x, c, s _ _ e, k⟩
section
variable {P : Program} {w : World} {K : PySem.W.Frag} {mg : Str → Option Value} {base : Heap} {R U : Addr}
def spBag (K : PySem.W.Frag) : Sp := fun vs H Q _ => ∃ (a : Addr) (ns : List Int) (k : Nat), vs = [.ref a, .int (k : Int)] ∧ SqL K H a (ns.map V.int) ∧ ∀ H' p, Same H H' → H p = none → BagAt H' p → Q (.ref p) H'
theorem scBag : FnScope ["_law_script", "_law_at", "_law_cell", "_law_great"] ["_law_script", "_law_at"] (defScope sBag) := ⟨rfl, rfl, rfl, by decide +kernel, rfl, by decide +kernel, by decide +kernel⟩
theorem ok_bag {f : Addr} {fd : FuncData} (F : Fun K "_law_bag" "_law_bag" sBag f fd) (Z : Txt K mg R U) : FnOk P w K mg base CX0 1 f fd ["_law_script", "_law_at"] (spBag K) := by
  refine F.ok scBag (fun vs H Q E h => ?_) (fun cdv A outer s H vs Q E hr h => ?_)
  · obtain ⟨a, ns, k, rfl, _⟩ := h
    rfl
  · obtain ⟨a, ns, k, rfl, hS, q⟩ := h
    refine ⟨_, (pss_cons (ps_set (i := 2) scBag.nd rfl (Or.inl rfl) (pe_ifExp (pt_cmpR op_lt (pv 1) (pe_callB call_len_seq (by rfl) Z.len PySem.boot_len (pa_cons (pv 0) pa_nil)) (nomark _)) (pe_ix ix_list (pv 0) (pv 1) (fun _ _ => rfl)) pe_int))
      (pss_cons (ps_set (i := 3) scBag.nd rfl (Or.inl rfl) (pe_ifExp (pt_cmpR op_ge (pe_callB call_abs (by rfl) Z.abs (by decide +kernel) (pa_cons (pv 2) pa_nil)) (pe_op op_pow pe_int pe_int) (nomark _)) (pe_callB call_abs (by rfl) Z.abs (by decide +kernel) (pa_cons (pv 2) pa_nil)) pe_int))
      (pss_one (ps_ret (pe_lst (pa_cons (pv 3) (pa_cons (pe_op op_add (pe_op op_mod (pe_op op_add (pe_op op_add (pe_op op_mul (pe_op op_mod (pv 2) pe_int) pe_int) (pe_op op_mul pe_int (pv 1))) pe_int) pe_int) pe_int) (pa_cons pe_int pa_nil)))))))), ?_⟩
    have fin : ∀ z : Int, tSeq (tAsg (tIf (tTest (tOp (rI0 fun i j => .bl (decide (j ≤ i))) (tCB (fun xs H Q => ∃ i, xs = [.int i] ∧ Q (.int (if i < 0 then -i else i)) H) (tCons (tVar 2) tNil)) (tOp (rI CPow fun i j => .int (i ^ j.toNat)) (tC (.int 10)) (tC (.int 18)))))
        (tCB (fun xs H Q => ∃ i, xs = [.int i] ∧ Q (.int (if i < 0 then -i else i)) H) (tCons (tVar 2) tNil)) (tC (.int 0))) (gName 3))
        (tRet (tLst (tCons (tVar 3) (tCons (tOp (rI0 fun i j => .int (i + j)) (tOp (rI (fun _ j => 0 < j) fun i j => .int (i % j)) (tOp (rI0 fun i j => .int (i + j)) (tOp (rI0 fun i j => .int (i + j)) (tOp (rI CMul fun i j => .int (i * j)) (tOp (rI (fun _ j => 0 < j) fun i j => .int (i % j)) (tVar 2) (tC (.int 2147483647))) (tC (.int 69621)))
          (tOp (rI CMul fun i j => .int (i * j)) (tC (.int 104723)) (tVar 1))) (tC (.int 31))) (tC (.int 2147483629))) (tC (.int 1))) (tCons (tC (.int 0)) tNil))))) { nx := fun _ H' => Q .non H', rt := Q }
        [some (.ref a), some (.int (k : Int)), some (.int z), none] H := fun z => by
      have go : ∀ g : Int, 0 ≤ g → (tRet (tLst (tCons (tVar 3) (tCons (tOp (rI0 fun i j => .int (i + j)) (tOp (rI (fun _ j => 0 < j) fun i j => .int (i % j)) (tOp (rI0 fun i j => .int (i + j)) (tOp (rI0 fun i j => .int (i + j)) (tOp (rI CMul fun i j => .int (i * j)) (tOp (rI (fun _ j => 0 < j) fun i j => .int (i % j)) (tVar 2) (tC (.int 2147483647))) (tC (.int 69621)))
          (tOp (rI CMul fun i j => .int (i * j)) (tC (.int 104723)) (tVar 1))) (tC (.int 31))) (tC (.int 2147483629))) (tC (.int 1))) (tCons (tC (.int 0)) tNil))))) { nx := fun _ H' => Q .non H', rt := Q }
          [some (.ref a), some (.int (k : Int)), some (.int z), some (.int g)] H := fun g hg => by
        refine ⟨_, rfl, _, rfl, _, _, rfl, rfl, pos47, _, _, rfl, rfl, .inr ⟨by decide, by decide⟩, _, rfl, _, _, rfl, rfl, .inl ⟨by decide, by decide⟩, _, _, rfl, rfl, _, _, rfl, rfl, _, _, rfl, rfl, pos29, _, _, rfl, rfl, (by show 3 ≤ sizeLine; decide), fun p np => ?_⟩
        refine q _ p (same_upd np) np ⟨_, _, _, upd_same, hg, ?_, ?_⟩
        · have := Int.emod_nonneg (z % 2147483647 * 69621 + 104723 * (k : Int) + 31) (show (2147483629 : Int) ≠ 0 by decide)
          omega
        · have := Int.emod_lt_of_pos (z % 2147483647 * 69621 + 104723 * (k : Int) + 31) (show (0 : Int) < 2147483629 by decide)
          omega
      refine ⟨_, rfl, _, rfl, _, _, rfl, rfl, ⟨by decide, by decide, by decide⟩, _, _, rfl, rfl, _, rfl, ite2 (fun c => ?_) (fun c => ?_)⟩
      · refine ⟨_, rfl, _, rfl, ?_⟩
        refine go _ ?_
        split <;> omega
      · exact go 0 (by decide)
    refine ⟨_, rfl, _, rfl, a, _, rfl, .inl hS, _, _, rfl, rfl, _, rfl, ite2 (fun c => ?_) (fun c => ?_)⟩
    · have hk : k < ns.length := by
        have : (k : Int) < ((ns.map V.int).length : Int) := of_decide_eq_true c
        rw [List.length_map] at this
        omega
      have hg : (ns.map V.int)[k]? = some (.int ns[k]) := by rw [List.getElem?_map, List.getElem?_eq_getElem hk]; rfl
      refine ⟨_, rfl, _, rfl, a, _, _, _, rfl, rfl, hS, atI_nat hg, ?_⟩
      exact fin _
    · exact fin 0
/-! ### take -/
def spTake : Sp := fun vs H Q _ => ∃ (a : Addr) (m : Int), vs = [.ref a, .int m] ∧ BagAt H a ∧ 0 < m ∧ m < 2 ^ 240 ∧ ∀ (d : Nat) H', (d : Int) < m → But a H H' → BagAt H' a → Q (.int (d : Int)) H'
theorem scTake : FnScope ["_law_bag_here", "_law_many", "_law_digit"] ["_law_bag_here", "_law_many"] (defScope sTake) := ⟨rfl, rfl, rfl, by decide +kernel, rfl, by decide +kernel, by decide +kernel⟩
theorem ok_take {f : Addr} {fd : FuncData} (F : Fun K "_law_take" "_law_take" sTake f fd) : FnOk P w K mg base CX0 1 f fd ["_law_bag_here", "_law_many"] spTake := by
  refine F.ok scTake (fun vs H Q E h => ?_) (fun cdv A outer s H vs Q E hr h => ?_)
  · obtain ⟨a, m, rfl, _⟩ := h
    rfl
  · obtain ⟨a, m, rfl, ⟨g, z, c, ha, hg, hz0, hz1⟩, hm, hm2, k⟩ := h
    refine ⟨_, (pss_cons (ps_if (pt_cmpR op_gt (pe_ix ix_list (pv 0) pe_int (fun _ _ => rfl)) pe_int (nomark _))
        (pss_cons (ps_set (i := 2) scTake.nd rfl (Or.inl rfl) (pe_op op_mod (pe_ix ix_list (pv 0) pe_int (fun _ _ => rfl)) (pv 1)))
        (pss_cons (ps_asg (pe_op op_fdivW (pe_ix ix_list (pv 0) pe_int (fun _ _ => rfl)) (pv 1)) (pg_sub (pv 0) pe_int set_list))
        (pss_one (ps_ret (pv 2))))) pss_nil)
      (pss_cons (ps_asg (pe_op op_add (pe_ix ix_list (pv 0) pe_int (fun _ _ => rfl)) pe_int) (pg_sub (pv 0) pe_int set_list))
      (pss_cons (ps_asg (pe_op op_mod (pe_op op_add (pe_op op_add (pe_op op_mul (pe_ix ix_list (pv 0) pe_int (fun _ _ => rfl)) pe_int) (pe_op op_mul pe_int (pe_ix ix_list (pv 0) pe_int (fun _ _ => rfl)))) pe_int) pe_int) (pg_sub (pv 0) pe_int set_list))
      (pss_one (ps_ret (pe_op op_mod (pe_op op_mod (pe_op op_pow (pe_op op_fdiv (pe_ix ix_list (pv 0) pe_int (fun _ _ => rfl)) pe_int) pe_int) pe_int) (pv 1))))))), ?_⟩
    have i0 : ∀ x y t : V, atI [x, y, t] 0 = some x := fun _ _ _ => atI_nat (j := 0) rfl
    have i1 : ∀ x y t : V, atI [x, y, t] 1 = some y := fun _ _ _ => atI_nat (j := 1) rfl
    have i2 : ∀ x y t : V, atI [x, y, t] 2 = some t := fun _ _ _ => atI_nat (j := 2) rfl
    have toD : ∀ x : Int, ∃ d : Nat, x % m = (d : Int) ∧ (d : Int) < m := fun x =>
      ⟨(x % m).toNat, by have := Int.emod_nonneg x (show m ≠ 0 by omega); omega, by have := Int.emod_lt_of_pos x hm; have := Int.emod_nonneg x (show m ≠ 0 by omega); omega⟩
    refine ⟨_, rfl, a, _, _, _, rfl, rfl, SqL.of ha, i0 _ _ _, _, _, rfl, rfl, _, rfl, ite2 (fun c1 => ?_) (fun c1 => ?_)⟩
    · obtain ⟨d, ed, hd⟩ := toD g
      refine ⟨_, rfl, a, _, _, _, rfl, rfl, SqL.of ha, i0 _ _ _, _, rfl, _, _, rfl, rfl, hm, ?_⟩
      refine ⟨_, rfl, a, _, _, _, rfl, rfl, SqL.of ha, i0 _ _ _, _, rfl, _, _, rfl, rfl, wide_div (b := 240) hm (by omega) (by decide) (by decide), _, rfl, a, _, _, _, rfl, rfl, ha, (show ixN 3 0 = some 0 by decide), ?_⟩
      refine ⟨_, rfl, ?_⟩
      show Q (V.int (g % m)) _
      rw [ed]
      exact k d _ hd But.upd ⟨g / m, z, c, upd_same, Int.ediv_nonneg hg (by omega), hz0, hz1⟩
    · refine ⟨_, rfl, a, _, _, _, rfl, rfl, SqL.of ha, i2 _ _ _, _, _, rfl, rfl, _, rfl, a, _, _, _, rfl, rfl, ha, (show ixN 3 2 = some 2 by decide), ?_⟩
      refine ⟨_, rfl, a, _, _, _, rfl, rfl, SqL.of upd_same, i1 _ _ _, _, _, rfl, rfl, .inl ⟨by omega, by omega⟩, _, rfl, a, _, _, _, rfl, rfl, SqL.of upd_same, i2 _ _ _, _, _, rfl, rfl, .inl ⟨by decide, by decide⟩, _, _, rfl, rfl, _, _, rfl, rfl, _, _, rfl, rfl, pos47,
        _, rfl, a, _, _, _, rfl, rfl, upd_same, (show ixN 3 1 = some 1 by decide), ?_⟩
      have y0 := Int.emod_nonneg (z * 48271 + 7919 * (c + 1) + 13) (show (2147483647 : Int) ≠ 0 by decide)
      have y1 := Int.emod_lt_of_pos (z * 48271 + 7919 * (c + 1) + 13) pos47
      have y2 : ((z * 48271 + 7919 * (c + 1) + 13) % 2147483647 / 8).natAbs < 2 ^ 64 := by omega
      obtain ⟨d, ed, hd⟩ := toD (((z * 48271 + 7919 * (c + 1) + 13) % 2147483647 / 8) ^ (2 : Int).toNat % 2147483629)
      refine ⟨_, rfl, a, _, _, _, rfl, rfl, SqL.of upd_same, i1 _ _ _, _, _, rfl, rfl, ⟨by decide, by decide⟩, _, _, rfl, rfl, ⟨by decide, by decide, y2⟩, _, _, rfl, rfl, pos29, _, rfl, _, _, rfl, rfl, hm, ?_⟩
      show Q (V.int (((z * 48271 + 7919 * (c + 1) + 13) % 2147483647 / 8) ^ (2 : Int).toNat % 2147483629 % m)) _
      rw [ed]
      exact k d _ hd (But.upd.trans But.upd) ⟨g, _, c + 1, upd_same, hg, y0, by omega⟩
end
end Ob
end

section
set_option Elab.async false
set_option maxRecDepth 100000
set_option maxHeartbeats 4000000
/-! Od12: the law's texts and pairs. -/
namespace Ob
open PySem L2 L2.Ow
open Om (rep per plain Good sl)
theorem join_T : ∀ q : List Nat, Txt.join ("" : Str) (q.map fun c => (⟨#[c]⟩ : Str)) = T q := by
  have e : ("" : Str) = T [] := by decide +kernel
  intro q
  rw [TL.join_eq, e]
  induction q with
  | nil => rfl
  | cons c r ih =>
    cases r with
    | nil => rfl
    | cons d r =>
      show (⟨#[c]⟩ : Str) ++ T [] ++ Str.join (T []) ((⟨#[d]⟩ : Str) :: r.map fun c => (⟨#[c]⟩ : Str)) = T (c :: d :: r)
      have ih' : Str.join (T []) ((⟨#[d]⟩ : Str) :: r.map fun c => (⟨#[c]⟩ : Str)) = T (d :: r) := ih
      rw [ih']
      show (T [c]) ++ T [] ++ T (d :: r) = _
      rw [T_add, T_add]
      rfl
section
variable {P : Program} {w : World} {K : PySem.W.Frag} {mg : Str → Option Value} {base : Heap} {R U : Addr}
theorem BagAt.ne_none {H : Hp} {a D : Addr} (h : BagAt H a) (hD : H D = none) : a ≠ D := by
  obtain ⟨g, s, c, e, _⟩ := h
  exact ne_of_none e hD
theorem BagAt.upd {H : Hp} {a D : Addr} {o : HO} (h : BagAt H a) (n : a ≠ D) : BagAt (L2.upd H D o) a := let ⟨g, s, c, e, k⟩ := h; ⟨g, s, c, by rw [upd_ne n]; exact e, k⟩
theorem but_write {a D : Addr} {H1 H4 : Hp} {o : HO} (b : But a H1 H4) (h : H1 D = none) : But a H1 (upd H4 D o) := fun x u n e => by
  rw [upd_ne (ne_of_none e h)]
  exact b x u n e
theorem Abc.snoc {q : List Nat} {c : Nat} (h : Abc q) (k : c = 97 ∨ c = 98 ∨ c = 99 ∨ c = 100) : Abc (q ++ [c]) := fun d hd => by
  rcases List.mem_append.mp hd with z | z
  · exact h d z
  · rw [List.mem_singleton.mp z]; exact k
def spText : Sp := fun vs H Q _ => ∃ (a : Addr) (m : Nat), vs = [.ref a, .int (m : Int)] ∧ BagAt H a ∧ m ≤ 20 ∧ ∀ (p : List Nat) H', But a H H' → BagAt H' a → Abc p → p.length ≤ m → Q (.str (T p)) H'
theorem scText : FnScope ["_law_bag_here", "_law_most", "_law_turn"] ["_law_bag_here", "_law_most"] (defScope sText) := ⟨rfl, rfl, rfl, by decide +kernel, rfl, by decide +kernel, by decide +kernel⟩
theorem ok_text {f fT : Addr} {fd fdT : FuncData} (F : Fun K "_law_text" "_law_text" sText f fd) (Z : Txt K mg R U) (FT : Fun K "_law_take" "_law_take" sTake fT fdT) (bT : Binds K fdT ["_law_bag_here", "_law_many"] []) (gT : mg "_law_take" = some (.ref fT)) :
    FnOk P w K mg base CX0 2 f fd ["_law_bag_here", "_law_most"] spText := by
  have GT : FnOk P w K mg base CX0 1 fT fdT ["_law_bag_here", "_law_many"] spTake := ok_take FT
  refine F.ok scText (fun vs H Q E h => ?_) (fun cdv A outer s H vs Q E hr h => ?_)
  · obtain ⟨a, m, rfl, _⟩ := h
    rfl
  · obtain ⟨a, m, rfl, hB, hm, k⟩ := h
    refine ⟨_, (pss_one (ps_ret (pe_join pe_str (pe_lc (own := [("_law_turn", 2)]) (g := gName 2) (tt := tYes) rfl scText.nd (pi_range1 rfl Z.range (pa_cons (pe_call GT hr (by rfl) gT FT.kp bT .nil pass0 (pa_cons (pv 0) (pa_cons (pe_op op_add (pv 1) pe_int) pa_nil))) pa_nil)) (blkOk_by (N := ["_law_bag_here", "_law_most", "_law_turn"]) (sc := defScope sText) (by decide +kernel)) (fun _ _ _ _ _ => (pg_name (i := 2) scText.nd rfl (Or.inl rfl))) (fun _ _ _ _ _ => pts_nil) (fun _ _ _ _ _ => (pe_ix ix_str pe_str (pe_call GT hr (by rfl) gT FT.kp bT .nil pass0 (pa_cons (pv 0) (pa_cons pe_int pa_nil))) (fun _ _ => rfl))))))), ?_⟩
    refine ⟨⟨_, rfl⟩, _, rfl, _, rfl, _, _, rfl, rfl, a, (m : Int) + 1, rfl, hB, by omega, by omega, fun n H1 hn b1 hB1 => ?_⟩
    refine ⟨(n : Int), rfl, by omega, by omega, fun D hD => ?_⟩
    have naD := hB1.ne_none hD
    refine lc_m n (fun i H' => But a H1 H' ∧ BagAt H' a ∧ ∃ q : List Nat, q.length = i ∧ Abc q ∧ H' D = some (.lst (q.map fun c => V.str ⟨#[c]⟩))) ⟨But.of (same_upd hD), hB1.same (same_upd hD), [], rfl, (fun _ z => nomatch z), upd_same⟩
      (fun i H' hi _ => by show i < ((n : Int)).toNat; rw [Int.toNat_natCast]; exact hi) (fun H' _ => by show ((n : Int)).toNat ≤ n; rw [Int.toNat_natCast]; exact Nat.le_refl _) (fun i y H2 H3 hi ⟨bt, hB2, q, hq, ha, eD⟩ hy => ?_) (fun H2 ⟨bt, hB2, q, hq, ha, eD⟩ => ?_) (mono_name 2)
    · obtain ⟨rfl, rfl⟩ := hy
      refine ⟨rfl, _, rfl, a, 4, rfl, hB2, by decide, by decide, fun d H4 hd b4 hB4 => ?_⟩
      have hdc : ∃ c, ("abcd" : Str).cps.toList[d]? = some c ∧ (c = 97 ∨ c = 98 ∨ c = 99 ∨ c = 100) := by
        rw [abcd_eq]
        have : d = 0 ∨ d = 1 ∨ d = 2 ∨ d = 3 := by omega
        rcases this with z | z | z | z <;> subst z
        · exact ⟨97, rfl, by decide⟩
        · exact ⟨98, rfl, by decide⟩
        · exact ⟨99, rfl, by decide⟩
        · exact ⟨100, rfl, by decide⟩
      obtain ⟨c, hc, habc⟩ := hdc
      have eD4 := b4 _ _ naD.symm eD
      refine ⟨_, _, c, rfl, rfl, by decide +kernel, atI_nat hc, _, eD4, by rw [List.length_map]; exact small1e6 (by omega), ?_⟩
      refine ⟨but_write (bt.trans b4) hD, hB4.upd naD, q ++ [c], by rw [List.length_append, hq]; rfl, ha.snoc habc, ?_⟩
      rw [upd_same, List.map_append]
      rfl
    · refine ⟨_, D, q.map fun c => (⟨#[c]⟩ : Str), rfl, rfl, .inl (SqL.of ?_), ?_, ?_⟩
      · rw [eD, List.map_map]
        rfl
      · rw [List.map_map]
        have e1 : (List.map ((fun x => x.length) ∘ fun c => (⟨#[c]⟩ : Str)) q) = List.replicate q.length 1 := by
          clear eD ha hq
          induction q with
          | nil => rfl
          | cons c r ih => rw [List.map_cons, ih, List.length_cons, List.replicate_succ]; rfl
        rw [e1]
        have e0 : (("" : Str)).length = 0 := by decide +kernel
        rw [e0]
        simp
        omega
      · show Q (V.str (Txt.join ("" : Str) (q.map fun c => (⟨#[c]⟩ : Str)))) H2
        rw [join_T]
        exact k q H2 (b1.trans bt) hB2 ha (by omega)
end
end Ob
end

section
set_option Elab.async false
set_option maxRecDepth 100000
set_option maxHeartbeats 4000000
/-! Od13: the law's pairs and cuts. -/
namespace Ob
open PySem L2 L2.Ow
open Om (rep per plain Good sl Rise)
section
variable {P : Program} {w : World} {K : PySem.W.Frag} {mg : Str → Option Value} {base : Heap} {R U : Addr}
/-- the bag is written: runs stand as before -/
theorem RunV.bag {a : Addr} {H H' : Hp} {v : V} {r : List Nat × Nat} (b : But a H H') (hB : BagAt H a) (h : RunV H v r) : RunV H' v r := by
  obtain ⟨g, s, c, ea, _⟩ := hB
  obtain ⟨t, e, ht⟩ := h
  exact ⟨t, e, b _ _ (ne_of ht ea (by intro z; cases z)) ht⟩
theorem RunsAt.bag {a l : Addr} {H H' : Hp} {rs : List (List Nat × Nat)} (b : But a H H') (hB : BagAt H a) (h : RunsAt H l rs) : RunsAt H' l rs := by
  obtain ⟨g, s, c, ea, _⟩ := id hB
  obtain ⟨vs, e, hv⟩ := h
  have hne : l ≠ a := by
    intro z
    subst z
    rw [ea] at e
    have e1 : [V.int g, V.int s, V.int c] = vs := HO.lst.inj (Option.some.inj e)
    subst e1
    cases hv with
    | cons h _ =>
      obtain ⟨t, ez, _⟩ := h
      cases ez
  exact ⟨vs, b _ _ hne e, Paired.mapP hv fun _ _ q => RunV.bag b hB q⟩
theorem RepAt.bag {a x : Addr} {H H' : Hp} {L : List Nat} {n : Nat} (b : But a H H') (hB : BagAt H a) (h : RepAt R H x L n) : RepAt R H' x L n := by
  obtain ⟨dx, l, rs, hx, hl, g, hn, e⟩ := h
  obtain ⟨p, s, c, ea, _⟩ := id hB
  exact ⟨dx, l, rs, b _ _ (ne_of hx ea (by intro z; cases z)) hx, hl.bag b hB, g, hn, e⟩
/-! ### pairs -/
def spPairs : Sp := fun vs H Q _ => ∃ (a : Addr) (m t : Nat), vs = [.ref a, .int (m : Int), .int (t : Int)] ∧ BagAt H a ∧ m ≤ 20 ∧ t ≤ 10 ^ 60 ∧
  ∀ (l : Addr) (prs : List (List Nat × Nat)) H', But a H H' → BagAt H' a → RunsAt H' l prs → (∀ r ∈ prs, Abc r.1 ∧ r.1.length ≤ 4 ∧ r.2 ≤ t) → prs.length ≤ m → Q (.ref l) H'
theorem scPairs : FnScope ["_law_bag_here", "_law_most", "_law_times", "_law_turn"] ["_law_bag_here", "_law_most", "_law_times"] (defScope sPairs) := ⟨rfl, rfl, rfl, by decide +kernel, rfl, by decide +kernel, by decide +kernel⟩
theorem ok_pairs {f fT fX : Addr} {fd fdT fdX : FuncData} (F : Fun K "_law_pairs" "_law_pairs" sPairs f fd) (Z : Txt K mg R U) (FT : Fun K "_law_take" "_law_take" sTake fT fdT) (bT : Binds K fdT ["_law_bag_here", "_law_many"] []) (gT : mg "_law_take" = some (.ref fT))
    (FX : Fun K "_law_text" "_law_text" sText fX fdX) (bX : Binds K fdX ["_law_bag_here", "_law_most"] []) (gX : mg "_law_text" = some (.ref fX)) :
    FnOk P w K mg base CX0 3 f fd ["_law_bag_here", "_law_most", "_law_times"] spPairs := by
  have GT : FnOk P w K mg base CX0 1 fT fdT ["_law_bag_here", "_law_many"] spTake := ok_take FT
  have GX : FnOk P w K mg base CX0 2 fX fdX ["_law_bag_here", "_law_most"] spText := ok_text FX Z FT bT gT
  refine F.ok scPairs (fun vs H Q E h => ?_) (fun cdv A outer s H vs Q E hr h => ?_)
  · obtain ⟨a, m, t, rfl, _⟩ := h
    rfl
  · obtain ⟨a, m, t, rfl, hB, hm, ht, k⟩ := h
    have hr1 : Room 1 _ := hr.mono (by decide)
    refine ⟨_, (pss_one (ps_ret (pe_lc (own := [("_law_turn", 3)]) (g := gName 3) (tt := tYes) rfl scPairs.nd (pi_range1 rfl Z.range (pa_cons (pe_call GT hr1 (by rfl) gT FT.kp bT .nil pass0 (pa_cons (pv 0) (pa_cons (pe_op op_add (pv 1) pe_int) pa_nil))) pa_nil)) (blkOk_by (N := ["_law_bag_here", "_law_most", "_law_times", "_law_turn"]) (sc := defScope sPairs) (by decide +kernel)) (fun _ _ _ _ _ => (pg_name (i := 3) scPairs.nd rfl (Or.inl rfl))) (fun _ _ _ _ _ => pts_nil) (fun _ _ _ _ _ => (pe_tup (pa_cons (pe_call GX hr (by rfl) gX FX.kp bX .nil pass0 (pa_cons (pv 0) (pa_cons pe_int pa_nil))) (pa_cons (pe_call GT hr1 (by rfl) gT FT.kp bT .nil pass0 (pa_cons (pv 0) (pa_cons (pe_op op_add (pv 2) pe_int) pa_nil))) pa_nil))))))), ?_⟩
    refine ⟨_, rfl, _, rfl, _, _, rfl, rfl, a, (m : Int) + 1, rfl, hB, by omega, by omega, fun n H1 hn b1 hB1 => ?_⟩
    refine ⟨(n : Int), rfl, by omega, by omega, fun D hD => ?_⟩
    have naD := hB1.ne_none hD
    refine lc_m n (fun i H' => But a H1 H' ∧ BagAt H' a ∧ ∃ vs prs, H' D = some (.lst vs) ∧ RunsV H' vs prs ∧ (∀ r ∈ prs, Abc r.1 ∧ r.1.length ≤ 4 ∧ r.2 ≤ t) ∧ prs.length = i) ⟨But.of (same_upd hD), hB1.same (same_upd hD), [], [], upd_same, .nil, (fun _ z => nomatch z), rfl⟩
      (fun i H' hi _ => by show i < ((n : Int)).toNat; rw [Int.toNat_natCast]; exact hi) (fun H' _ => by show ((n : Int)).toNat ≤ n; rw [Int.toNat_natCast]; exact Nat.le_refl _) (fun i y H2 H3 hi ⟨bt, hB2, ws, prs, eD, hw, hp, hl⟩ hy => ?_) (fun H2 ⟨bt, hB2, ws, prs, eD, hw, hp, hl⟩ => ?_) (mono_name 3)
    · obtain ⟨rfl, rfl⟩ := hy
      refine ⟨rfl, _, rfl, a, 4, rfl, hB2, by decide, fun p H3 b3 hB3 hp3 hl3 => ?_⟩
      refine ⟨_, rfl, _, rfl, _, _, rfl, rfl, a, (t : Int) + 1, rfl, hB3, by omega, by omega, fun d H4 hd b4 hB4 => ?_⟩
      refine ⟨(by show 2 ≤ sizeLine; decide), fun u nu => ?_⟩
      have eD4 := b4 _ _ naD.symm (b3 _ _ naD.symm eD)
      have nau := hB4.ne_none nu
      have nDu : D ≠ u := ne_of_none eD4 nu
      refine ⟨ws, by rw [upd_ne nDu]; exact eD4, by rw [hw.length]; exact small1e6 (by omega), ?_⟩
      have b5 : But a H1 (upd H4 u (.tup [.str (Ow.T p), .int (d : Int)])) := but_write (bt.trans (b3.trans b4)) (by
        cases q : H1 u with
        | none => rfl
        | some o => rw [(bt.trans (b3.trans b4)) u o nau.symm q] at nu; cases nu)
      have keep : ∀ {v r}, RunV (upd H4 u (.tup [.str (Ow.T p), .int (d : Int)])) v r → RunV (upd (upd H4 u (.tup [.str (Ow.T p), .int (d : Int)])) D (.lst (ws ++ [.ref u]))) v r := fun {v r} h => by
        obtain ⟨x, ex, hx⟩ := h
        refine ⟨x, ex, ?_⟩
        rw [upd_ne (ne_of hx ((same_upd nu) _ _ eD4) (by intro z; cases z))]
        exact hx
      refine ⟨but_write b5 hD, (hB4.upd nau).upd naD, ws ++ [.ref u], prs ++ [(p, d)], upd_same, ?_, ?_, by rw [List.length_append, hl]; rfl⟩
      · exact RunsV.snoc (Paired.mapP hw fun _ _ h => keep ((RunV.bag b4 hB3 (RunV.bag b3 hB2 h)).same (same_upd nu))) (keep ⟨u, rfl, upd_same⟩)
      · intro r hr'
        rcases List.mem_append.mp hr' with z | z
        · exact hp r z
        · rw [List.mem_singleton.mp z]
          exact ⟨hp3, hl3, by omega⟩
    · exact k D prs H2 (b1.trans bt) hB2 ⟨ws, eD, hw⟩ hp (by omega)
/-! ### cuts -/
theorem head_zero {ps : List Nat} (h : ps.Pairwise (· ≤ ·)) (h0 : 0 ∈ ps) : ps.head? = some 0 := by
  cases ps with
  | nil => cases h0
  | cons a r =>
    rcases List.mem_cons.mp h0 with e | e
    · rw [← e]; rfl
    · have := (List.pairwise_cons.mp h).1 0 e
      show some a = some 0
      rw [Nat.le_zero.mp this]
theorem last_top {n : Nat} : ∀ {ps : List Nat}, ps.Pairwise (· ≤ ·) → (∀ x ∈ ps, x ≤ n) → n ∈ ps → ps.getLast? = some n
  | [], _, _, h => by cases h
  | [a], _, _, h => by rw [List.mem_singleton.mp h]; rfl
  | a :: b :: r, hp, hb, h => by
    rw [List.getLast?_cons_cons]
    have hp2 := (List.pairwise_cons.mp hp).2
    refine last_top hp2 (fun x hx => hb x (List.mem_cons_of_mem _ hx)) ?_
    rcases List.mem_cons.mp h with e | e
    · have h1 := (List.pairwise_cons.mp hp).1 b (List.mem_cons_self ..)
      have h2 := hb b (List.mem_cons_of_mem _ (List.mem_cons_self ..))
      have : b = n := by omega
      rw [this]
      exact List.mem_cons_self ..
    · exact e
/-- a list of numbers that are none below 0 -/
theorem nats_of : ∀ {ns : List Int}, (∀ x ∈ ns, 0 ≤ x) → ∃ ps : List Nat, ns = ps.map fun n : Nat => ((n : Nat) : Int)
  | [], _ => ⟨[], rfl⟩
  | a :: r, h => by
    obtain ⟨ps, e⟩ := nats_of (ns := r) fun x hx => h x (List.mem_cons_of_mem _ hx)
    have h0 := h a (List.mem_cons_self ..)
    refine ⟨a.toNat :: ps, ?_⟩
    rw [List.map_cons, ← e]
    congr 1
    omega
def spCuts (R : Addr) : Sp := fun vs H Q _ => ∃ (a x : Addr) (L : List Nat) (n : Nat), vs = [.ref a, .ref x] ∧ BagAt H a ∧ RepAt R H x L n ∧ n ≤ 100000 ∧ (L.length : Int) < 2 ^ 239 ∧
  ∀ (l : Addr) (ps : List Nat) H', But a H H' → BagAt H' a → l ≠ a → H' l = some (.lst (ps.map fun n : Nat => V.int ((n : Nat) : Int))) → Rise L.length ps → ps.head? = some 0 → ps.getLast? = some L.length → ps.length ≤ 8 → Q (.ref l) H'
theorem scCuts : FnScope ["_law_bag_here", "_law_home", "_law_some", "_law_turn"] ["_law_bag_here", "_law_home"] (defScope sCuts) := ⟨rfl, rfl, rfl, by decide +kernel, rfl, by decide +kernel, by decide +kernel⟩
theorem ok_cuts {f fT fL pL : Addr} {fd fdT fdL : FuncData} (F : Fun K "_law_cuts" "_law_cuts" sCuts f fd) (Z : Txt K mg R U) (FT : Fun K "_law_take" "_law_take" sTake fT fdT) (bT : Binds K fdT ["_law_bag_here", "_law_many"] []) (gT : mg "_law_take" = some (.ref fT))
    (PL : PropOf K R "length" pL fL) (bL : Binds K fdL ["self"] []) (GL : FnOk P w K mg base CX0 1 fL fdL ["self"] (spLength R)) : FnOk P w K mg base CX0 3 f fd ["_law_bag_here", "_law_home"] (spCuts R) := by
  have GT : FnOk P w K mg base CX0 1 fT fdT ["_law_bag_here", "_law_many"] spTake := ok_take FT
  refine F.ok scCuts (fun vs H Q E h => ?_) (fun cdv A outer s H vs Q E hr h => ?_)
  · obtain ⟨a, x, L, n, rfl, _⟩ := h
    rfl
  · obtain ⟨a, x, L, n, rfl, hB, hX, hn, hL, k⟩ := h
    have hr1 : Room 1 _ := hr.mono (by decide)
    have hrL : Room 2 _ := hr
    refine ⟨_, (pss_cons (ps_setLc (i := 2) (own := [("_law_turn", 3)]) (g := gName 3) (tt := tYes) rfl scCuts.nd rfl rfl (sw_true rfl rfl rfl (by decide +kernel)) (pi_range1 rfl Z.range (pa_cons (pe_call GT hr1 (by rfl) gT FT.kp bT .nil pass0 (pa_cons (pv 0) (pa_cons pe_int pa_nil))) pa_nil)) (blkOk_by (N := ["_law_bag_here", "_law_home", "_law_some", "_law_turn"]) (sc := defScope sCuts) (by decide +kernel)) (fun _ _ _ _ _ => (pg_name (i := 3) scCuts.nd rfl (Or.inl rfl))) (fun _ _ _ _ _ => pts_nil) (fun _ _ _ _ _ => (pe_call GT hr1 (by rfl) gT FT.kp bT .nil pass0 (pa_cons (pv 0) (pa_cons (pe_op op_add (pe_prop (pv 1) Z.clR PL GL hrL bL .nil pass0 rfl) pe_int) pa_nil)))))
      (pss_one (ps_ret (pe_callB cr_sortedI (by rfl) Z.sorted (by decide +kernel) (pa_cons (pe_op op_cat (pe_op op_cat (pe_lst (pa_cons pe_int pa_nil)) (pv 2)) (pe_lst (pa_cons (pe_prop (pv 1) Z.clR PL GL hrL bL .nil pass0 rfl) pa_nil))) pa_nil))))), ?_⟩
    refine ⟨_, rfl, a, 6, rfl, hB, by decide, by decide, fun m H1 hm b1 hB1 => ?_⟩
    refine ⟨(m : Int), rfl, by omega, by omega, fun D hD => ?_⟩
    have naD := hB1.ne_none hD
    have hX1 := hX.bag b1 hB
    refine lc_m m (fun i H' => But a H1 H' ∧ BagAt H' a ∧ ∃ qs : List Nat, H' D = some (.lst (qs.map fun n : Nat => V.int ((n : Nat) : Int))) ∧ (∀ q ∈ qs, q ≤ L.length) ∧ qs.length = i) ⟨But.of (same_upd hD), hB1.same (same_upd hD), [], upd_same, (fun _ z => nomatch z), rfl⟩
      (fun i H' hi _ => by show i < ((m : Int)).toNat; rw [Int.toNat_natCast]; exact hi) (fun H' _ => by show ((m : Int)).toNat ≤ m; rw [Int.toNat_natCast]; exact Nat.le_refl _) (fun i y H2 H3 hi ⟨bt, hB2, qs, eD, hq, hl⟩ hy => ?_) (fun H2 ⟨bt, hB2, qs, eD, hq, hl⟩ => ?_) (mono_name 3)
    · obtain ⟨rfl, rfl⟩ := hy
      have hX2 := hX1.bag bt hB1
      obtain ⟨dx, l, rs, hx, _⟩ := id hX2
      refine ⟨rfl, _, rfl, _, rfl, x, dx, _, rfl, hx, x, L, n, rfl, hX2, hn, fun H3 s3 => ?_⟩
      refine ⟨_, _, rfl, rfl, a, (L.length : Int) + 1, rfl, hB2.same s3, by omega, by omega, fun d H4 hd b4 hB4 => ?_⟩
      have eD4 := b4 _ _ naD.symm (s3 _ _ eD)
      refine ⟨_, eD4, by rw [List.length_map]; exact small1e6 (by omega), but_write (bt.trans ((But.of s3).trans b4)) hD, hB4.upd naD, qs ++ [d], ?_, ?_, by rw [List.length_append, hl]; rfl⟩
      · rw [upd_same, List.map_append]
        rfl
      · intro q hq'
        rcases List.mem_append.mp hq' with z | z
        · exact hq q z
        · rw [List.mem_singleton.mp z]
          omega
    · have hX2 := hX1.bag bt hB1
      obtain ⟨dx, l, rs, hx, _⟩ := id hX2
      refine ⟨(by show 1 ≤ sizeLine; decide), fun p1 np1 => ?_⟩
      have s3 : Same H2 (upd H2 p1 (.lst [.int 0])) := same_upd np1
      refine ⟨_, rfl, p1, D, [.int 0], _, rfl, rfl, upd_same, s3 _ _ eD, by rw [List.length_map]; exact Nat.le_of_lt (small1e6 (by show 1 + _ ≤ _; omega)), fun p2 np2 => ?_⟩
      have s4 : Same H2 (upd (upd H2 p1 (.lst [.int 0])) p2 (.lst ([.int 0] ++ qs.map fun n : Nat => V.int ((n : Nat) : Int)))) := s3.trans (same_upd np2)
      refine ⟨_, rfl, x, dx, _, rfl, s4 _ _ hx, x, L, n, rfl, hX2.same s4, hn, fun H5 s5 => ?_⟩
      refine ⟨(by show 1 ≤ sizeLine; decide), fun p3 np3 => ?_⟩
      have s6 : Same H5 (upd H5 p3 (.lst [.int (L.length : Int)])) := same_upd np3
      refine ⟨p2, p3, _, _, rfl, rfl, s6 _ _ (s5 _ _ upd_same), upd_same, ?_, fun p4 np4 => ?_⟩
      · rw [List.length_append, List.length_map]
        exact Nat.le_of_lt (small1e6 (by show 1 + _ + 1 ≤ _; omega))
      have s7 : Same H2 (upd (upd H5 p3 (.lst [.int (L.length : Int)])) p4 (.lst ([.int 0] ++ (qs.map fun n : Nat => V.int ((n : Nat) : Int)) ++ [.int (L.length : Int)]))) := s4.trans (s5.trans (s6.trans (same_upd np4)))
      have eall : ([.int 0] ++ (qs.map fun n : Nat => V.int ((n : Nat) : Int)) ++ [.int (L.length : Int)] : List V) = ((([0] ++ qs ++ [L.length]).map fun n : Nat => ((n : Nat) : Int))).map V.int := by
        simp
      refine ⟨p4, (([0] ++ qs ++ [L.length]).map fun n : Nat => ((n : Nat) : Int)), rfl, SqL.of (by rw [upd_same, eall]), fun ns' q pm so nq => ?_⟩
      have hnn : ∀ y ∈ ns', 0 ≤ y := fun y hy => by
        have := pm.mem_iff.mp hy
        obtain ⟨z, _, rfl⟩ := List.mem_map.mp this
        omega
      obtain ⟨ps, rfl⟩ := nats_of hnn
      have pmN : ps.Perm ([0] ++ qs ++ [L.length]) := by
        have := pm.map Int.toNat
        rw [List.map_map, List.map_map] at this
        have e1 : ∀ l : List Nat, l.map (Int.toNat ∘ fun n : Nat => ((n : Nat) : Int)) = l := fun l => by
          induction l with
          | nil => rfl
          | cons a r ih => rw [List.map_cons, ih]; rfl
        rw [e1, e1] at this
        exact this
      have hpw : ps.Pairwise (· ≤ ·) := by
        have := List.pairwise_map.mp so
        exact this.imp fun h => by omega
      have hall : ∀ y ∈ ps, y ≤ L.length := fun y hy => by
        have := pmN.mem_iff.mp hy
        simp only [List.mem_append, List.mem_singleton] at this
        rcases this with (z | z) | z
        · omega
        · exact hq y z
        · omega
      have h0 : 0 ∈ ps := pmN.mem_iff.mpr (by simp)
      have hL' : L.length ∈ ps := pmN.mem_iff.mpr (by simp)
      have hlen : ps.length = qs.length + 2 := by
        rw [pmN.length_eq]
        simp
      have naq : a ≠ q := ((hB2.same s7)).ne_none nq
      refine k q ps _ (b1.trans (bt.trans (But.of (s7.trans (same_upd nq))))) ((hB2.same s7).upd naq) naq.symm ?_ ⟨hpw, hall⟩ (head_zero hpw h0) (last_top hpw hall hL') (by omega)
      rw [upd_same, List.map_map]
      rfl
end
end Ob
end

section
set_option Elab.async false
set_option maxRecDepth 100000
set_option maxHeartbeats 8000000
/-! Od14: the law's parts_right. -/
namespace Ob
open PySem L2 L2.Ow
open Om (rep per plain Good sl Rise between gaps)
/-- whole numbers as values -/
def Ints (ps : List Nat) : List V := ps.map fun n : Nat => V.int ((n : Nat) : Int)
theorem Ints.get {ps : List Nat} {i p : Nat} (h : ps[i]? = some p) : (Ints ps)[i]? = some (.int (p : Int)) := by
  unfold Ints
  rw [List.getElem?_map, h]
  rfl
theorem Ints.length (ps : List Nat) : (Ints ps).length = ps.length := List.length_map ..
theorem cutV1 (xs : List V) : cutV xs (some 1) none = xs.drop 1 := by
  have e : HT.sIx xs.length 0 (some 1) = min 1 xs.length := HT.sIx_nat xs.length 0 1
  unfold cutV
  rw [e, HT.sIx_none]
  cases xs with
  | nil => rfl
  | cons x r => simp
theorem Ints.tail (ps : List Nat) : cutV (Ints ps) (some 1) none = Ints (ps.drop 1) := by
  rw [cutV1]
  unfold Ints
  rw [List.map_drop]
section
variable {K : PySem.W.Frag} {H H' : Hp} {l c : Addr} {ps : List Nat} {i : Nat} {v : V}
theorem zip_go (h1 : H l = some (.lst (Ints ps))) (h2 : H c = some (.lst (Ints (ps.drop 1)))) (hi : i < ps.length - 1) : (Itz K l c).go i H := by
  obtain ⟨p, hp⟩ : ∃ p, ps[i]? = some p := ⟨_, List.getElem?_eq_getElem (by omega)⟩
  obtain ⟨q, hq⟩ : ∃ q, ps[i + 1]? = some q := ⟨_, List.getElem?_eq_getElem (by omega)⟩
  exact ⟨_, _, _, _, SqL.of h1, SqL.of h2, Ints.get hp, Ints.get (by rw [List.getElem?_drop, Nat.add_comm]; exact hq)⟩
theorem zip_stop (h1 : H l = some (.lst (Ints ps))) (h2 : H c = some (.lst (Ints (ps.drop 1)))) : (Itz K l c).stop (ps.length - 1) H :=
  ⟨_, _, SqL.of h1, SqL.of h2, .inr (by rw [Ints.length, List.length_drop]; exact Nat.le_refl _)⟩
theorem zip_yld (h1 : H l = some (.lst (Ints ps))) (h2 : H c = some (.lst (Ints (ps.drop 1)))) (hi : i < ps.length - 1) (y : (Itz K l c).yld i H v H') :
    ∃ (t : Addr) (p q : Nat), v = .ref t ∧ H t = none ∧ H' = upd H t (.tup [.int (p : Int), .int (q : Int)]) ∧ ps[i]? = some p ∧ ps[i + 1]? = some q := by
  obtain ⟨p, hp⟩ : ∃ p, ps[i]? = some p := ⟨_, List.getElem?_eq_getElem (by omega)⟩
  obtain ⟨q, hq⟩ : ∃ q, ps[i + 1]? = some q := ⟨_, List.getElem?_eq_getElem (by omega)⟩
  obtain ⟨t, x1, x2, rfl, nt, rfl, f1, f2⟩ := y
  have e1 : x1 = .int (p : Int) := Option.some.inj ((f1 _ (SqL.of h1)).symm.trans (Ints.get hp))
  have e2 : x2 = .int (q : Int) := Option.some.inj ((f2 _ (SqL.of h2)).symm.trans (Ints.get (by rw [List.getElem?_drop, Nat.add_comm]; exact hq)))
  subst e1 e2
  exact ⟨t, p, q, rfl, nt, rfl, hp, hq⟩
end
/-- a list of Repeats stands at l -/
abbrev PartV (R : Addr) (H : Hp) (n : Nat) (v : V) (L : List Nat) : Prop := ∃ x, v = V.ref x ∧ RepAt R H x L n
def PartsAt (R : Addr) (H : Hp) (l : Addr) (Ls : List (List Nat)) (n : Nat) : Prop := ∃ vs, H l = some (.lst vs) ∧ Paired (PartV R H n) vs Ls
theorem parts_same {R : Addr} {H H' : Hp} {n : Nat} {vs : List V} {Ls : List (List Nat)} (s : Same H H') (h : Paired (PartV R H n) vs Ls) : Paired (PartV R H' n) vs Ls := Paired.mapP h fun _ _ ⟨x, e, q⟩ => ⟨x, e, q.same s⟩
/-- .. while the list at D that will hold them is being filled -/
abbrev PartD (R : Addr) (H : Hp) (D : Addr) (n : Nat) (v : V) (L : List Nat) : Prop := ∃ x dx l rs, v = V.ref x ∧ H x = some (.ins R dx (fR l)) ∧ RunsAt H l rs ∧ Good rs ∧ rs.length ≤ n ∧ plain rs = L ∧ l ≠ D
theorem partD_v {R : Addr} {H : Hp} {D : Addr} {n : Nat} {v : V} {L : List Nat} (h : PartD R H D n v L) : PartV R H n v L := let ⟨x, dx, l, rs, e, a, b, c, d, f, _⟩ := h; ⟨x, e, dx, l, rs, a, b, c, d, f⟩
theorem partD_same {R : Addr} {H H' : Hp} {D : Addr} {n : Nat} {v : V} {L : List Nat} (s : Same H H') (h : PartD R H D n v L) : PartD R H' D n v L := let ⟨x, dx, l, rs, e, a, b, c, d, f, g⟩ := h; ⟨x, dx, l, rs, e, s _ _ a, b.same s, c, d, f, g⟩
theorem partD_upd {R : Addr} {H : Hp} {D : Addr} {n : Nat} {v : V} {L : List Nat} {vs ws : List V} (e : H D = some (.lst vs)) (h : PartD R H D n v L) : PartD R (upd H D (.lst ws)) D n v L := by
  obtain ⟨x, dx, l, rs, rfl, hx, ⟨us, hl, hu⟩, c, d, f, g⟩ := h
  refine ⟨x, dx, l, rs, rfl, ?_, ⟨us, by rw [upd_ne g]; exact hl, Paired.mapP hu fun _ _ q => ?_⟩, c, d, f, g⟩
  · rw [upd_ne (ne_of hx e (by intro z; cases z))]
    exact hx
  · obtain ⟨t, et, ht⟩ := q
    refine ⟨t, et, ?_⟩
    rw [upd_ne (ne_of ht e (by intro z; cases z))]
    exact ht
theorem paired_snoc {α β : Type} {F : α → β → Prop} : ∀ {vs : List α} {Ls : List β} {v : α} {L : β}, Paired F vs Ls → F v L → Paired F (vs ++ [v]) (Ls ++ [L])
  | _, _, _, _, Paired.nil, k => Paired.cons k Paired.nil
  | _, _, _, _, Paired.cons h t, k => Paired.cons h (paired_snoc t k)
theorem parts_get {R : Addr} {H : Hp} {n : Nat} : ∀ {vs : List V} {Ls : List (List Nat)} {i : Nat} {v : V}, Paired (PartV R H n) vs Ls → vs[i]? = some v → ∃ L, Ls[i]? = some L ∧ PartV R H n v L
  | _, _, _, _, Paired.nil, e => by simp at e
  | _, _, 0, _, Paired.cons h _, e => by
    have e1 := Option.some.inj e
    subst e1
    exact ⟨_, rfl, h⟩
  | _, _, i + 1, v, Paired.cons _ t, e => parts_get (i := i) (v := v) t e
/-- what the operators' rules ask of the class -/
structure Ops (K : PySem.W.Frag) (R fA fE fG fB : Addr) : Prop where
  sf : PySem.W.selfFirst K R = true
  add : PySem.W.findIn K (.ref R) "__add__" = some (some (.ref fA))
  addF : PySem.W.isFn K (.ref fA) = true
  ne : PySem.W.findIn K (.ref R) "__ne__" = some (some (.builtin "object.__ne__"))
  sub : PySem.W.subIn K (.ref R) (.type "object") = some true
  eq : PySem.W.findIn K (.ref R) "__eq__" = some (some (.ref fE))
  eqF : PySem.W.isFn K (.ref fE) = true
  item : PySem.W.findIn K (.ref R) "__getitem__" = some (some (.ref fG))
  itemN : PySem.W.fnIn K fG = true
  itemF : PySem.W.isFn K (.ref fG) = true
  bool : PySem.W.findIn K (.ref R) "__bool__" = some (some (.ref fB))
  boolF : PySem.W.isFn K (.ref fB) = true
theorem dpAll_ints {K : PySem.W.Frag} {H : Hp} : ∀ ns : List Int, DpAll K H (ns.map V.int) (ns.map PyData.int)
  | [] => .nil
  | n :: r => .cons (.int n) (dpAll_ints r)
theorem canLay_ints : ∀ ns : List Int, PyData.canLayAll0 (ns.map PyData.int) = true
  | [] => rfl
  | n :: r => by
    show (true && PyData.canLayAll0 (r.map PyData.int)) = true
    rw [canLay_ints r]
    rfl
theorem depth_ints : ∀ ns : List Int, PyData.depthAll (ns.map PyData.int) = 0
  | [] => rfl
  | n :: r => by
    show max 0 (PyData.depthAll (r.map PyData.int)) = 0
    rw [depth_ints r]
    rfl
theorem shaped_ints (ns : List Int) : SeqAt.shaped (.list (ns.map PyData.int)) = true := by
  unfold SeqAt.shaped
  have e1 : PyData.canLay0 (.list (ns.map PyData.int)) = true := canLay_ints ns
  have e2 : PyData.depth (.list (ns.map PyData.int)) ≤ 64 := by
    show PyData.depthAll (ns.map PyData.int) + 1 ≤ 64
    rw [depth_ints]
    decide
  rw [e1, decide_eq_true e2]
  rfl
section
variable {K : PySem.W.Frag} {R D D2 : Addr} {n : Nat} {vs : List V} {Ls : List (List Nat)} {H : Hp} {Qd : Hp → Prop} {y0 y1 y3 y4 y5 y6 y7 : Option V}
/-- [part.length for part in parts] -/
theorem lens_lc (hD : H D = some (.lst vs)) (hP : Paired (PartV R H n) vs Ls) (hn : n ≤ 100000) (hl : Ls.length ≤ 1000)
    (hD2 : H D2 = none) (k : ∀ H', Same H H' → H' D2 = some (.lst ((Ls.map fun l => ((l.length : Nat) : Int)).map V.int)) → Qd H') :
    ∃ W : Nat → Nat → Hp → Prop, (∃ m, W 0 m (upd H D2 (.lst []))) ∧ ∀ i m H, W i m H →
      ((Itl K D).stop i H ∧ Qd H) ∨ ((Itl K D).go i H ∧ ∃ Nx : Hp → Prop, (∀ H', Nx H' → ∃ m', m' < m ∧ W (i + 1) m' H') ∧ ∀ x H', (Itl K D).yld i H x H' → gName 4 x (wipe [y0, y1, some (.ref D), y3, y4, y5, y6, y7] [4]) H' fun σ2 H2 => wipe σ2 [4] = wipe [y0, y1, some (.ref D), y3, y4, y5, y6, y7] [4] ∧ tYes σ2 H2 fun b H3 =>
        if b = true then tProp R (spLength R) [] E0 (tVar 4) σ2 H3 fun y H4 => ∃ acc, H4 D2 = some (.lst acc) ∧ acc.length < sizeLine ∧ Nx (upd H4 D2 (.lst (acc ++ [y]))) else Nx H3) := by
  have lv : vs.length = Ls.length := Paired.length hP
  refine lc_m Ls.length (fun i H' => Same H H' ∧ H' D2 = some (.lst (((Ls.take i).map fun l => ((l.length : Nat) : Int)).map V.int))) ⟨same_upd hD2, upd_same⟩
    (fun i H' hi W => ⟨vs, vs[i]'(by omega), SqL.of (W.1 _ _ hD), List.getElem?_eq_getElem (by omega)⟩) (fun H' W => ⟨vs, SqL.of (W.1 _ _ hD), by omega⟩) (fun i y H1 H2 hi ⟨s1, e1⟩ hy => ?_) (fun H' ⟨s1, e1⟩ => ?_) (mono_name 4)
  · obtain ⟨rfl, hy⟩ := hy
    obtain ⟨L, hLi, x, rfl, hX⟩ := parts_get hP (hy vs (SqL.of (s1 _ _ hD)))
    have hX1 := hX.same s1
    obtain ⟨dx, l, rs, hx, _⟩ := id hX1
    refine ⟨rfl, _, rfl, x, dx, _, rfl, hx, x, L, n, rfl, hX1, hn, fun H3 s3 => ?_⟩
    refine ⟨_, s3 _ _ e1, by rw [List.length_map, List.length_map, List.length_take]; exact small1e6 (by omega), same_write (s1.trans s3) hD2, ?_⟩
    rw [upd_same, List.take_add_one, hLi, List.map_append, List.map_append]
    rfl
  · rw [List.take_length] at e1
    exact k H' s1 e1
/-- [part.count(item) for part in parts] -/
theorem counts_lc {c : Nat} (hD : H D = some (.lst vs)) (hP : Paired (PartV R H n) vs Ls) (hn : n ≤ 100000) (hl : Ls.length ≤ 1000)
    (hD2 : H D2 = none) (k : ∀ H', Same H H' → H' D2 = some (.lst ((Ls.map fun l => ((l.count c : Nat) : Int)).map V.int)) → Qd H') :
    ∃ W : Nat → Nat → Hp → Prop, (∃ m, W 0 m (upd H D2 (.lst []))) ∧ ∀ i m H, W i m H →
      ((Itl K D).stop i H ∧ Qd H) ∨ ((Itl K D).go i H ∧ ∃ Nx : Hp → Prop, (∀ H', Nx H' → ∃ m', m' < m ∧ W (i + 1) m' H') ∧ ∀ x H', (Itl K D).yld i H x H' → gName 4 x (wipe [y0, y1, some (.ref D), y3, y4, some (.str ⟨#[c]⟩), y6, y7] [4]) H' fun σ2 H2 => wipe σ2 [4] = wipe [y0, y1, some (.ref D), y3, y4, some (.str ⟨#[c]⟩), y6, y7] [4] ∧ tYes σ2 H2 fun b H3 =>
        if b = true then tMeth R "count" (spCount R) [] E0 (tVar 4) (tCons (tVar 5) tNil) σ2 H3 fun y H4 => ∃ acc, H4 D2 = some (.lst acc) ∧ acc.length < sizeLine ∧ Nx (upd H4 D2 (.lst (acc ++ [y]))) else Nx H3) := by
  have lv : vs.length = Ls.length := Paired.length hP
  refine lc_m Ls.length (fun i H' => Same H H' ∧ H' D2 = some (.lst (((Ls.take i).map fun l => ((l.count c : Nat) : Int)).map V.int))) ⟨same_upd hD2, upd_same⟩
    (fun i H' hi W => ⟨vs, vs[i]'(by omega), SqL.of (W.1 _ _ hD), List.getElem?_eq_getElem (by omega)⟩) (fun H' W => ⟨vs, SqL.of (W.1 _ _ hD), by omega⟩) (fun i y H1 H2 hi ⟨s1, e1⟩ hy => ?_) (fun H' ⟨s1, e1⟩ => ?_) (mono_name 4)
  · obtain ⟨rfl, hy⟩ := hy
    obtain ⟨L, hLi, x, rfl, hX⟩ := parts_get hP (hy vs (SqL.of (s1 _ _ hD)))
    have hX1 := hX.same s1
    obtain ⟨dx, l, rs, hx, _⟩ := id hX1
    refine ⟨rfl, _, rfl, x, dx, _, rfl, hx, fR_no _ (by decide +kernel), _, rfl, x, L, n, c, rfl, hX1, hn, fun H3 s3 => ?_⟩
    refine ⟨_, s3 _ _ e1, by rw [List.length_map, List.length_map, List.length_take]; exact small1e6 (by omega), same_write (s1.trans s3) hD2, ?_⟩
    rw [upd_same, List.take_add_one, hLi, List.map_append, List.map_append]
    rfl
  · rw [List.take_length] at e1
    exact k H' s1 e1
end
theorem sum_lens (Ls : List (List Nat)) : (Ls.map fun l => ((l.length : Nat) : Int)).sum = ((Ls.flatten.length : Nat) : Int) := by
  rw [← Om.flat_length, ← sum_cast, List.map_map]
  rfl
theorem sum_counts (Ls : List (List Nat)) (c : Nat) : (Ls.map fun l => ((l.count c : Nat) : Int)).sum = ((Ls.flatten.count c : Nat) : Int) := by
  rw [← Om.flat_count, ← sum_cast, List.map_map]
  rfl
theorem abcd_size : ("abcd" : Str).cps.size = 4 := by decide +kernel
section
variable {P : Program} {w : World} {K : PySem.W.Frag} {mg : Str → Option Value} {base : Heap} {R U : Addr}
def spRight (R : Addr) : Sp := fun vs H Q _ => ∃ (x l : Addr) (L : List Nat) (n : Nat) (ps : List Nat), vs = [.ref x, .ref l] ∧ RepAt R H x L n ∧ n ≤ 1000 ∧ H l = some (.lst (Ints ps)) ∧ Rise L.length ps ∧ ps.head? = some 0 ∧ ps.getLast? = some L.length ∧ ps.length ≤ 8 ∧
  ∀ H', Same H H' → Q (.bl true) H'
theorem scRight : FnScope ["_law_home", "_law_places", "_law_parts", "_law_whole", "_law_part", "_law_item", "_law_low", "_law_high"] ["_law_home", "_law_places"] (defScope sRight) := ⟨rfl, rfl, rfl, by decide +kernel, rfl, by decide +kernel, by decide +kernel⟩
theorem ok_right {f fL fP fC fRI fA fE fG fB pL : Addr} {fd fdL fdP fdC fdRI fdA fdE : FuncData} (F : Fun K "_law_parts_right" "_law_parts_right" sRight f fd) (Z : Txt K mg R U) (O : Ops K R fA fE fG fB)
    (PL : PropOf K R "length" pL fL) (bL : Binds K fdL ["self"] []) (GL : FnOk P w K mg base CX0 1 fL fdL ["self"] (spLength R))
    (mP : Meth K R "part" fP) (bP : Binds K fdP ["self", "begin", "end"] []) (GP : FnOk P w K mg base CX0 5 fP fdP ["self", "begin", "end"] (spPart R))
    (mC : Meth K R "count" fC) (bC : Binds K fdC ["self", "item"] []) (GC : FnOk P w K mg base CX0 1 fC fdC ["self", "item"] (spCount R))
    (MR : Mk K R fRI) (bRI : Binds K fdRI ["self", "pairs"] []) (GRI : FnOk P w K mg base CX0 3 fRI fdRI ["self", "pairs"] (spRepI R U))
    (bA : Binds K fdA ["self", "other"] []) (GA : FnOk P w K mg base CX0 5 fA fdA ["self", "other"] (spAdd R))
    (bE : Binds K fdE ["self", "other"] []) (GE : FnOk P w K mg base CX0 3 fE fdE ["self", "other"] (spEq R)) :
    FnOk P w K mg base CX0 6 f fd ["_law_home", "_law_places"] (spRight R) := by
  refine F.ok scRight (fun vs H Q E h => ?_) (fun cdv A outer s H vs Q E hr h => ?_)
  · obtain ⟨x, l, L, n, ps, rfl, _⟩ := h
    rfl
  · obtain ⟨x, l, L, n, ps, rfl, hX, hn, hl, rise, hhead, hlast, hps, k⟩ := h
    have hr1 : Room 1 _ := hr.mono (by decide)
    have hrL : Room 2 _ := hr.mono (by decide)
    have hrP : Room 5 _ := hr
    have hrA : Room 5 _ := hr
    have hrE : Room 4 _ := hr.mono (by decide)
    have hrR : Room 4 _ := hr.mono (by decide)
    refine ⟨_, (pss_cons (ps_setLc (i := 2) (own := [("_law_low", 6), ("_law_high", 7)]) (g := gTup K 2 (gCons (gName 6) (gCons (gName 7) gNil))) (tt := tYes) rfl scRight.nd rfl rfl (sw_true rfl rfl rfl (by decide +kernel)) (pi_zip (by rfl) Z.zip (pa_cons (pv 1) (pa_cons (pe_slice sl_list (pv 1) (po_some pe_int) po_none) pa_nil))) (blkOk_by (N := ["_law_home", "_law_places", "_law_parts", "_law_whole", "_law_part", "_law_item", "_law_low", "_law_high"]) (sc := defScope sRight) (by decide +kernel)) (fun _ _ _ _ _ => (pg_tup rfl (pgs_cons (pg_name (i := 6) scRight.nd rfl (Or.inl rfl)) (pgs_cons (pg_name (i := 7) scRight.nd rfl (Or.inl rfl)) pgs_nil)))) (fun _ _ _ _ _ => pts_nil) (fun _ _ _ _ _ => (pe_meth (pv 0) Z.clR mP GP hrP bP .nil pass0 (pa_cons (pv 6) (pa_cons (pv 7) pa_nil)))))
      (pss_cons (ps_set (i := 3) scRight.nd rfl (Or.inl rfl) (pe_make MR GRI hrR (by rfl) Z.mgR bRI .nil pass0 (pa_cons (pe_lst pa_nil) pa_nil)))
      (pss_cons (ps_for PassesOwn.never rfl (pi_list (pv 2)) (pg_name (i := 4) scRight.nd rfl (Or.inl rfl))
        (pss_one (ps_set (i := 3) scRight.nd rfl (Or.inl rfl) (pe_op (op_addO GA hrA bA pass0 O.sf O.add O.addF) (pv 3) (pv 4)))))
      (pss_cons (ps_if (PW.pt (pw_or (pt_cmpR (op_neO GE hrE bE pass0 O.ne O.sub O.eq O.eqF) (pv 3) (pv 0) (nomark _)) (pw_or1 (pt_cmpR op_ne (pe_callB (cr_sum rfl) (by rfl) Z.sum (by decide +kernel) (pa_cons (pe_lc (own := [("_law_part", 4)]) (g := gName 4) (tt := tYes) rfl scRight.nd (pi_list (pv 2)) (blkOk_by (N := ["_law_home", "_law_places", "_law_parts", "_law_whole", "_law_part", "_law_item", "_law_low", "_law_high"]) (sc := defScope sRight) (by decide +kernel)) (fun _ _ _ _ _ => (pg_name (i := 4) scRight.nd rfl (Or.inl rfl))) (fun _ _ _ _ _ => pts_nil) (fun _ _ _ _ _ => (pe_prop (pv 4) Z.clR PL GL hrL bL .nil pass0 rfl))) pa_nil)) (pe_prop (pv 0) Z.clR PL GL hrL bL .nil pass0 rfl) (nomark _)))))
        (pss_one (ps_ret pe_bl)) pss_nil)
      (pss_cons (ps_for PassesOwn.never rfl (pi_str pe_str) (pg_name (i := 5) scRight.nd rfl (Or.inr rfl))
        (pss_one (ps_if (pt_cmpR op_ne (pe_callB (cr_sum rfl) (by rfl) Z.sum (by decide +kernel) (pa_cons (pe_lc (own := [("_law_part", 4)]) (g := gName 4) (tt := tYes) rfl scRight.nd (pi_list (pv 2)) (blkOk_by (N := ["_law_home", "_law_places", "_law_parts", "_law_whole", "_law_part", "_law_item", "_law_low", "_law_high"]) (sc := defScope sRight) (by decide +kernel)) (fun _ _ _ _ _ => (pg_name (i := 4) scRight.nd rfl (Or.inl rfl))) (fun _ _ _ _ _ => pts_nil) (fun _ _ _ _ _ => (pe_meth (pv 4) Z.clR mC GC hr1 bC .nil pass0 (pa_cons (pv 5) pa_nil)))) pa_nil)) (pe_meth (pv 0) Z.clR mC GC hr1 bC .nil pass0 (pa_cons (pv 5) pa_nil)) (nomark _))
          (pss_one (ps_ret pe_bl)) pss_nil)))
      (pss_one (ps_ret (pe_cmpR (op_eqD hr.units) (pe_lc (own := [("_law_part", 4)]) (g := gName 4) (tt := tYes) rfl scRight.nd (pi_list (pv 2)) (blkOk_by (N := ["_law_home", "_law_places", "_law_parts", "_law_whole", "_law_part", "_law_item", "_law_low", "_law_high"]) (sc := defScope sRight) (by decide +kernel)) (fun _ _ _ _ _ => (pg_name (i := 4) scRight.nd rfl (Or.inl rfl))) (fun _ _ _ _ _ => pts_nil) (fun _ _ _ _ _ => (pe_prop (pv 4) Z.clR PL GL hrL bL .nil pass0 rfl))) (pe_lc (own := [("_law_low", 6), ("_law_high", 7)]) (g := gTup K 2 (gCons (gName 6) (gCons (gName 7) gNil))) (tt := tYes) rfl scRight.nd (pi_zip (by rfl) Z.zip (pa_cons (pv 1) (pa_cons (pe_slice sl_list (pv 1) (po_some pe_int) po_none) pa_nil))) (blkOk_by (N := ["_law_home", "_law_places", "_law_parts", "_law_whole", "_law_part", "_law_item", "_law_low", "_law_high"]) (sc := defScope sRight) (by decide +kernel)) (fun _ _ _ _ _ => (pg_tup rfl (pgs_cons (pg_name (i := 6) scRight.nd rfl (Or.inl rfl)) (pgs_cons (pg_name (i := 7) scRight.nd rfl (Or.inl rfl)) pgs_nil)))) (fun _ _ _ _ _ => pts_nil) (fun _ _ _ _ _ => (pe_op op_sub (pv 7) (pv 6)))) (nomark _))))))))), ?_⟩
    have bl := Om.between_length L ps
    have hall : (between L ps).flatten = L := by rw [Om.between_flat L ps 0 L.length rise hhead hlast, Om.sl_all]
    obtain ⟨Ls, eLs⟩ : ∃ Ls, Ls = between L ps := ⟨_, rfl⟩
    rw [← eLs] at bl hall
    -- the parts
    refine ⟨_, rfl, _, rfl, 1, rfl, l, _, rfl, SqL.of hl, fun c nc => ?_⟩
    rw [Ints.tail]
    have s1 : Same H (upd H c (.lst (Ints (ps.drop 1)))) := same_upd nc
    refine ⟨l, c, _, _, rfl, SqL.of (s1 _ _ hl), SqL.of upd_same, fun D hD => ?_⟩
    refine lc_m (ps.length - 1) (fun i H' => Same (upd H c (.lst (Ints (ps.drop 1)))) H' ∧ ∃ vs, H' D = some (.lst vs) ∧ Paired (PartD R H' D (3 * n)) vs (Ls.take i)) ⟨same_upd hD, [], upd_same, .nil⟩
      (fun i H' hi W => zip_go (W.1 _ _ (s1 _ _ hl)) (W.1 _ _ upd_same) hi) (fun H' W => zip_stop (W.1 _ _ (s1 _ _ hl)) (W.1 _ _ upd_same)) (fun i v H2 H3 hi ⟨sm, vs, eD, hv⟩ hy => ?_) (fun H2 ⟨sm, vs, eD, hv⟩ => ?_) (mono_two K 6 7 2)
    · obtain ⟨t, p, q, rfl, nt, rfl, hp, hq⟩ := zip_yld (sm _ _ (s1 _ _ hl)) (sm _ _ upd_same) hi hy
      have sT : Same H2 (upd H2 t (.tup [.int (p : Int), .int (q : Int)])) := same_upd nt
      obtain ⟨hpq, hqL⟩ := Om.rise_at rise hp hq
      have hX2 := hX.same (s1.trans (sm.trans sT))
      obtain ⟨dx, lx, rs, hx, _⟩ := id hX2
      refine ⟨t, _, rfl, SqT.of upd_same, rfl, _, _, rfl, _, _, rfl, rfl, rfl, ?_⟩
      refine ⟨_, rfl, x, dx, _, rfl, hx, fR_no _ (by decide +kernel), _, rfl, _, rfl, x, L, n, p, q, rfl, hX2, by omega, hpq, hqL, fun H4 y s4 hY => ?_⟩
      have eD3 := sT _ _ eD
      have eD4 := s4 _ _ eD3
      have lv : vs.length = (Ls.take i).length := Paired.length hv
      have hLi : Ls[i]? = some (sl L p q) := by rw [eLs]; exact Om.between_get L ps i p q hp hq
      refine ⟨vs, eD4, by rw [lv, List.length_take]; exact small1e6 (by omega), same_write (sm.trans (sT.trans s4)) hD, vs ++ [.ref y], upd_same, ?_⟩
      rw [List.take_add_one, hLi]
      obtain ⟨dy, ly, rs4, hy4, hr4, g4, n4, e4, nl4⟩ := hY
      refine paired_snoc (Paired.mapP hv fun _ _ z => partD_upd eD4 (partD_same (sT.trans s4) z)) (partD_upd eD4 ⟨y, dy, ly, rs4, rfl, hy4, hr4, g4, n4, e4, ?_⟩)
      intro z
      rw [z, eD3] at nl4
      cases nl4
    · have lLs : Ls.length = ps.length - 1 := bl
      rw [← lLs, List.take_length] at hv
      have hP : Paired (PartV R H2 (3 * n)) vs Ls := Paired.mapP hv fun _ _ z => partD_v z
      have sH2 : Same H H2 := s1.trans sm
      have l7 : Ls.length ≤ 7 := by omega
      have lv : vs.length = Ls.length := Paired.length hP
      -- whole = Repeats([])
      refine ⟨Nat.zero_le _, fun e1 ne1 => ?_⟩
      intro u du nu ndu neu
      have sA : Same H2 (upd H2 e1 (.lst [])) := same_upd ne1
      have sB : Same (upd H2 e1 (.lst [])) (upd (upd (upd H2 e1 (.lst [])) du (.own u)) u (.ins R du [])) := Same.made nu ndu fun _ _ h _ => h
      refine ⟨u, du, e1, [], 0, rfl, upd_same, .inr ⟨[], ⟨[], sB _ _ upd_same, .nil⟩, (fun _ z => nomatch z), Nat.zero_le _, Nat.le_refl _, rfl⟩, fun H3 l3 rs3 bt hu3 hr3 g3 n3 e3 _ => ⟨rfl, ?_⟩⟩
      have sC : Same H2 H3 := sA.trans (Same.made nu ndu fun b o h z => bt b o z h)
      refine ⟨_, rfl, D, rfl, ⟨_, SqL.of (sC _ _ eD)⟩, for_list (K := K) (a := D) (xs := vs) (fun i σ H' => Same H2 H' ∧ ∃ z y4, σ = [some (.ref x), some (.ref l), some (.ref D), some (.ref z), y4, none, none, none] ∧ RepAt R H' z ((Ls.take i).flatten) (i * (3 * n)))
        ⟨sC, u, none, rfl, du, l3, rs3, hu3, hr3, g3, by omega, e3⟩ (fun i σ H' _ W => SqL.of (W.1 _ _ eD)) ?_ ?_⟩
      · rintro i v σ H4 hi ⟨s4, z, y4, rfl, hZ⟩
        obtain ⟨Li, hLi, y, rfl, hY⟩ := parts_get hP hi
        have hY4 := hY.same s4
        have hiL : i < Ls.length := (List.getElem?_eq_some_iff.mp hLi).1
        obtain ⟨dz, lz, rz, hz, _⟩ := id hZ
        obtain ⟨dy, ly, ry, hy, _⟩ := id hY4
        have b1 : i * (3 * n) ≤ 7 * 3000 := Nat.mul_le_mul (by omega) (by omega)
        refine ⟨_, rfl, _, rfl, z, y, dz, dy, _, _, rfl, rfl, hz, hy, z, y, _, Li, i * (3 * n), 3 * n, rfl, hZ, hY4, by omega, by omega, fun H5 q s5 hq => ?_⟩
        refine ⟨s4.trans s5, q, _, rfl, ?_⟩
        rw [List.take_add_one, hLi, List.flatten_append, Nat.succ_mul]
        have e4 : (Option.some Li).toList.flatten = Li := by simp
        rw [e4]
        exact hq
      · rintro σ H4 ⟨s4, z, y4, rfl, hZ⟩
        rw [lv, List.take_length, hall] at hZ
        have b1 : Ls.length * (3 * n) ≤ 7 * 3000 := Nat.mul_le_mul l7 (by omega)
        obtain ⟨dz, lz, rz, hz, _⟩ := id hZ
        have hX4 := hX.same (sH2.trans s4)
        obtain ⟨dx, lx, rx, hx, _⟩ := id hX4
        -- whole != home
        refine ⟨_, rfl, _, rfl, z, x, dz, dx, _, _, rfl, rfl, hz, hx, z, x, L, _, n, rfl, hZ, hX4, by omega, by omega, fun H5 s5 => ⟨true, rfl, false, rfl, iteF ?_⟩⟩
        have s25 := s4.trans s5
        refine ⟨_, rfl, D, rfl, ⟨_, SqL.of (s25 _ _ eD)⟩, fun D6 nD6 => lens_lc (s25 _ _ eD) (parts_same s25 hP) (by omega) (by omega) nD6 fun H6 s6 e6 => ?_⟩
        refine ⟨D6, _, rfl, SqL.of e6, ?_⟩
        have s26 := s25.trans s6
        have hX6 := hX.same (sH2.trans s26)
        refine ⟨_, rfl, x, dx, _, rfl, s6 _ _ (s5 _ _ hx), x, L, n, rfl, hX6, by omega, fun H7 s7 => ?_⟩
        have eS : (Ls.map fun l => ((l.length : Nat) : Int)).sum = (L.length : Int) := by rw [sum_lens, hall]
        refine ⟨rfl, _, rfl, iteNS (congrArg V.int eS) ?_⟩
        have s27 := s26.trans s7
        -- the counts
        refine ⟨_, rfl, for_n 4 (fun i σ H' => Same H2 H' ∧ ∃ y4 y5, σ = [some (.ref x), some (.ref l), some (.ref D), some (.ref z), y4, y5, none, none]) ⟨s27, _, _, rfl⟩
          (fun i σ H' hi _ => by show i < ("abcd" : Str).cps.size; rw [abcd_size]; exact hi) (fun σ H' _ => by show ("abcd" : Str).cps.size ≤ 4; rw [abcd_size]; exact Nat.le_refl _) ?_ ?_⟩
        · rintro i v σ H8 H9 hi ⟨s8, y4', y5', rfl⟩ hy
          obtain ⟨rfl, c, _, rfl⟩ := hy
          refine ⟨_, rfl, D, rfl, ⟨_, SqL.of (s8 _ _ eD)⟩, fun D10 nD10 => counts_lc (s8 _ _ eD) (parts_same s8 hP) (by omega) (by omega) nD10 fun H10 s10 e10 => ?_⟩
          refine ⟨D10, _, rfl, SqL.of e10, ?_⟩
          have hX10 := hX.same (sH2.trans (s8.trans s10))
          obtain ⟨dx', lx', rx', hx', _⟩ := id hX10
          refine ⟨_, rfl, x, dx', _, rfl, hx', fR_no _ (by decide +kernel), _, rfl, x, L, n, c, rfl, hX10, by omega, fun H11 s11 => ?_⟩
          have eC : (Ls.map fun l => ((l.count c : Nat) : Int)).sum = ((L.count c : Nat) : Int) := by rw [sum_counts, hall]
          refine ⟨rfl, _, rfl, iteNS (congrArg V.int eC) ?_⟩
          exact ⟨s8.trans (s10.trans s11), _, _, rfl⟩
        · rintro σ H8 ⟨s8, y4', y5', rfl⟩
          -- the lengths, the gaps
          refine ⟨_, rfl, D, rfl, ⟨_, SqL.of (s8 _ _ eD)⟩, fun D9 nD9 => lens_lc (s8 _ _ eD) (parts_same s8 hP) (by omega) (by omega) nD9 fun H9 s9 e9 => ?_⟩
          have s29 := s8.trans s9
          have hl9 := s29 _ _ (sH2 _ _ hl)
          refine ⟨_, rfl, _, rfl, 1, rfl, l, _, rfl, SqL.of hl9, fun c2 nc2 => ?_⟩
          rw [Ints.tail]
          have sc : Same H9 (upd H9 c2 (.lst (Ints (ps.drop 1)))) := same_upd nc2
          refine ⟨l, c2, _, _, rfl, SqL.of (sc _ _ hl9), SqL.of upd_same, fun D3 hD3 => ?_⟩
          refine lc_m (ps.length - 1) (fun i H' => Same (upd H9 c2 (.lst (Ints (ps.drop 1)))) H' ∧ H' D3 = some (.lst ((((gaps ps).take i).map fun n : Nat => ((n : Nat) : Int)).map V.int))) ⟨same_upd hD3, upd_same⟩
            (fun i H' hi W => zip_go (W.1 _ _ (sc _ _ hl9)) (W.1 _ _ upd_same) hi) (fun H' W => zip_stop (W.1 _ _ (sc _ _ hl9)) (W.1 _ _ upd_same)) (fun i v Ha Hb hi ⟨sa, ea⟩ hy => ?_) (fun Ha ⟨sa, ea⟩ => ?_) (mono_two K 6 7 2)
          · obtain ⟨t, p, q, rfl, nt, rfl, hp, hq⟩ := zip_yld (sa _ _ (sc _ _ hl9)) (sa _ _ upd_same) hi hy
            have sT : Same Ha (upd Ha t (.tup [.int (p : Int), .int (q : Int)])) := same_upd nt
            obtain ⟨hpq, hqL⟩ := Om.rise_at rise hp hq
            refine ⟨t, _, rfl, SqT.of upd_same, rfl, _, _, rfl, _, _, rfl, rfl, rfl, ?_⟩
            refine ⟨_, rfl, _, rfl, _, _, rfl, rfl, _, sT _ _ ea, by rw [List.length_map, List.length_map, List.length_take, Om.gaps_length]; exact small1e6 (by omega), same_write (sa.trans sT) hD3, ?_⟩
            rw [upd_same, List.take_add_one, Om.gaps_get ps i p q hp hq, List.map_append, List.map_append]
            show some (HO.lst (_ ++ [V.int ((q : Int) - (p : Int))])) = some (HO.lst (_ ++ [V.int ((q - p : Nat) : Int)]))
            have e5 : ((q : Int) - (p : Int)) = ((q - p : Nat) : Int) := by omega
            rw [e5]
          · have eg : (gaps ps).take (ps.length - 1) = gaps ps := List.take_of_length_le (by rw [Om.gaps_length]; exact Nat.le_refl _)
            have el : (Ls.map fun l => ((l.length : Nat) : Int)) = (gaps ps).map fun n : Nat => ((n : Nat) : Int) := by
              rw [← Om.between_lens L ps rise, eLs, List.map_map]
              rfl
            rw [eg] at ea
            rw [el] at e9
            refine ⟨_, _, .lst (SqL.of (sa _ _ (sc _ _ e9))) (dpAll_ints _), .lst (SqL.of ea) (dpAll_ints _), shaped_ints _, shaped_ints _, ?_⟩
            rw [SeqAt.eqv_refl _ (SeqAt.canLay_of_shaped (shaped_ints _))]
            exact k _ (sH2.trans (s29.trans (sc.trans sa)))
end
end Ob
end

section
set_option Elab.async false
set_option maxRecDepth 100000
set_option maxHeartbeats 8000000
/-! Od15: the law. -/
namespace Ob
open PySem L2 L2.Ow
open Om (rep per plain Good sl Rise between gaps)
theorem same_but {a : Addr} {H H1 H2 : Hp} (s : Same H H1) (b : But a H1 H2) (h : H a = none) : Same H H2 := fun x o e => b x o (ne_of_none e h) (s x o e)
theorem plain_most {t : Nat} : ∀ {prs : List (List Nat × Nat)}, (∀ r ∈ prs, r.1.length ≤ 4 ∧ r.2 ≤ t) → (Om.plain prs).length ≤ prs.length * (4 * t)
  | [], _ => by simp [Om.plain]
  | r :: rs, h => by
    obtain ⟨h1, h2⟩ := h r (List.mem_cons_self ..)
    have ih := plain_most (prs := rs) fun x hx => h x (List.mem_cons_of_mem _ hx)
    have h3 : r.2 * r.1.length ≤ t * 4 := Nat.mul_le_mul h2 h1
    rw [Om.plain, List.length_append, Om.rep_length, List.length_cons, Nat.succ_mul]
    omega
section
variable {P : Program} {w : World} {K : PySem.W.Frag} {mg : Str → Option Value} {base : Heap} {R U : Addr}
def spLaw (K : PySem.W.Frag) : Sp := fun vs H Q _ => ∃ (a : Addr) (ns : List Int), vs = [.ref a] ∧ SqL K H a (ns.map V.int) ∧ ns.length ≤ 63 ∧ ∀ H', Q (.bl true) H'
theorem scLaw : FnScope ["_law_script", "_law_k", "_law_bag_here", "_law_home", "_law_places", "_law_low", "_law_high", "_law_part", "_law_at"] ["_law_script"] (defScope sLaw) := ⟨rfl, rfl, rfl, by decide +kernel, rfl, by decide +kernel, by decide +kernel⟩
theorem ok_law {f fL fP fRI fA fE fG fB pL fBag fT fPr fCu fRi : Addr} {fd fdL fdP fdRI fdA fdE fdG fdO fdBag fdT fdPr fdCu fdRi : FuncData} (F : Fun K "law" "law" sLaw f fd) (Z : Txt K mg R U) (O : Ops K R fA fE fG fB)
    (PL : PropOf K R "length" pL fL) (bL : Binds K fdL ["self"] []) (GL : FnOk P w K mg base CX0 1 fL fdL ["self"] (spLength R))
    (mP : Meth K R "part" fP) (bP0 : Binds K fdP ["self", "begin", "end"] []) (GP0 : FnOk P w K mg base CX0 5 fP fdP ["self", "begin", "end"] (spPart R))
    (MR : Mk K R fRI) (bRI : Binds K fdRI ["self", "pairs"] []) (GRI : FnOk P w K mg base CX0 3 fRI fdRI ["self", "pairs"] (spRepI R U))
    (bA : Binds K fdA ["self", "other"] []) (GA : FnOk P w K mg base CX0 5 fA fdA ["self", "other"] (spAdd R))
    (bE : Binds K fdE ["self", "other"] []) (GE : FnOk P w K mg base CX0 3 fE fdE ["self", "other"] (spEq R))
    (bG : Binds K fdG ["self", "index"] []) (GG : FnOk P w K mg base CX0 3 fG fdG ["self", "index"] (spItem R))
    (bO : Binds K fdO ["self"] []) (GO : FnOk P w K mg base CX0 1 fB fdO ["self"] (spBool R))
    (FB : Fun K "_law_bag" "_law_bag" sBag fBag fdBag) (bB : Binds K fdBag ["_law_script", "_law_at"] []) (gB : mg "_law_bag" = some (.ref fBag)) (GB : FnOk P w K mg base CX0 1 fBag fdBag ["_law_script", "_law_at"] (spBag K))
    (FT : Fun K "_law_take" "_law_take" sTake fT fdT) (bT : Binds K fdT ["_law_bag_here", "_law_many"] []) (gT : mg "_law_take" = some (.ref fT)) (GT : FnOk P w K mg base CX0 1 fT fdT ["_law_bag_here", "_law_many"] spTake)
    (FP : Fun K "_law_pairs" "_law_pairs" sPairs fPr fdPr) (bPr : Binds K fdPr ["_law_bag_here", "_law_most", "_law_times"] []) (gP : mg "_law_pairs" = some (.ref fPr)) (GPr : FnOk P w K mg base CX0 3 fPr fdPr ["_law_bag_here", "_law_most", "_law_times"] spPairs)
    (FC : Fun K "_law_cuts" "_law_cuts" sCuts fCu fdCu) (bC : Binds K fdCu ["_law_bag_here", "_law_home"] []) (gC : mg "_law_cuts" = some (.ref fCu)) (GC : FnOk P w K mg base CX0 3 fCu fdCu ["_law_bag_here", "_law_home"] (spCuts R))
    (FR : Fun K "_law_parts_right" "_law_parts_right" sRight fRi fdRi) (bR : Binds K fdRi ["_law_home", "_law_places"] []) (gR : mg "_law_parts_right" = some (.ref fRi)) (GR : FnOk P w K mg base CX0 6 fRi fdRi ["_law_home", "_law_places"] (spRight R)) :
    FnOk P w K mg base CX0 7 f fd ["_law_script"] (spLaw K) := by
  refine F.ok scLaw (fun vs H Q E h => ?_) (fun cdv A outer s H vs Q E hr h => ?_)
  · obtain ⟨a, ns, rfl, _⟩ := h
    rfl
  · obtain ⟨sc, ns, rfl, hS, hns, k⟩ := h
    have hr1 : Room 1 _ := hr.mono (by decide)
    have hr3 : Room 3 _ := hr.mono (by decide)
    have hrL : Room 2 _ := hr.mono (by decide)
    have hrP : Room 5 _ := hr.mono (by decide)
    have hrA : Room 5 _ := hr.mono (by decide)
    have hrE : Room 4 _ := hr.mono (by decide)
    have hrG : Room 4 _ := hr.mono (by decide)
    have hrR : Room 4 _ := hr.mono (by decide)
    have hrO : Room 3 _ := hr.mono (by decide)
    refine ⟨_, (pss_cons (ps_for PassesOwn.never rfl (pi_range1 rfl Z.range (pa_cons (pe_op op_add pe_int (pe_callB (call_min2 rfl) (by rfl) Z.min (by decide +kernel) (pa_cons pe_int (pa_cons (pe_callB call_len_seq (by rfl) Z.len PySem.boot_len (pa_cons (pv 0) pa_nil)) pa_nil)))) pa_nil)) (pg_name (i := 1) scLaw.nd rfl (Or.inl rfl))
        (pss_cons (ps_set (i := 2) scLaw.nd rfl (Or.inl rfl) (pe_call GB hr1 (by rfl) gB FB.kp bB .nil pass0 (pa_cons (pv 0) (pa_cons (pv 1) pa_nil))))
        (pss_cons (ps_set (i := 3) scLaw.nd rfl (Or.inl rfl) (pe_make MR GRI hrR (by rfl) Z.mgR bRI .nil pass0 (pa_cons (pe_call GPr hr3 (by rfl) gP FP.kp bPr .nil pass0 (pa_cons (pv 2) (pa_cons pe_int (pa_cons (pe_ix ix_list (pe_lst (pa_cons pe_int (pa_cons (pe_op op_pow pe_int pe_int) (pa_cons (pe_op op_pow pe_int pe_int) pa_nil)))) (pe_call GT hr1 (by rfl) gT FT.kp bT .nil pass0 (pa_cons (pv 2) (pa_cons pe_int pa_nil))) (fun _ _ => rfl)) pa_nil)))) pa_nil)))
        (pss_cons (ps_set (i := 4) scLaw.nd rfl (Or.inl rfl) (pe_call GC hr3 (by rfl) gC FC.kp bC .nil pass0 (pa_cons (pv 2) (pa_cons (pv 3) pa_nil))))
        (pss_cons (ps_if (pt_not (pt_val (pe_call GR hr (by rfl) gR FR.kp bR .nil pass0 (pa_cons (pv 3) (pa_cons (pv 4) pa_nil)))))
          (pss_one (ps_ret pe_bl)) pss_nil)
        (pss_one (ps_for PassesOwn.never rfl (pi_zip (by rfl) Z.zip (pa_cons (pv 4) (pa_cons (pe_slice sl_list (pv 4) (po_some pe_int) po_none) pa_nil))) (pg_tup rfl (pgs_cons (pg_name (i := 5) scLaw.nd rfl (Or.inl rfl)) (pgs_cons (pg_name (i := 6) scLaw.nd rfl (Or.inl rfl)) pgs_nil)))
          (pss_cons (ps_set (i := 7) scLaw.nd rfl (Or.inl rfl) (pe_meth (pv 3) Z.clR mP GP0 hrP bP0 .nil pass0 (pa_cons (pv 5) (pa_cons (pv 6) pa_nil))))
          (pss_cons (ps_if (pt_cmpR op_lt (pv 5) (pv 6) (nomark _))
            (pss_cons (ps_set (i := 8) scLaw.nd rfl (Or.inl rfl) (pe_call GT hr1 (by rfl) gT FT.kp bT .nil pass0 (pa_cons (pv 2) (pa_cons (pe_op op_sub (pv 6) (pv 5)) pa_nil))))
            (pss_cons (ps_if (PW.pt (pw_or (pt_cmpR op_ne (pe_ixO (pv 7) (pv 8) GG hrG bG pass0 O.item O.itemN O.itemF) (pe_ixO (pv 3) (pe_op op_add (pv 5) (pv 8)) GG hrG bG pass0 O.item O.itemN O.itemF) (nomark _)) (pw_or (pt_cmpR op_ne (pe_ixO (pv 7) pe_int GG hrG bG pass0 O.item O.itemN O.itemF) (pe_ixO (pv 3) (pv 5) GG hrG bG pass0 O.item O.itemN O.itemF) (nomark _)) (pw_or1 (pt_cmpR op_ne (pe_ixO (pv 7) (pe_op op_sub (pe_op op_sub (pv 6) (pv 5)) pe_int) GG hrG bG pass0 O.item O.itemN O.itemF) (pe_ixO (pv 3) (pe_op op_sub (pv 6) pe_int) GG hrG bG pass0 O.item O.itemN O.itemF) (nomark _))))))
              (pss_one (ps_ret pe_bl)) pss_nil)
            (pss_cons (ps_if (pt_cmpR (op_neO GE hrE bE pass0 O.ne O.sub O.eq O.eqF) (pe_meth (pv 7) Z.clR mP GP0 hrP bP0 .nil pass0 (pa_cons (pv 8) (pa_cons (pe_prop (pv 7) Z.clR PL GL hrL bL .nil pass0 rfl) pa_nil))) (pe_meth (pv 3) Z.clR mP GP0 hrP bP0 .nil pass0 (pa_cons (pe_op op_add (pv 5) (pv 8)) (pa_cons (pv 6) pa_nil))) (nomark _))
              (pss_one (ps_ret pe_bl)) pss_nil)
            (pss_one (ps_if (pt_cmpR (op_neO GE hrE bE pass0 O.ne O.sub O.eq O.eqF) (pe_op (op_addO GA hrA bA pass0 O.sf O.add O.addF) (pe_meth (pv 7) Z.clR mP GP0 hrP bP0 .nil pass0 (pa_cons pe_int (pa_cons (pv 8) pa_nil))) (pe_meth (pv 7) Z.clR mP GP0 hrP bP0 .nil pass0 (pa_cons (pv 8) (pa_cons (pe_prop (pv 7) Z.clR PL GL hrL bL .nil pass0 rfl) pa_nil)))) (pv 7) (nomark _))
              (pss_one (ps_ret pe_bl)) pss_nil))))) pss_nil)
          (pss_one (ps_if (pt_cmpR op_ne (pe_callTy (call_boolO GO hrO bO pass0 O.bool O.boolF) (by rfl) Z.bool (by decide +kernel) (pa_cons (pv 7) pa_nil)) (pe_cmpR op_lt (pv 5) (pv 6) (nomark _)) (nomark _))
            (pss_one (ps_ret pe_bl)) pss_nil)))))))))))
      (pss_one (ps_ret pe_bl))), ?_⟩
    refine ⟨_, rfl, sc, _, rfl, .inl hS, _, _, rfl, _, _, rfl, rfl, _, rfl, ?_, ?_, ?_⟩
    · split <;> omega
    · split <;> omega
    obtain ⟨N, eN⟩ : ∃ N : Nat, (1 + (if ((ns.map V.int).length : Int) < 3 then ((ns.map V.int).length : Int) else 3)).toNat = N := ⟨_, rfl⟩
    show ∃ W : Nat → Nat → L2.St → Hp → Prop, _
    refine for_n N (fun i σ H' => Same H H' ∧ ∃ y1 y2 y3 y4 y5 y6 y7 y8, σ = [some (.ref sc), y1, y2, y3, y4, y5, y6, y7, y8]) ⟨fun _ _ h => h, none, none, none, none, none, none, none, none, rfl⟩
      (fun i σ H' hi _ => by show i < (1 + (if ((ns.map V.int).length : Int) < 3 then ((ns.map V.int).length : Int) else 3)).toNat; rw [eN]; exact hi)
      (fun σ H' _ => by show (1 + (if ((ns.map V.int).length : Int) < 3 then ((ns.map V.int).length : Int) else 3)).toNat ≤ N; rw [eN]; exact Nat.le_refl _) ?_ ?_
    · rintro i v σ H1 H1' hi ⟨s1, y1, y2, y3, y4, y5, y6, y7, y8, rfl⟩ hy
      obtain ⟨rfl, rfl⟩ := hy
      -- the bag
      have e0 : (0 : Int) + (i : Int) = (i : Int) := by omega
      refine ⟨_, rfl, _, rfl, sc, ns, i, congrArg (fun z => [V.ref sc, V.int z]) e0, s1.seq hS, fun H2 bag s2 nb hB2 => ?_⟩
      have s12 := s1.trans s2
      have nb0 : H bag = none := s1.free nb
      -- home
      refine ⟨_, rfl, _, _, rfl, rfl, ⟨by decide, by decide, by decide⟩, _, _, rfl, rfl, ⟨by decide, by decide, by decide⟩, (by show 3 ≤ sizeLine; decide), fun li nli => ?_⟩
      have s3 : Same H2 (upd H2 li (.lst [.int 4, .int (10 ^ (20 : Int).toNat), .int (10 ^ (60 : Int).toNat)])) := same_upd nli
      have hB3 := hB2.same s3
      have nbl := hB2.ne_none nli
      refine ⟨_, rfl, bag, 3, rfl, hB3, by decide, by decide, fun d0 H4 hd0 b4 hB4 => ?_⟩
      have hli4 := b4 _ _ nbl.symm upd_same
      obtain ⟨t, ht, htm⟩ : ∃ t : Nat, atI [V.int 4, V.int (10 ^ (20 : Int).toNat), V.int (10 ^ (60 : Int).toNat)] (d0 : Int) = some (.int (t : Int)) ∧ t ≤ 10 ^ 60 := by
        have : d0 = 0 ∨ d0 = 1 ∨ d0 = 2 := by omega
        rcases this with z | z | z <;> subst z
        · exact ⟨4, atI_nat (j := 0) rfl, by decide⟩
        · exact ⟨10 ^ 20, atI_nat (j := 1) (by show some (V.int (10 ^ (20 : Int).toNat)) = some (V.int ((10 ^ 20 : Nat) : Int)); congr 1), by decide⟩
        · exact ⟨10 ^ 60, atI_nat (j := 2) (by show some (V.int (10 ^ (60 : Int).toNat)) = some (V.int ((10 ^ 60 : Nat) : Int)); congr 1), by decide⟩
      refine ⟨li, _, _, _, rfl, rfl, SqL.of hli4, ht, bag, 8, t, rfl, hB4, by decide, htm, fun pl prs H5 b5 hB5 hrs5 hok hl8 => ?_⟩
      intro y dy ny ndy ney
      have s5 : Same H5 (upd (upd H5 dy (.own y)) y (.ins R dy [])) := Same.made ny ndy fun _ _ h _ => h
      obtain ⟨L, eL⟩ : ∃ L, L = Om.plain prs := ⟨_, rfl⟩
      refine ⟨y, dy, pl, L, 8, rfl, upd_same, .inr ⟨prs, hrs5.same s5, fun r hr' => ⟨(hok r hr').1, Nat.le_trans (hok r hr').2.1 (by decide), Nat.le_trans (hok r hr').2.2 htm⟩, by omega, hl8, eL.symm⟩, fun H6 l6 rs6 bt6 hy6 hr6 g6 n6 e6 _ => ⟨rfl, ?_⟩⟩
      have s56 : Same H5 H6 := Same.made ny ndy fun b o h z => bt6 b o z h
      have hX6 : RepAt R H6 y L 8 := ⟨dy, l6, rs6, hy6, hr6, g6, n6, e6⟩
      have hB6 := hB5.same s56
      have hL : (L.length : Int) < 2 ^ 239 := by
        have h1 := plain_most (t := t) fun r hr' => (hok r hr').2
        rw [← eL] at h1
        have h2 : prs.length * (4 * t) ≤ 8 * (4 * 10 ^ 60) := Nat.mul_le_mul hl8 (Nat.mul_le_mul_left 4 htm)
        have h3 : L.length ≤ 8 * (4 * 10 ^ 60) := Nat.le_trans h1 h2
        omega
      have b26 : But bag H2 H6 := (But.of s3).trans (b4.trans (b5.trans (But.of s56)))
      -- places
      refine ⟨_, rfl, _, rfl, bag, y, L, 8, rfl, hB6, hX6, by decide, hL, fun l ps H7 b7 hB7 nlb hl7 rise hhead hlast hps => ?_⟩
      have hX7 := hX6.bag b7 hB6
      refine ⟨_, rfl, _, rfl, y, l, L, 8, ps, rfl, hX7, by decide, hl7, rise, hhead, hlast, hps, fun H8 s8 => ⟨true, rfl, iteF ?_⟩⟩
      have hB8 := hB7.same s8
      have hX8 := hX7.same s8
      have hl8' := s8 _ _ hl7
      refine ⟨_, rfl, _, rfl, 1, rfl, l, _, rfl, SqL.of hl8', fun c nc => ?_⟩
      have etl : cutV (ps.map fun n : Nat => V.int ((n : Nat) : Int)) (some 1) none = Ints (ps.drop 1) := Ints.tail ps
      rw [etl]
      have s9 : Same H8 (upd H8 c (.lst (Ints (ps.drop 1)))) := same_upd nc
      have nbc := hB8.ne_none nc
      have hB9 := hB8.same s9
      have hX9 := hX8.same s9
      have b29 : But bag H2 (upd H8 c (.lst (Ints (ps.drop 1)))) := b26.trans (b7.trans (But.of (s8.trans s9)))
      refine ⟨l, c, _, _, rfl, SqL.of (s9 _ _ hl8'), SqL.of upd_same, for_n (ps.length - 1) (fun j σ H' => But bag (upd H8 c (.lst (Ints (ps.drop 1)))) H' ∧ BagAt H' bag ∧ ∃ z1 z5 z6 z7 z8, σ = [some (.ref sc), z1, some (.ref bag), some (.ref y), some (.ref l), z5, z6, z7, z8])
        ⟨But.refl, hB9, _, _, _, _, _, rfl⟩ (fun j σ H' hj W => zip_go (W.1 _ _ nlb (s9 _ _ hl8')) (W.1 _ _ nbc.symm upd_same) hj) (fun σ H' W => zip_stop (W.1 _ _ nlb (s9 _ _ hl8')) (W.1 _ _ nbc.symm upd_same)) ?_ ?_⟩
      · rintro j v σ Ha Ha' hj ⟨ba, hBa, z1, z5, z6, z7, z8, rfl⟩ hy
        obtain ⟨tt, p, q, rfl, nt, rfl, hp, hq⟩ := zip_yld (ba _ _ nlb (s9 _ _ hl8')) (ba _ _ nbc.symm upd_same) hj hy
        obtain ⟨hpq, hqL⟩ := Om.rise_at rise hp hq
        have sT : Same Ha (upd Ha tt (.tup [.int (p : Int), .int (q : Int)])) := same_upd nt
        have hXa := (hX9.bag ba hB9).same sT
        have hBt := hBa.same sT
        have bT := ba.trans (But.of (a := bag) sT)
        obtain ⟨S, eS⟩ : ∃ S, S = sl L p q := ⟨_, rfl⟩
        have lS : S.length = q - p := by rw [eS, Om.sl_length hpq hqL]
        obtain ⟨dya, lya, rya, hya, _⟩ := id hXa
        refine ⟨tt, _, rfl, SqT.of upd_same, rfl, _, _, rfl, _, _, rfl, rfl, ?_⟩
        refine ⟨_, rfl, y, dya, _, rfl, hya, fR_no _ (by decide +kernel), _, rfl, _, rfl, y, L, 8, p, q, rfl, hXa, by decide, hpq, hqL, fun Hb u sb hNu => ?_⟩
        have hUb : RepAt R Hb u S 24 := by rw [eS]; exact hNu.at
        have hBb := hBt.same sb
        have hXb := hXa.same sb
        have bb : But bag (upd H8 c (.lst (Ints (ps.drop 1)))) Hb := bT.trans (But.of sb)
        -- the last test
        have ebl : (V.bl (decide (0 < S.length)) : V) = V.bl (decide ((p : Int) < (q : Int))) := by
          congr 1
          refine decide_eq_decide.mpr ?_
          omega
        refine ⟨_, rfl, _, rfl, _, _, rfl, rfl, _, rfl, ite2 (fun c1 => ?_) (fun c1 => ?_)⟩
        · have hlt : p < q := by
            have : (p : Int) < (q : Int) := of_decide_eq_true c1
            omega
          refine ⟨_, rfl, _, rfl, _, rfl, _, _, rfl, rfl, bag, (q : Int) - (p : Int), rfl, hBb, by omega, by omega, fun d Hc hd bc hBc => ?_⟩
          have hdq : p + d < q := by omega
          have hUc := hUb.bag bc hBb
          have hXc := hXb.bag bc hBb
          have bC := bb.trans bc
          -- signs
          obtain ⟨ch, hch⟩ : ∃ ch, L[p + d]? = some ch := ⟨_, List.getElem?_eq_getElem (by omega)⟩
          obtain ⟨c0, hc0⟩ : ∃ ch, L[p]? = some ch := ⟨_, List.getElem?_eq_getElem (by omega)⟩
          obtain ⟨cz, hcz⟩ : ∃ ch, L[q - 1]? = some ch := ⟨_, List.getElem?_eq_getElem (by omega)⟩
          have gch : S[d]? = some ch := by rw [eS, Om.sl_get hdq]; exact hch
          have gc0 : S[0]? = some c0 := by rw [eS, Om.sl_get (by omega)]; exact hc0
          have gcz : S[q - p - 1]? = some cz := by
            rw [eS, Om.sl_get (by omega), show p + (q - p - 1) = q - 1 by omega]
            exact hcz
          obtain ⟨du, lu, ru, hu, _⟩ := id hUc
          obtain ⟨dyc, lyc, ryc, hyc, _⟩ := id hXc
          have i1 : ((q : Int) - (p : Int) - 1) = ((q - p - 1 : Nat) : Int) := by omega
          have i2 : ((q : Int) - 1) = ((q - 1 : Nat) : Int) := by omega
          refine ⟨_, rfl, _, rfl, u, du, _, rfl, hu, u, S, 24, d, ch, rfl, hUc, by decide, gch, fun Hd sd => ?_⟩
          refine ⟨_, rfl, _, rfl, _, rfl, _, _, rfl, rfl, y, dyc, _, rfl, sd _ _ hyc, y, L, 8, p + d, ch, rfl, hXc.same sd, by decide, hch, fun He se => ⟨rfl, _, rfl, iteNS rfl ?_⟩⟩
          have sce := sd.trans se
          refine ⟨_, rfl, u, du, _, rfl, sce _ _ hu, u, S, 24, 0, c0, rfl, hUc.same sce, by decide, gc0, fun Hf sf => ?_⟩
          have scf := sce.trans sf
          refine ⟨_, rfl, _, rfl, y, dyc, _, rfl, scf _ _ hyc, y, L, 8, p, c0, rfl, hXc.same scf, by decide, hc0, fun Hg sg => ⟨rfl, _, rfl, iteNS rfl ?_⟩⟩
          have scg := scf.trans sg
          refine ⟨_, rfl, _, rfl, _, rfl, _, _, rfl, rfl, _, _, rfl, rfl, u, du, _, rfl, scg _ _ hu, u, S, 24, q - p - 1, cz, congrArg (fun z => [V.ref u, V.int z]) i1, hUc.same scg, by decide, gcz, fun Hh sh => ?_⟩
          have sch := scg.trans sh
          refine ⟨_, rfl, _, rfl, _, _, rfl, rfl, y, dyc, _, rfl, sch _ _ hyc, y, L, 8, q - 1, cz, congrArg (fun z => [V.ref y, V.int z]) i2, hXc.same sch, by decide, hcz, fun Hi si => ⟨rfl, _, rfl, iteNS rfl ?_⟩⟩
          have sci := sch.trans si
          -- a part of a part
          have dS : d ≤ S.length := by omega
          have ess : sl S d S.length = sl L (p + d) q := by
            rw [eS, Om.sl_sl (by rw [← eS]; omega), ← eS, lS, show p + (q - p) = q by omega]
          refine ⟨_, rfl, u, du, _, rfl, sci _ _ hu, fR_no _ (by decide +kernel), _, rfl, _, rfl, u, du, _, rfl, sci _ _ hu, u, S, 24, rfl, hUc.same sci, by decide, fun Hj sj => ?_⟩
          have scj := sci.trans sj
          refine ⟨u, S, 24, d, S.length, rfl, hUc.same scj, by decide, dS, Nat.le_refl _, fun Hk v1 sk hV1 => ?_⟩
          have sck := scj.trans sk
          refine ⟨_, rfl, y, dyc, _, rfl, sck _ _ hyc, fR_no _ (by decide +kernel), _, rfl, _, rfl, _, _, rfl, rfl, _, rfl, y, L, 8, p + d, q, rfl, hXc.same sck, by decide, by omega, hqL, fun Hl v2 sl2 hV2 => ?_⟩
          have hV1l := hV1.at.same sl2
          have hV2l := hV2.at
          rw [ess] at hV1l
          obtain ⟨dv1, _, _, hv1, _⟩ := id hV1l
          obtain ⟨dv2, _, _, hv2, _⟩ := id hV2l
          refine ⟨v1, v2, dv1, dv2, _, _, rfl, rfl, hv1, hv2, v1, v2, _, _, _, rfl, hV1l, hV2l, by decide, by decide, fun Hm sm => ⟨true, rfl, _, rfl, iteF ?_⟩⟩
          have scm := sck.trans (sl2.trans sm)
          -- two parts of a part
          refine ⟨_, rfl, u, du, _, rfl, scm _ _ hu, fR_no _ (by decide +kernel), _, rfl, u, S, 24, 0, d, rfl, hUc.same scm, by decide, Nat.zero_le _, dS, fun Hn w1 sn hW1 => ?_⟩
          have scn := scm.trans sn
          refine ⟨_, rfl, u, du, _, rfl, scn _ _ hu, fR_no _ (by decide +kernel), _, rfl, _, rfl, u, du, _, rfl, scn _ _ hu, u, S, 24, rfl, hUc.same scn, by decide, fun Ho so => ?_⟩
          have sco := scn.trans so
          refine ⟨u, S, 24, d, S.length, rfl, hUc.same sco, by decide, dS, Nat.le_refl _, fun Hp w2 sp hW2 => ?_⟩
          have scp := sco.trans sp
          have hW1p := hW1.at.same (so.trans sp)
          have hW2p := hW2.at
          obtain ⟨dw1, _, _, hw1, _⟩ := id hW1p
          obtain ⟨dw2, _, _, hw2, _⟩ := id hW2p
          refine ⟨w1, w2, dw1, dw2, _, _, rfl, rfl, hw1, hw2, w1, w2, _, _, _, _, rfl, hW1p, hW2p, by decide, by decide, fun Hq x1 sq hx1 => ?_⟩
          rw [Om.sl_join (Nat.zero_le _) dS, Om.sl_all] at hx1
          have scq := scp.trans sq
          obtain ⟨dx1, _, _, hxx, _⟩ := id hx1
          refine ⟨_, rfl, x1, u, dx1, du, _, _, rfl, rfl, hxx, scq _ _ hu, x1, u, S, _, 24, rfl, hx1, hUc.same scq, by decide, by decide, fun Hr sr => ⟨true, rfl, _, rfl, iteF ?_⟩⟩
          have scr := scq.trans sr
          refine ⟨_, rfl, u, du, _, rfl, scr _ _ hu, u, S, 24, rfl, hUc.same scr, _, rfl, _, rfl, _, rfl, _, _, rfl, rfl, rfl, _, rfl, iteNS ebl ?_⟩
          exact ⟨bC.trans (But.of scr), hBc.same scr, _, _, _, _, _, rfl⟩
        · obtain ⟨du, lu, ru, hu, _⟩ := id hUb
          refine ⟨_, rfl, u, du, _, rfl, hu, u, S, 24, rfl, hUb, _, rfl, _, rfl, _, rfl, _, _, rfl, rfl, rfl, _, rfl, iteNS ebl ?_⟩
          exact ⟨bb, hBb, _, _, _, _, _, rfl⟩
      · rintro σ Ha ⟨ba, hBa, z1, z5, z6, z7, z8, rfl⟩
        exact ⟨same_but s12 (b29.trans ba) nb0, _, _, _, _, _, _, _, _, rfl⟩
    · rintro σ H1 ⟨s1, y1, y2, y3, y4, y5, y6, y7, y8, rfl⟩
      exact k H1
end
end Ob
end

set_option Elab.async false
set_option maxRecDepth 100000
set_option maxHeartbeats 8000000
/-! Oend: what the top has written; the end. -/
namespace Ob
open PySem L2 L2.Ow
theorem all_mk {l : PySem.W.OpenLaw} {w : World} {K : PySem.W.Frag} {h : Heap} {mg : Str → Option Value} {fa R U pL f0 f1 f2 f3 f4 f5 f6 f7 f8 f9 f10 f11 f12 f13 f14 f15 f16 f17 f18 f19 f20 f21 f22 f23 : Addr} (X : K.In h) (G : h.Ns mainGlobals mg) (hfa : mg "law" = some (.ref fa))
    {od0 od1 od2 od3 od4 od5 od6 od7 od8 od9 od10 od11 od12 od13 od14 od15 od16 od17 od18 od19 od20 od21 od22 od23 an0 an1 an2 an3 an4 an5 an6 an7 an8 an9 an10 an11 an12 an13 an14 an15 an16 an17 an18 an19 an20 an21 an22 an23 : Option Addr} {sl0 sl1 sl2 sl3 sl4 sl5 sl6 sl7 sl8 sl9 sl10 sl11 sl12 sl13 sl14 sl15 sl16 sl17 sl18 sl19 sl20 sl21 sl22 sl23 : Array (Option Value)} {oc0 oc1 oc2 oc3 oc4 oc5 oc6 oc7 oc8 oc9 oc10 oc11 oc12 oc13 oc14 oc15 oc16 oc17 oc18 oc19 oc20 oc21 oc22 oc23 kV0 kV1 kV2 kV3 kV4 kV5 kV6 kV7 kV8 kV9 kV10 kV11 kV12 kV13 kV14 kV15 kV16 kV17 kV18 kV19 kV20 kV21 kV22 kV23 dc0 dc1 dc2 dc3 dc4 dc5 dc6 dc7 dc8 dc9 dc10 dc11 dc12 dc13 dc14 dc15 dc16 dc17 dc18 dc19 dc20 dc21 dc22 dc23 pm0 pm1 pm2 pm3 pm4 pm5 pm6 pm7 pm8 pm9 pm10 pm11 pm12 pm13 pm14 pm15 pm16 pm17 pm18 pm19 pm20 pm21 pm22 pm23 cd0 cd1 cd2 cd3 cd4 cd5 cd6 cd7 cd8 cd9 cd10 cd11 cd12 cd13 cd14 cd15 cd16 cd17 cd18 cd19 cd20 cd21 cd22 cd23 ct0 ct1 ct2 ct3 ct4 ct5 ct6 ct7 ct8 ct9 ct10 ct11 ct12 ct13 ct14 ct15 ct16 ct17 ct18 ct19 ct20 ct21 ct22 ct23 : Value} {rest : List Value} {tkI tkM tkP tkL : Tok}
    (aR : PySem.W.nsIn K mainGlobals "Repeats" = some (some (.ref R)))
    (aU : PySem.W.nsIn K mainGlobals "Runs" = some (some (.ref U)))
    (a0 : PySem.W.nsIn K mainGlobals "is_integer" = some (some (.ref f0)))
    (l0 : K.lookup f0 = some ⟨oc0, od0, .func (PySem.W.fnOf "is_integer" "is_integer" (defArgs sIsInt) (defBody sIsInt) (defScope sIsInt) .none kV0 dc0 pm0 an0 cd0 ct0), sl0⟩)
    (c0 : PySem.W.codeIn K cd0 "is_integer" = true)
    (k0 : PySem.W.keepIn K (.ref f0) = true)
    (a1 : PySem.W.nsIn K mainGlobals "is_text" = some (some (.ref f1)))
    (l1 : K.lookup f1 = some ⟨oc1, od1, .func (PySem.W.fnOf "is_text" "is_text" (defArgs sIsText) (defBody sIsText) (defScope sIsText) .none kV1 dc1 pm1 an1 cd1 ct1), sl1⟩)
    (c1 : PySem.W.codeIn K cd1 "is_text" = true)
    (k1 : PySem.W.keepIn K (.ref f1) = true)
    (a2 : PySem.W.nsIn K mainGlobals "is_pair" = some (some (.ref f2)))
    (l2 : K.lookup f2 = some ⟨oc2, od2, .func (PySem.W.fnOf "is_pair" "is_pair" (defArgs sIsPair) (defBody sIsPair) (defScope sIsPair) .none kV2 dc2 pm2 an2 cd2 ct2), sl2⟩)
    (c2 : PySem.W.codeIn K cd2 "is_pair" = true)
    (k2 : PySem.W.keepIn K (.ref f2) = true)
    (a3 : PySem.W.nsIn K mainGlobals "root" = some (some (.ref f3)))
    (l3 : K.lookup f3 = some ⟨oc3, od3, .func (PySem.W.fnOf "root" "root" (defArgs sRoot) (defBody sRoot) (defScope sRoot) .none kV3 dc3 pm3 an3 cd3 ct3), sl3⟩)
    (c3 : PySem.W.codeIn K cd3 "root" = true)
    (k3 : PySem.W.keepIn K (.ref f3) = true)
    (a4 : PySem.W.nsIn K mainGlobals "tidy" = some (some (.ref f4)))
    (l4 : K.lookup f4 = some ⟨oc4, od4, .func (PySem.W.fnOf "tidy" "tidy" (defArgs sTidy) (defBody sTidy) (defScope sTidy) .none kV4 dc4 pm4 an4 cd4 ct4), sl4⟩)
    (c4 : PySem.W.codeIn K cd4 "tidy" = true)
    (k4 : PySem.W.keepIn K (.ref f4) = true)
    (a5 : PySem.W.nsIn K mainGlobals "stretch" = some (some (.ref f5)))
    (l5 : K.lookup f5 = some ⟨oc5, od5, .func (PySem.W.fnOf "stretch" "stretch" (defArgs sStretch) (defBody sStretch) (defScope sStretch) .none kV5 dc5 pm5 an5 cd5 ct5), sl5⟩)
    (c5 : PySem.W.codeIn K cd5 "stretch" = true)
    (k5 : PySem.W.keepIn K (.ref f5) = true)
    (a6 : PySem.W.nsIn K mainGlobals "cut" = some (some (.ref f6)))
    (l6 : K.lookup f6 = some ⟨oc6, od6, .func (PySem.W.fnOf "cut" "cut" (defArgs sCut) (defBody sCut) (defScope sCut) .none kV6 dc6 pm6 an6 cd6 ct6), sl6⟩)
    (c6 : PySem.W.codeIn K cd6 "cut" = true)
    (k6 : PySem.W.keepIn K (.ref f6) = true)
    (a7 : PySem.W.nsIn K mainGlobals "same_items" = some (some (.ref f7)))
    (l7 : K.lookup f7 = some ⟨oc7, od7, .func (PySem.W.fnOf "same_items" "same_items" (defArgs sSame) (defBody sSame) (defScope sSame) .none kV7 dc7 pm7 an7 cd7 ct7), sl7⟩)
    (c7 : PySem.W.codeIn K cd7 "same_items" = true)
    (k7 : PySem.W.keepIn K (.ref f7) = true)
    (a8 : PySem.W.findIn K (.ref U) "__init__" = some (some (.ref f8)))
    (i8 : PySem.W.isFn K (.ref f8) = true)
    (l8 : K.lookup f8 = some ⟨oc8, od8, .func (PySem.W.fnOf "__init__" "Runs.__init__" (defArgs sRunsI) (defBody sRunsI) (defScope sRunsI) .none kV8 dc8 pm8 an8 cd8 ct8), sl8⟩)
    (c8 : PySem.W.codeIn K cd8 "Runs.__init__" = true)
    (k8 : PySem.W.keepIn K (.ref f8) = true)
    (a9 : PySem.W.findIn K (.ref R) "__init__" = some (some (.ref f9)))
    (i9 : PySem.W.isFn K (.ref f9) = true)
    (l9 : K.lookup f9 = some ⟨oc9, od9, .func (PySem.W.fnOf "__init__" "Repeats.__init__" (defArgs sRepI) (defBody sRepI) (defScope sRepI) .none kV9 dc9 pm9 an9 cd9 ct9), sl9⟩)
    (c9 : PySem.W.codeIn K cd9 "Repeats.__init__" = true)
    (k9 : PySem.W.keepIn K (.ref f9) = true)
    (a10 : PySem.W.findIn K (.ref R) "length" = some (some (.ref pL)))
    (pg : PySem.W.specialIn K (.ref pL) "__get__" = some (some (.builtin "property.__get__")))
    (pt : PySem.W.takesIn K (.ref pL) = some true)
    (pr : PySem.W.recIn K pL "property" = some (.ref f10 :: rest))
    (l10 : K.lookup f10 = some ⟨oc10, od10, .func (PySem.W.fnOf "length" "Repeats.length" (defArgs sLength) (defBody sLength) (defScope sLength) .none kV10 dc10 pm10 an10 cd10 ct10), sl10⟩)
    (c10 : PySem.W.codeIn K cd10 "Repeats.length" = true)
    (k10 : PySem.W.keepIn K (.ref f10) = true)
    (a11 : PySem.W.findIn K (.ref R) "__getitem__" = some (some (.ref f11)))
    (i11 : PySem.W.isFn K (.ref f11) = true)
    (l11 : K.lookup f11 = some ⟨oc11, od11, .func (PySem.W.fnOf "__getitem__" "Repeats.__getitem__" (defArgs sItem) (defBody sItem) (defScope sItem) .none kV11 dc11 pm11 an11 cd11 ct11), sl11⟩)
    (c11 : PySem.W.codeIn K cd11 "Repeats.__getitem__" = true)
    (k11 : PySem.W.keepIn K (.ref f11) = true)
    (a12 : PySem.W.findIn K (.ref R) "part" = some (some (.ref f12)))
    (i12 : PySem.W.isFn K (.ref f12) = true)
    (l12 : K.lookup f12 = some ⟨oc12, od12, .func (PySem.W.fnOf "part" "Repeats.part" (defArgs sPart) (defBody sPart) (defScope sPart) .none kV12 dc12 pm12 an12 cd12 ct12), sl12⟩)
    (c12 : PySem.W.codeIn K cd12 "Repeats.part" = true)
    (k12 : PySem.W.keepIn K (.ref f12) = true)
    (a13 : PySem.W.findIn K (.ref R) "count" = some (some (.ref f13)))
    (i13 : PySem.W.isFn K (.ref f13) = true)
    (l13 : K.lookup f13 = some ⟨oc13, od13, .func (PySem.W.fnOf "count" "Repeats.count" (defArgs sCount) (defBody sCount) (defScope sCount) .none kV13 dc13 pm13 an13 cd13 ct13), sl13⟩)
    (c13 : PySem.W.codeIn K cd13 "Repeats.count" = true)
    (k13 : PySem.W.keepIn K (.ref f13) = true)
    (a14 : PySem.W.findIn K (.ref R) "__add__" = some (some (.ref f14)))
    (i14 : PySem.W.isFn K (.ref f14) = true)
    (l14 : K.lookup f14 = some ⟨oc14, od14, .func (PySem.W.fnOf "__add__" "Repeats.__add__" (defArgs sAdd) (defBody sAdd) (defScope sAdd) .none kV14 dc14 pm14 an14 cd14 ct14), sl14⟩)
    (c14 : PySem.W.codeIn K cd14 "Repeats.__add__" = true)
    (k14 : PySem.W.keepIn K (.ref f14) = true)
    (a15 : PySem.W.findIn K (.ref R) "__eq__" = some (some (.ref f15)))
    (i15 : PySem.W.isFn K (.ref f15) = true)
    (l15 : K.lookup f15 = some ⟨oc15, od15, .func (PySem.W.fnOf "__eq__" "Repeats.__eq__" (defArgs sEq) (defBody sEq) (defScope sEq) .none kV15 dc15 pm15 an15 cd15 ct15), sl15⟩)
    (c15 : PySem.W.codeIn K cd15 "Repeats.__eq__" = true)
    (k15 : PySem.W.keepIn K (.ref f15) = true)
    (a16 : PySem.W.findIn K (.ref R) "__bool__" = some (some (.ref f16)))
    (i16 : PySem.W.isFn K (.ref f16) = true)
    (l16 : K.lookup f16 = some ⟨oc16, od16, .func (PySem.W.fnOf "__bool__" "Repeats.__bool__" (defArgs sBool) (defBody sBool) (defScope sBool) .none kV16 dc16 pm16 an16 cd16 ct16), sl16⟩)
    (c16 : PySem.W.codeIn K cd16 "Repeats.__bool__" = true)
    (k16 : PySem.W.keepIn K (.ref f16) = true)
    (a17 : PySem.W.nsIn K mainGlobals "_law_bag" = some (some (.ref f17)))
    (l17 : K.lookup f17 = some ⟨oc17, od17, .func (PySem.W.fnOf "_law_bag" "_law_bag" (defArgs sBag) (defBody sBag) (defScope sBag) .none kV17 dc17 pm17 an17 cd17 ct17), sl17⟩)
    (c17 : PySem.W.codeIn K cd17 "_law_bag" = true)
    (k17 : PySem.W.keepIn K (.ref f17) = true)
    (a18 : PySem.W.nsIn K mainGlobals "_law_take" = some (some (.ref f18)))
    (l18 : K.lookup f18 = some ⟨oc18, od18, .func (PySem.W.fnOf "_law_take" "_law_take" (defArgs sTake) (defBody sTake) (defScope sTake) .none kV18 dc18 pm18 an18 cd18 ct18), sl18⟩)
    (c18 : PySem.W.codeIn K cd18 "_law_take" = true)
    (k18 : PySem.W.keepIn K (.ref f18) = true)
    (a19 : PySem.W.nsIn K mainGlobals "_law_text" = some (some (.ref f19)))
    (l19 : K.lookup f19 = some ⟨oc19, od19, .func (PySem.W.fnOf "_law_text" "_law_text" (defArgs sText) (defBody sText) (defScope sText) .none kV19 dc19 pm19 an19 cd19 ct19), sl19⟩)
    (c19 : PySem.W.codeIn K cd19 "_law_text" = true)
    (k19 : PySem.W.keepIn K (.ref f19) = true)
    (a20 : PySem.W.nsIn K mainGlobals "_law_pairs" = some (some (.ref f20)))
    (l20 : K.lookup f20 = some ⟨oc20, od20, .func (PySem.W.fnOf "_law_pairs" "_law_pairs" (defArgs sPairs) (defBody sPairs) (defScope sPairs) .none kV20 dc20 pm20 an20 cd20 ct20), sl20⟩)
    (c20 : PySem.W.codeIn K cd20 "_law_pairs" = true)
    (k20 : PySem.W.keepIn K (.ref f20) = true)
    (a21 : PySem.W.nsIn K mainGlobals "_law_cuts" = some (some (.ref f21)))
    (l21 : K.lookup f21 = some ⟨oc21, od21, .func (PySem.W.fnOf "_law_cuts" "_law_cuts" (defArgs sCuts) (defBody sCuts) (defScope sCuts) .none kV21 dc21 pm21 an21 cd21 ct21), sl21⟩)
    (c21 : PySem.W.codeIn K cd21 "_law_cuts" = true)
    (k21 : PySem.W.keepIn K (.ref f21) = true)
    (a22 : PySem.W.nsIn K mainGlobals "_law_parts_right" = some (some (.ref f22)))
    (l22 : K.lookup f22 = some ⟨oc22, od22, .func (PySem.W.fnOf "_law_parts_right" "_law_parts_right" (defArgs sRight) (defBody sRight) (defScope sRight) .none kV22 dc22 pm22 an22 cd22 ct22), sl22⟩)
    (c22 : PySem.W.codeIn K cd22 "_law_parts_right" = true)
    (k22 : PySem.W.keepIn K (.ref f22) = true)
    (a23 : PySem.W.nsIn K mainGlobals "law" = some (some (.ref f23)))
    (l23 : K.lookup f23 = some ⟨oc23, od23, .func (PySem.W.fnOf "law" "law" (defArgs sLaw) (defBody sLaw) (defScope sLaw) .none kV23 dc23 pm23 an23 cd23 ct23), sl23⟩)
    (c23 : PySem.W.codeIn K cd23 "law" = true)
    (k23 : PySem.W.keepIn K (.ref f23) = true)
    (pgR : PySem.W.plainGet K R Str.empty = true)
    (hdR : PySem.W.hasDictIn K R = true)
    (poR : PySem.W.plainOver K R = true)
    (saR : PySem.W.findIn K (.ref R) "__setattr__" = some (some (.builtin "object.__setattr__")))
    (mkR : PySem.W.makesIn K R = true)
    (kcR : PySem.W.keepIn K (.ref R) = true)
    (clR : PySem.W.findIn K (.ref R) "__class__" = some (some (.builtin "object.__class__")))
    (moR : PySem.W.mroIn K R (.type "object") = some true)
    (pgU : PySem.W.plainGet K U Str.empty = true)
    (hdU : PySem.W.hasDictIn K U = true)
    (poU : PySem.W.plainOver K U = true)
    (saU : PySem.W.findIn K (.ref U) "__setattr__" = some (some (.builtin "object.__setattr__")))
    (mkU : PySem.W.makesIn K U = true)
    (kcU : PySem.W.keepIn K (.ref U) = true)
    (clU : PySem.W.findIn K (.ref U) "__class__" = some (some (.builtin "object.__class__")))
    (moU : PySem.W.mroIn K U (.type "object") = some true)
    (cG : PySem.W.specialIn K (.builtin "object.__class__") "__get__" = some (some (.builtin "getset_descriptor.__get__")))
    (cT : PySem.W.takesIn K (.builtin "object.__class__") = some true)
    (nR : PySem.W.findIn K (.ref R) "runs" = some none)
    (nU : PySem.W.findIn K (.ref U) "tidied" = some none)
    (isU : PySem.W.isClsIn K U = true)
    (tyU : PySem.W.typeIn K (.ref U) = some (.type "type"))
    (suU : PySem.W.subIn K (.type "list") (.ref U) = some false)
    (sf : PySem.W.selfFirst K R = true)
    (ne : PySem.W.findIn K (.ref R) "__ne__" = some (some (.builtin "object.__ne__")))
    (so : PySem.W.subIn K (.ref R) (.type "object") = some true)
    (fnG : PySem.W.fnIn K f11 = true)
    (zI : PySem.W.nsIn K mainGlobals "ITEMS" = some (some (.str "abcd" tkI)))
    (zM : PySem.W.nsIn K mainGlobals "MOST_TIMES" = some (some (.int (10 ^ 60) tkM)))
    (zP : PySem.W.nsIn K mainGlobals "MOST_PAIRS" = some (some (.int 50 tkP)))
    (zL : PySem.W.nsIn K mainGlobals "LONGEST_PART" = some (some (.int 20 tkL)))
    (z_len : PySem.W.nsIn K mainGlobals "len" = some none)
    (z_isinstance : PySem.W.nsIn K mainGlobals "isinstance" = some none)
    (z_all : PySem.W.nsIn K mainGlobals "all" = some none)
    (z_sum : PySem.W.nsIn K mainGlobals "sum" = some none)
    (z_min : PySem.W.nsIn K mainGlobals "min" = some none)
    (z_max : PySem.W.nsIn K mainGlobals "max" = some none)
    (z_divmod : PySem.W.nsIn K mainGlobals "divmod" = some none)
    (z_abs : PySem.W.nsIn K mainGlobals "abs" = some none)
    (z_range : PySem.W.nsIn K mainGlobals "range" = some none)
    (z_zip : PySem.W.nsIn K mainGlobals "zip" = some none)
    (z_sorted : PySem.W.nsIn K mainGlobals "sorted" = some none)
    (z_bool : PySem.W.nsIn K mainGlobals "bool" = some none)
    (z_int : PySem.W.nsIn K mainGlobals "int" = some none)
    (z_str : PySem.W.nsIn K mainGlobals "str" = some none)
    (z_tuple : PySem.W.nsIn K mainGlobals "tuple" = some none)
    (z_list : PySem.W.nsIn K mainGlobals "list" = some none)
    : ∃ fd : FuncData, (∀ (s : Shared) (v : Value), BindsTo s fd ⟨[v], []⟩ [("_law_script", v)]) ∧ ∀ base : Heap, K.In base → base.Ns mainGlobals mg → FnOk l.prog w K mg base CX0 7 fa fd ["_law_script"] (spLaw K) := by
  have e := hfa.symm.trans (PySem.W.mg_of X G a23)
  cases e
  have kit : PySem.W.kitOne K (.type "list") (.ref U) = some false := by
    unfold PySem.W.kitOne
    rw [if_neg (by simp)]
    show (if ((PySem.W.clsIn K U).isSome && PySem.W.typeIn K (.ref U) == some (.type "type")) = true then PySem.W.subIn K (.type "list") (.ref U) else none) = some false
    have hi : (PySem.W.clsIn K U).isSome = true := isU
    rw [hi, tyU, suU]
    rfl
  have Z : Txt K mg R U := { clR := ⟨pgR, hdR, poR, saR⟩, clU := ⟨pgU, hdU, poU, saU⟩, nRuns := nR, nTid := nU, mgR := PySem.W.mg_of X G aR, mgU := PySem.W.mg_of X G aU, cR := clR, cU := clU, cG := cG, cT := cT, mR := moR, mU := moU, lU := kit, items := ⟨_, PySem.W.mg_of X G zI⟩, most := ⟨_, PySem.W.mg_of X G zM⟩, pairs := ⟨_, PySem.W.mg_of X G zP⟩, lpart := ⟨_, PySem.W.mg_of X G zL⟩, len := PySem.W.mg_none_of X G z_len, isi := PySem.W.mg_none_of X G z_isinstance, all := PySem.W.mg_none_of X G z_all, sum := PySem.W.mg_none_of X G z_sum, min := PySem.W.mg_none_of X G z_min, max := PySem.W.mg_none_of X G z_max, dm := PySem.W.mg_none_of X G z_divmod, abs := PySem.W.mg_none_of X G z_abs, range := PySem.W.mg_none_of X G z_range, zip := PySem.W.mg_none_of X G z_zip, sorted := PySem.W.mg_none_of X G z_sorted, bool := PySem.W.mg_none_of X G z_bool, int := PySem.W.mg_none_of X G z_int, str := PySem.W.mg_none_of X G z_str, tuple := PySem.W.mg_none_of X G z_tuple, list := PySem.W.mg_none_of X G z_list }
  have F0 := fun_mk (st := sIsInt) l0 c0 k0
  have b0 := F0.binds (ps := ["thing", "least", "most"]) fun _ _ _ _ _ _ us hl => match us, hl with | [_, _, _], _ => rfl
  have g0 := PySem.W.mg_of X G a0
  have F1 := fun_mk (st := sIsText) l1 c1 k1
  have b1 := F1.binds (ps := ["thing"]) fun _ _ _ _ _ _ us hl => match us, hl with | [_], _ => rfl
  have g1 := PySem.W.mg_of X G a1
  have F2 := fun_mk (st := sIsPair) l2 c2 k2
  have b2 := F2.binds (ps := ["thing"]) fun _ _ _ _ _ _ us hl => match us, hl with | [_], _ => rfl
  have g2 := PySem.W.mg_of X G a2
  have F3 := fun_mk (st := sRoot) l3 c3 k3
  have b3 := F3.binds (ps := ["part"]) fun _ _ _ _ _ _ us hl => match us, hl with | [_], _ => rfl
  have g3 := PySem.W.mg_of X G a3
  have F4 := fun_mk (st := sTidy) l4 c4 k4
  have b4 := F4.binds (ps := ["pairs"]) fun _ _ _ _ _ _ us hl => match us, hl with | [_], _ => rfl
  have g4 := PySem.W.mg_of X G a4
  have F5 := fun_mk (st := sStretch) l5 c5 k5
  have b5 := F5.binds (ps := ["part", "first", "many"]) fun _ _ _ _ _ _ us hl => match us, hl with | [_, _, _], _ => rfl
  have g5 := PySem.W.mg_of X G a5
  have F6 := fun_mk (st := sCut) l6 c6 k6
  have b6 := F6.binds (ps := ["part", "begin", "end"]) fun _ _ _ _ _ _ us hl => match us, hl with | [_, _, _], _ => rfl
  have g6 := PySem.W.mg_of X G a6
  have F7 := fun_mk (st := sSame) l7 c7 k7
  have b7 := F7.binds (ps := ["one", "other"]) fun _ _ _ _ _ _ us hl => match us, hl with | [_, _], _ => rfl
  have g7 := PySem.W.mg_of X G a7
  have F8 := fun_mk (st := sRunsI) l8 c8 k8
  have b8 := F8.binds (ps := ["self", "pairs"]) fun _ _ _ _ _ _ us hl => match us, hl with | [_, _], _ => rfl
  have F9 := fun_mk (st := sRepI) l9 c9 k9
  have b9 := F9.binds (ps := ["self", "pairs"]) fun _ _ _ _ _ _ us hl => match us, hl with | [_, _], _ => rfl
  have F10 := fun_mk (st := sLength) l10 c10 k10
  have b10 := F10.binds (ps := ["self"]) fun _ _ _ _ _ _ us hl => match us, hl with | [_], _ => rfl
  have F11 := fun_mk (st := sItem) l11 c11 k11
  have b11 := F11.binds (ps := ["self", "index"]) fun _ _ _ _ _ _ us hl => match us, hl with | [_, _], _ => rfl
  have F12 := fun_mk (st := sPart) l12 c12 k12
  have b12 := F12.binds (ps := ["self", "begin", "end"]) fun _ _ _ _ _ _ us hl => match us, hl with | [_, _, _], _ => rfl
  have F13 := fun_mk (st := sCount) l13 c13 k13
  have b13 := F13.binds (ps := ["self", "item"]) fun _ _ _ _ _ _ us hl => match us, hl with | [_, _], _ => rfl
  have F14 := fun_mk (st := sAdd) l14 c14 k14
  have b14 := F14.binds (ps := ["self", "other"]) fun _ _ _ _ _ _ us hl => match us, hl with | [_, _], _ => rfl
  have F15 := fun_mk (st := sEq) l15 c15 k15
  have b15 := F15.binds (ps := ["self", "other"]) fun _ _ _ _ _ _ us hl => match us, hl with | [_, _], _ => rfl
  have F16 := fun_mk (st := sBool) l16 c16 k16
  have b16 := F16.binds (ps := ["self"]) fun _ _ _ _ _ _ us hl => match us, hl with | [_], _ => rfl
  have F17 := fun_mk (st := sBag) l17 c17 k17
  have b17 := F17.binds (ps := ["_law_script", "_law_at"]) fun _ _ _ _ _ _ us hl => match us, hl with | [_, _], _ => rfl
  have g17 := PySem.W.mg_of X G a17
  have F18 := fun_mk (st := sTake) l18 c18 k18
  have b18 := F18.binds (ps := ["_law_bag_here", "_law_many"]) fun _ _ _ _ _ _ us hl => match us, hl with | [_, _], _ => rfl
  have g18 := PySem.W.mg_of X G a18
  have F19 := fun_mk (st := sText) l19 c19 k19
  have b19 := F19.binds (ps := ["_law_bag_here", "_law_most"]) fun _ _ _ _ _ _ us hl => match us, hl with | [_, _], _ => rfl
  have g19 := PySem.W.mg_of X G a19
  have F20 := fun_mk (st := sPairs) l20 c20 k20
  have b20 := F20.binds (ps := ["_law_bag_here", "_law_most", "_law_times"]) fun _ _ _ _ _ _ us hl => match us, hl with | [_, _, _], _ => rfl
  have g20 := PySem.W.mg_of X G a20
  have F21 := fun_mk (st := sCuts) l21 c21 k21
  have b21 := F21.binds (ps := ["_law_bag_here", "_law_home"]) fun _ _ _ _ _ _ us hl => match us, hl with | [_, _], _ => rfl
  have g21 := PySem.W.mg_of X G a21
  have F22 := fun_mk (st := sRight) l22 c22 k22
  have b22 := F22.binds (ps := ["_law_home", "_law_places"]) fun _ _ _ _ _ _ us hl => match us, hl with | [_, _], _ => rfl
  have g22 := PySem.W.mg_of X G a22
  have F23 := fun_mk (st := sLaw) l23 c23 k23
  have b23 := F23.binds (ps := ["_law_script"]) fun _ _ _ _ _ _ us hl => match us, hl with | [_], _ => rfl
  have g23 := PySem.W.mg_of X G a23
  refine ⟨PySem.W.fnOf "law" "law" (defArgs sLaw) (defBody sLaw) (defScope sLaw) .none kV23 dc23 pm23 an23 cd23 ct23, fun s v => .of_eq rfl, fun base _ _ => ?_⟩
  have G0 : FnOk l.prog w K mg base CX0 1 f0 _ ["thing", "least", "most"] spIsInt := ok_isInt F0 Z
  have G2 : FnOk l.prog w K mg base CX0 2 f2 _ ["thing"] spIsPair := ok_isPair F2 Z F1 b1 g1 F0 b0 g0
  have G4 : FnOk l.prog w K mg base CX0 2 f4 _ ["pairs"] spTidy := ok_tidy F4 Z F3 b3 g3
  have G7 : FnOk l.prog w K mg base CX0 2 f7 _ ["one", "other"] spSame := ok_same F7 Z F5 b5 g5
  have G8 : FnOk l.prog w K mg base CX0 3 f8 _ ["self", "pairs"] (spRunsI U) := ok_runsI F8 Z F4 b4 g4 G4
  have G9 : FnOk l.prog w K mg base CX0 3 f9 _ ["self", "pairs"] (spRepI R U) := ok_repI F9 Z F4 b4 g4 G4 F2 b2 g2 G2
  have G10 : FnOk l.prog w K mg base CX0 1 f10 _ ["self"] (spLength R) := ok_length F10 Z
  have PL : PropOf K R "length" pL f10 := ⟨a10, pg, pt, _, pr⟩
  have MR : Mk K R f9 := ⟨mkR, a9, i9, kcR⟩
  have MU : Mk K U f8 := ⟨mkU, a8, i8, kcU⟩
  have G11 : FnOk l.prog w K mg base CX0 3 f11 _ ["self", "index"] (spItem R) := ok_item F11 Z PL b10 G10 F0 b0 g0
  have G12 : FnOk l.prog w K mg base CX0 5 f12 _ ["self", "begin", "end"] (spPart R) := ok_part F12 Z PL b10 G10 F0 b0 g0 F6 b6 g6 MR b9 G9 MU b8 G8
  have G13 : FnOk l.prog w K mg base CX0 1 f13 _ ["self", "item"] (spCount R) := ok_count F13 Z
  have G14 : FnOk l.prog w K mg base CX0 5 f14 _ ["self", "other"] (spAdd R) := ok_add F14 Z MR b9 G9 MU b8 G8
  have G15 : FnOk l.prog w K mg base CX0 3 f15 _ ["self", "other"] (spEq R) := ok_eq F15 Z PL b10 G10 F7 b7 g7 G7
  have G16 : FnOk l.prog w K mg base CX0 1 f16 _ ["self"] (spBool R) := ok_bool F16 Z
  have G17 : FnOk l.prog w K mg base CX0 1 f17 _ ["_law_script", "_law_at"] (spBag K) := ok_bag F17 Z
  have G18 : FnOk l.prog w K mg base CX0 1 f18 _ ["_law_bag_here", "_law_many"] spTake := ok_take F18
  have G20 : FnOk l.prog w K mg base CX0 3 f20 _ ["_law_bag_here", "_law_most", "_law_times"] spPairs := ok_pairs F20 Z F18 b18 g18 F19 b19 g19
  have G21 : FnOk l.prog w K mg base CX0 3 f21 _ ["_law_bag_here", "_law_home"] (spCuts R) := ok_cuts F21 Z F18 b18 g18 PL b10 G10
  have O : Ops K R f14 f15 f11 f16 := ⟨sf, a14, i14, ne, so, a15, i15, a11, fnG, i11, a16, i16⟩
  have G22 : FnOk l.prog w K mg base CX0 6 f22 _ ["_law_home", "_law_places"] (spRight R) := ok_right F22 Z O PL b10 G10 ⟨a12, i12, k12⟩ b12 G12 ⟨a13, i13, k13⟩ b13 G13 MR b9 G9 b14 G14 b15 G15
  exact ok_law F23 Z O PL b10 G10 ⟨a12, i12, k12⟩ b12 G12 MR b9 G9 b14 G14 b15 G15 b11 G11 b16 G16 F17 b17 g17 G17 F18 b18 g18 G18 F20 b20 g20 G20 F21 b21 g21 G21 F22 b22 g22 G22
theorem walk {l : PySem.W.OpenLaw} {q : Program} {loose : List Str} {XP : (Str → Option Value) → Heap → Prop} {YP : World → Heap → Prop} {d : DefRec} {K : Params → PySem.W.Frag} (hn : l.most = some 63) (hdf : d.params.defaults = []) (hd : d.name = "law")
    (hY : ∀ (w : World) (h : Heap), YP w h → (K w.params).In h)
    (F : ∀ (w : World) (mg : Str → Option Value) (fa : Addr) (h : Heap), (K w.params).In h → h.Ns mainGlobals mg → mg "law" = some (.ref fa) →
      ∃ fd : FuncData, (∀ (s : Shared) (u : Value), BindsTo s fd ⟨[u], []⟩ [("_law_script", u)]) ∧ ∀ base : Heap, (K w.params).In base → base.Ns mainGlobals mg → FnOk l.prog w (K w.params) mg base CX0 7 fa fd ["_law_script"] (spLaw (K w.params))) :
    PySem.W.WalkO q loose XP YP l.row.toRowW d [] (fun f vs => PySem.call f vs) :=
  L2.walk_of (n := 63) (k := 7) (x := "_law_script") (CX := fun _ => CX0) (sp := fun w => spLaw (K w.params)) hn (by decide) hdf ⟨rfl, by decide, by decide⟩ hY (fun w mg fa h a b c => F w mg fa h a b (hd ▸ c)) (fun _ _ a ns hl _ hS => ⟨a, ns, rfl, hS, hl, fun _ => rfl⟩) fun _ _ _ _ _ z => z
end Ob

open PySem PySem.W PyProof.Rows in
set_option maxRecDepth 100000 in
set_option maxHeartbeats 0 in
theorem PySem.Challenge.cw_ownbranch_k58_whole_parts_hold_together_holds : PySem.Challenge.rw_ownbranch_k58_whole_parts_hold_together.Holds := by
  w_on; o_law; k_head; (case hw => w_witness2)
  k_fill
  refine Ob.walk (l := PySem.Challenge.rw_ownbranch_k58_whole_parts_hold_together) rfl rfl rfl (fun w h Y => PySem.W.kIn_of Y) ?F
  case F =>
    intro w mg fa h KX G hmg
    refine' Ob.all_mk KX G hmg ?aR ?aU ?a0 ?l0 ?c0 ?k0 ?a1 ?l1 ?c1 ?k1 ?a2 ?l2 ?c2 ?k2 ?a3 ?l3 ?c3 ?k3 ?a4 ?l4 ?c4 ?k4 ?a5 ?l5 ?c5 ?k5 ?a6 ?l6 ?c6 ?k6 ?a7 ?l7 ?c7 ?k7 ?a8 ?i8 ?l8 ?c8 ?k8 ?a9 ?i9 ?l9 ?c9 ?k9 ?a10 ?pg ?pt ?pr ?l10 ?c10 ?k10 ?a11 ?i11 ?l11 ?c11 ?k11 ?a12 ?i12 ?l12 ?c12 ?k12 ?a13 ?i13 ?l13 ?c13 ?k13 ?a14 ?i14 ?l14 ?c14 ?k14 ?a15 ?i15 ?l15 ?c15 ?k15 ?a16 ?i16 ?l16 ?c16 ?k16 ?a17 ?l17 ?c17 ?k17 ?a18 ?l18 ?c18 ?k18 ?a19 ?l19 ?c19 ?k19 ?a20 ?l20 ?c20 ?k20 ?a21 ?l21 ?c21 ?k21 ?a22 ?l22 ?c22 ?k22 ?a23 ?l23 ?c23 ?k23 ?pgR ?hdR ?poR ?saR ?mkR ?kcR ?clR ?moR ?pgU ?hdU ?poU ?saU ?mkU ?kcU ?clU ?moU ?cG ?cT ?nR ?nU ?isU ?tyU ?suU ?sf ?ne ?so ?fnG ?zI ?zM ?zP ?zL ?z_len ?z_isinstance ?z_all ?z_sum ?z_min ?z_max ?z_divmod ?z_abs ?z_range ?z_zip ?z_sorted ?z_bool ?z_int ?z_str ?z_tuple ?z_list
    (case aR => k_is)
    (case aU => k_is)
    (case a0 => k_is)
    (case l0 => k_is)
    (case c0 => k_is)
    (case k0 => k_is)
    (case a1 => k_is)
    (case l1 => k_is)
    (case c1 => k_is)
    (case k1 => k_is)
    (case a2 => k_is)
    (case l2 => k_is)
    (case c2 => k_is)
    (case k2 => k_is)
    (case a3 => k_is)
    (case l3 => k_is)
    (case c3 => k_is)
    (case k3 => k_is)
    (case a4 => k_is)
    (case l4 => k_is)
    (case c4 => k_is)
    (case k4 => k_is)
    (case a5 => k_is)
    (case l5 => k_is)
    (case c5 => k_is)
    (case k5 => k_is)
    (case a6 => k_is)
    (case l6 => k_is)
    (case c6 => k_is)
    (case k6 => k_is)
    (case a7 => k_is)
    (case l7 => k_is)
    (case c7 => k_is)
    (case k7 => k_is)
    (case a8 => k_is)
    (case i8 => k_is)
    (case l8 => k_is)
    (case c8 => k_is)
    (case k8 => k_is)
    (case a9 => k_is)
    (case i9 => k_is)
    (case l9 => k_is)
    (case c9 => k_is)
    (case k9 => k_is)
    (case a10 => k_is)
    (case pg => k_is)
    (case pt => k_is)
    (case pr => k_is)
    (case l10 => k_is)
    (case c10 => k_is)
    (case k10 => k_is)
    (case a11 => k_is)
    (case i11 => k_is)
    (case l11 => k_is)
    (case c11 => k_is)
    (case k11 => k_is)
    (case a12 => k_is)
    (case i12 => k_is)
    (case l12 => k_is)
    (case c12 => k_is)
    (case k12 => k_is)
    (case a13 => k_is)
    (case i13 => k_is)
    (case l13 => k_is)
    (case c13 => k_is)
    (case k13 => k_is)
    (case a14 => k_is)
    (case i14 => k_is)
    (case l14 => k_is)
    (case c14 => k_is)
    (case k14 => k_is)
    (case a15 => k_is)
    (case i15 => k_is)
    (case l15 => k_is)
    (case c15 => k_is)
    (case k15 => k_is)
    (case a16 => k_is)
    (case i16 => k_is)
    (case l16 => k_is)
    (case c16 => k_is)
    (case k16 => k_is)
    (case a17 => k_is)
    (case l17 => k_is)
    (case c17 => k_is)
    (case k17 => k_is)
    (case a18 => k_is)
    (case l18 => k_is)
    (case c18 => k_is)
    (case k18 => k_is)
    (case a19 => k_is)
    (case l19 => k_is)
    (case c19 => k_is)
    (case k19 => k_is)
    (case a20 => k_is)
    (case l20 => k_is)
    (case c20 => k_is)
    (case k20 => k_is)
    (case a21 => k_is)
    (case l21 => k_is)
    (case c21 => k_is)
    (case k21 => k_is)
    (case a22 => k_is)
    (case l22 => k_is)
    (case c22 => k_is)
    (case k22 => k_is)
    (case a23 => k_is)
    (case l23 => k_is)
    (case c23 => k_is)
    (case k23 => k_is)
    (case pgR => k_is)
    (case hdR => k_is)
    (case poR => k_is)
    (case saR => k_is)
    (case mkR => k_is)
    (case kcR => k_is)
    (case clR => k_is)
    (case moR => k_is)
    (case pgU => k_is)
    (case hdU => k_is)
    (case poU => k_is)
    (case saU => k_is)
    (case mkU => k_is)
    (case kcU => k_is)
    (case clU => k_is)
    (case moU => k_is)
    (case cG => k_is)
    (case cT => k_is)
    (case nR => k_is)
    (case nU => k_is)
    (case isU => k_is)
    (case tyU => k_is)
    (case suU => k_is)
    (case sf => k_is)
    (case ne => k_is)
    (case so => k_is)
    (case fnG => k_is)
    (case zI => k_is)
    (case zM => k_is)
    (case zP => k_is)
    (case zL => k_is)
    (case z_len => k_is)
    (case z_isinstance => k_is)
    (case z_all => k_is)
    (case z_sum => k_is)
    (case z_min => k_is)
    (case z_max => k_is)
    (case z_divmod => k_is)
    (case z_abs => k_is)
    (case z_range => k_is)
    (case z_zip => k_is)
    (case z_sorted => k_is)
    (case z_bool => k_is)
    (case z_int => k_is)
    (case z_str => k_is)
    (case z_tuple => k_is)
    (case z_list => k_is)
