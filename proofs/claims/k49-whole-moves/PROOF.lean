import PyProof.Rows.All
import Wide.All
import OpenK.AllK
import Wide.FinOn
import HandS.ForMost
import HandS.Gcd
import HandS.Wide
import HandS.DictComp
import HandS.SetKeys
import HandS.More
import HandS.TupAny
import HandS.TupLe
import HandS.Style
import HandS.IsInst
import HandS.Walk
import HandS.Zip
import HandS.Conv
import KE.GoesNew
import KE.GoesNewDict
import KE.KTupSum
import HandS.DictTup
import PySem.Challenge.RW_spinfield_k49_whole_moves_keep
set_option Elab.async false
set_option linter.all false
set_option exponentiation.threshold 10000
set_option maxRecDepth 100000
set_option maxHeartbeats 4000000
/-! fractions as rational numbers: what the two numbers of a reduced pair are -/
namespace K49
theorem rat_mk (n : Int) (d : Nat) (h : d ≠ 0) : ((n : Rat) / (d : Rat)).num = n / (Nat.gcd n.natAbs d : Nat) ∧ ((n : Rat) / (d : Rat)).den = d / Nat.gcd n.natAbs d := by
  rw [← Rat.mkRat_eq_div, ← Rat.normalize_eq_mkRat h, Rat.normalize_eq h]
  exact ⟨rfl, rfl⟩
theorem rat_num (n d : Int) (h : 0 < d) : ((n : Rat) / (d : Rat)).num = n / ((Nat.gcd n.natAbs d.natAbs : Nat) : Int) := by
  obtain ⟨k, rfl⟩ : ∃ k : Nat, d = k := ⟨d.toNat, by omega⟩
  exact (rat_mk n k (by omega)).1
theorem rat_den (n d : Int) (h : 0 < d) : (((n : Rat) / (d : Rat)).den : Int) = d / ((Nat.gcd n.natAbs d.natAbs : Nat) : Int) := by
  obtain ⟨k, rfl⟩ : ∃ k : Nat, d = k := ⟨d.toNat, by omega⟩
  have e := (rat_mk n k (by omega)).2
  show (((n : Rat) / (k : Rat)).den : Int) = _
  rw [e]
  rfl
theorem rat_self (q : Rat) : (q.num : Rat) / ((q.den : Int) : Rat) = q := by
  have h := Rat.mkRat_self q
  rw [Rat.mkRat_eq_div] at h
  exact h
theorem den_pos' (q : Rat) : (0 : Int) < (q.den : Int) := by
  have := q.den_pos
  omega
theorem den_ne' (q : Rat) : ((q.den : Int) : Rat) ≠ 0 := by
  intro h
  have h2 : (q.den : Int) = 0 := by exact_mod_cast h
  have := den_pos' q
  omega
theorem rat_add (p q : Rat) : ((p.num * q.den + q.num * p.den : Int) : Rat) / ((p.den * q.den : Int) : Rat) = p + q := by
  have hp := rat_self p
  have hq := rat_self q
  have h1 := den_ne' p
  have h2 := den_ne' q
  rw [Rat.intCast_add, Rat.intCast_mul, Rat.intCast_mul, Rat.intCast_mul]
  generalize (p.num : Rat) = a at *
  generalize (q.num : Rat) = b at *
  generalize ((p.den : Int) : Rat) = c at *
  generalize ((q.den : Int) : Rat) = d at *
  subst hp hq
  grind
theorem rat_sub (p q : Rat) : ((p.num * q.den - q.num * p.den : Int) : Rat) / ((p.den * q.den : Int) : Rat) = p - q := by
  have hp := rat_self p
  have hq := rat_self q
  have h1 := den_ne' p
  have h2 := den_ne' q
  rw [Rat.intCast_sub, Rat.intCast_mul, Rat.intCast_mul, Rat.intCast_mul]
  generalize (p.num : Rat) = a at *
  generalize (q.num : Rat) = b at *
  generalize ((p.den : Int) : Rat) = c at *
  generalize ((q.den : Int) : Rat) = d at *
  subst hp hq
  grind
theorem rat_mul (p q : Rat) : ((p.num * q.num : Int) : Rat) / ((p.den * q.den : Int) : Rat) = p * q := by
  have hp := rat_self p
  have hq := rat_self q
  have h1 := den_ne' p
  have h2 := den_ne' q
  rw [Rat.intCast_mul, Rat.intCast_mul]
  generalize (p.num : Rat) = a at *
  generalize (q.num : Rat) = b at *
  generalize ((p.den : Int) : Rat) = c at *
  generalize ((q.den : Int) : Rat) = d at *
  subst hp hq
  grind
theorem num_pos' {q : Rat} (h : 0 < q) : 0 < q.num := by
  rw [Rat.lt_iff] at h
  simpa using h
theorem rat_div (p q : Rat) (h : 0 < q) : ((p.num * q.den : Int) : Rat) / ((p.den * q.num : Int) : Rat) = p / q := by
  have hp := rat_self p
  have hq := rat_self q
  have h1 := den_ne' p
  have h2 := den_ne' q
  have h3 : (q.num : Rat) ≠ 0 := by
    intro z
    have : q.num = 0 := by exact_mod_cast z
    have := num_pos' h
    omega
  rw [Rat.intCast_mul, Rat.intCast_mul]
  generalize (p.num : Rat) = a at *
  generalize (q.num : Rat) = b at *
  generalize ((p.den : Int) : Rat) = c at *
  generalize ((q.den : Int) : Rat) = d at *
  subst hp hq
  grind
/-- the size of what is reckoned with -/
def Sz (q : Rat) : Prop := q.num.natAbs < 2 ^ 4500 ∧ q.den < 2 ^ 4500
theorem Sz.n {q : Rat} (h : Sz q) : q.num.natAbs < 2 ^ 4500 := h.1
theorem Sz.d {q : Rat} (h : Sz q) : (q.den : Int).natAbs < 2 ^ 4500 := by
  rw [Int.natAbs_natCast]
  exact h.2
theorem mul_small {a b : Int} (h : a.natAbs < 2 ^ 4500) (g : b.natAbs < 2 ^ 4500) : (a * b).natAbs < 2 ^ 9000 := by
  have e : (2 : Nat) ^ 9000 = 2 ^ 4500 * 2 ^ 4500 := (Nat.pow_add 2 4500 4500)
  rw [Int.natAbs_mul, e]
  exact Nat.mul_lt_mul'' h g
/-- smaller: a base -/
def Sb (q : Rat) : Prop := 0 < q ∧ q.num < 2 ^ 60 ∧ q.den < 2 ^ 60
theorem zpow_base (q : Rat) (h : 0 < q) (e : Int) : (if 0 ≤ e then q else 1 / q) ^ e.natAbs = q ^ e := by
  by_cases he : 0 ≤ e
  · rw [if_pos he]
    obtain ⟨k, rfl⟩ : ∃ k : Nat, e = k := ⟨e.toNat, by omega⟩
    rw [Int.natAbs_natCast, Rat.zpow_natCast]
  · rw [if_neg he]
    obtain ⟨k, rfl⟩ : ∃ k : Nat, e = -(k : Int) := ⟨(-e).toNat, by omega⟩
    rw [Int.natAbs_neg, Int.natAbs_natCast, Rat.zpow_neg, Rat.zpow_natCast, Rat.div_def, Rat.one_mul]
    clear he
    induction k with
    | zero => rw [Rat.pow_zero, Rat.pow_zero]; grind
    | succ k ih => rw [Rat.pow_succ, ih, Rat.pow_succ]; grind
theorem inv_parts (p : Rat) (h : 0 < p) : (1 / p).num = p.den ∧ ((1 / p).den : Int) = p.num := by
  have e := rat_div 1 p h
  have e1 : (1 : Rat).num = 1 := rfl
  have e2 : (1 : Rat).den = 1 := rfl
  rw [e1, e2] at e
  have hn := num_pos' h
  have hr : Nat.gcd p.den p.num.natAbs = 1 := by
    rw [Nat.gcd_comm]
    exact p.reduced
  rw [← e]
  have s1 : (1 : Int) * (p.den : Int) = p.den := Int.one_mul _
  have s2 : ((1 : Nat) : Int) * p.num = p.num := Int.one_mul _
  rw [s1, s2, rat_num _ _ hn, rat_den _ _ hn, Int.natAbs_natCast, hr]
  simp
theorem Sb_inv {p : Rat} (h : Sb p) (e : Int) : 0 < (if 0 ≤ e then p else 1 / p).num ∧ (if 0 ≤ e then p else 1 / p).num < 2 ^ 60 ∧ ((if 0 ≤ e then p else 1 / p).den : Int) < 2 ^ 60 := by
  obtain ⟨h0, h1, h2⟩ := h
  have hn := num_pos' h0
  have hd := den_pos' p
  split
  · exact ⟨hn, h1, by omega⟩
  · obtain ⟨e1, e2⟩ := inv_parts p h0
    rw [e1, e2]
    exact ⟨hd, by omega, h1⟩
theorem Sb_sz {p : Rat} (h : Sb p) : Sz p := by
  have h2 : (2 : Nat) ^ 60 ≤ 2 ^ 4500 := Nat.pow_le_pow_right (by decide) (by decide)
  have hn := num_pos' h.1
  refine ⟨Nat.lt_of_lt_of_le ?_ h2, Nat.lt_of_lt_of_le h.2.2 h2⟩
  have := h.2.1
  omega
theorem sum_snoc (l : List Rat) (a : Rat) : (l ++ [a]).sum = l.sum + a := by
  induction l with
  | nil => simp; grind
  | cons b l ih => rw [List.cons_append, List.sum_cons, List.sum_cons, ih, Rat.add_assoc]
/-- the sums so far are small, and so are the items -/
def SzAll (qs : List Rat) : Prop := (∀ k, Sz (qs.take k).sum) ∧ ∀ q ∈ qs, Sz q
theorem den_of {q : Rat} {D : Nat} {z : Int} (h : q * (D : Rat) = (z : Rat)) : q.den ∣ D := by
  have h1 := rat_self q
  have h2 := den_ne' q
  have h3 : (q.num : Rat) * ((D : Int) : Rat) = (z : Rat) * ((q.den : Int) : Rat) := by
    have e : ((D : Int) : Rat) = (D : Rat) := rfl
    rw [e, ← h]
    generalize (q.num : Rat) = a at *
    generalize ((q.den : Int) : Rat) = c at *
    subst h1
    grind
  have h4 : q.num * (D : Int) = z * (q.den : Int) := by exact_mod_cast h3
  have h5 : q.den ∣ q.num.natAbs * D := by
    have := congrArg Int.natAbs h4
    rw [Int.natAbs_mul, Int.natAbs_mul, Int.natAbs_natCast, Int.natAbs_natCast] at this
    rw [this]
    exact Nat.dvd_mul_left _ _
  have hr : Nat.Coprime q.den q.num.natAbs := Nat.Coprime.symm q.reduced
  exact hr.dvd_of_dvd_mul_left h5
theorem sz_of {q : Rat} {D B : Nat} {z : Int} (h : q * (D : Rat) = (z : Rat)) (hD : 0 < D) (h0 : 0 ≤ q) (h1 : q ≤ (B : Rat)) (hB : B * D < 2 ^ 4500) (hB1 : 1 ≤ B) : Sz q := by
  have hd : q.den ≤ D := Nat.le_of_dvd hD (den_of h)
  have hBD : D ≤ B * D := Nat.le_mul_of_pos_left D hB1
  have hn : q.num ≤ (B : Int) * (q.den : Int) := by
    have h2 := Rat.le_iff q (B : Rat) |>.mp h1
    have e1 : ((B : Rat)).den = 1 := rfl
    have e2 : ((B : Rat)).num = (B : Int) := rfl
    rw [e1, e2] at h2
    omega
  have hn0 : 0 ≤ q.num := Rat.num_nonneg.mpr h0
  have hle : B * q.den ≤ B * D := Nat.mul_le_mul_left B hd
  have hc : ((B * q.den : Nat) : Int) = (B : Int) * (q.den : Int) := Int.natCast_mul _ _
  exact ⟨by omega, by omega⟩
end K49
/-! the states, the costs, in plain lists -/
namespace K49
/-- the states of n vertices, in ascending order -/
def sts : Nat → List (List Int)
  | 0 => [[]]
  | n + 1 => (sts n).flatMap fun s => [s ++ [0], s ++ [1]]
theorem sts_len : ∀ n, (sts n).length = 2 ^ n
  | 0 => rfl
  | n + 1 => by
    have h := sts_len n
    unfold sts
    rw [List.length_flatMap]
    simp only [List.length_cons, List.length_nil]
    rw [List.map_const', List.sum_replicate_nat, h, Nat.pow_succ]
theorem sts_mem : ∀ n s, s ∈ sts n → s.length = n ∧ ∀ b ∈ s, b = 0 ∨ b = 1
  | 0, s, h => by
    have e : s = [] := List.mem_singleton.mp h
    subst e
    exact ⟨rfl, fun b hb => nomatch hb⟩
  | n + 1, s, h => by
    unfold sts at h
    obtain ⟨t, ht, hs⟩ := List.mem_flatMap.mp h
    obtain ⟨h1, h2⟩ := sts_mem n t ht
    rcases List.mem_cons.mp hs with e | e
    · subst e
      refine ⟨by simp [h1], fun b hb => ?_⟩
      rcases List.mem_append.mp hb with hb | hb
      · exact h2 b hb
      · exact .inl (List.mem_singleton.mp hb)
    · have e := List.mem_singleton.mp e
      subst e
      refine ⟨by simp [h1], fun b hb => ?_⟩
      rcases List.mem_append.mp hb with hb | hb
      · exact h2 b hb
      · exact .inr (List.mem_singleton.mp hb)
end K49
namespace K49
/-- the data of spins, and two fractions -/
structure In where
  fs : List Int
  es : List (Nat × Nat × Int)
  x : Rat
  y : Rat
def paid (fs s : List Int) : Int := ((fs.zip s).filterMap fun p => if p.2 = 1 then some p.1 else none).sum
def cut (es : List (Nat × Nat × Int)) (s : List Int) : Int := (es.filterMap fun e => if s.getD e.1 0 = s.getD e.2.1 0 then none else some e.2.2).sum
def costI (fs : List Int) (es : List (Nat × Nat × Int)) (s : List Int) : Int := paid fs s + cut es s
/-- the shape of spins -/
structure Ok (I : In) : Prop where
  n1 : 1 ≤ I.fs.length
  n5 : I.fs.length ≤ 5
  ed : ∀ e ∈ I.es, e.1 < e.2.1 ∧ e.2.1 < I.fs.length
end K49
namespace K49
/-- a state's number -/
def idx (s : List Int) : Nat := s.foldl (fun n b => 2 * n + b.toNat) 0
theorem idx_snoc (s : List Int) (b : Int) : idx (s ++ [b]) = 2 * idx s + b.toNat := by
  unfold idx
  rw [List.foldl_append]
  rfl
theorem idx_rev : ∀ (r : List Int), (∀ b ∈ r, b = 0 ∨ b = 1) → idx r.reverse < 2 ^ r.length
  | [], _ => by decide
  | b :: r, h => by
    have h1 := idx_rev r fun c hc => h c (List.mem_cons_of_mem _ hc)
    have h2 := h b List.mem_cons_self
    rw [List.reverse_cons, idx_snoc, List.length_cons, Nat.pow_succ]
    rcases h2 with rfl | rfl
    · show 2 * idx r.reverse + 0 < _
      omega
    · show 2 * idx r.reverse + 1 < _
      omega
theorem idx_lt (s : List Int) (h : ∀ b ∈ s, b = 0 ∨ b = 1) : idx s < 2 ^ s.length := by
  have := idx_rev s.reverse (by simpa using h)
  simpa using this
end K49
/-! the weights and their sizes -/
namespace K49
structure Good (fs : List Int) (es : List (Nat × Nat × Int)) (x y : Rat) : Prop where
  n1 : 1 ≤ fs.length
  n5 : fs.length ≤ 5
  fb : ∀ f ∈ fs, -2 ≤ f ∧ f ≤ 2
  el : es.length ≤ 10
  ed : ∀ e ∈ es, e.1 < e.2.1 ∧ e.2.1 < fs.length ∧ -3 ≤ e.2.2 ∧ e.2.2 ≤ 3
  x0 : 0 < x
  xn : x.num ≤ 6
  xd : x.den ≤ 4
  y0 : 0 < y
  yn : y.num ≤ 4
  yd : y.den ≤ 3
/-- the weight of a state -/
def wt (fs : List Int) (es : List (Nat × Nat × Int)) (x y : Rat) (s : List Int) : Rat := x ^ costI fs es s * y ^ s.sum
def wts (fs : List Int) (es : List (Nat × Nat × Int)) (x y : Rat) : List Rat := (sts fs.length).map (wt fs es x y)

def negs (l : List Int) : Int := (l.map fun a => if a < 0 then a else 0).sum
def abss (l : List Int) : Int := (l.map fun a => if a < 0 then -a else a).sum
theorem negs_bd : ∀ l : List Int, -abss l ≤ negs l ∧ negs l ≤ 0
  | [] => ⟨by decide, by decide⟩
  | a :: l => by
    have h := negs_bd l
    have e1 : negs (a :: l) = (if a < 0 then a else 0) + negs l := by unfold negs; rw [List.map_cons, List.sum_cons]
    have e2 : abss (a :: l) = (if a < 0 then -a else a) + abss l := by unfold abss; rw [List.map_cons, List.sum_cons]
    rw [e1, e2]
    split <;> omega
theorem abss_le {B : Int} : ∀ {l : List Int}, (∀ a ∈ l, -B ≤ a ∧ a ≤ B) → abss l ≤ B * (l.length : Int)
  | [], _ => by show (0 : Int) ≤ B * 0; omega
  | a :: l, h => by
    have ih := abss_le fun b hb => h b (List.mem_cons_of_mem _ hb)
    have ha := h a List.mem_cons_self
    have e2 : abss (a :: l) = (if a < 0 then -a else a) + abss l := by unfold abss; rw [List.map_cons, List.sum_cons]
    have e3 : B * ((a :: l).length : Int) = B * (l.length : Int) + B := by
      rw [List.length_cons, Int.natCast_add, Int.mul_add, Int.natCast_one, Int.mul_one]
    rw [e2, e3]
    split <;> omega
theorem paid_bd : ∀ (fs s : List Int), s.length = fs.length → negs fs ≤ paid fs s ∧ paid fs s ≤ negs fs + abss fs
  | [], s, _ => by
    have : paid [] s = 0 := by unfold paid; rw [List.zip_nil_left]; rfl
    rw [this]
    exact ⟨by decide, by decide⟩
  | f :: fs, [], h => by simp at h
  | f :: fs, b :: s, h => by
    have ih := paid_bd fs s (by simpa using h)
    have e1 : negs (f :: fs) = (if f < 0 then f else 0) + negs fs := by unfold negs; rw [List.map_cons, List.sum_cons]
    have e2 : abss (f :: fs) = (if f < 0 then -f else f) + abss fs := by unfold abss; rw [List.map_cons, List.sum_cons]
    have e3 : paid (f :: fs) (b :: s) = (if b = 1 then f else 0) + paid fs s := by
      unfold paid
      rw [List.zip_cons_cons, List.filterMap_cons]
      by_cases hb : b = 1
      · simp [hb]
      · simp [hb]
    rw [e1, e2, e3]
    split <;> split <;> omega
theorem cut_bd : ∀ (es : List (Nat × Nat × Int)) (s : List Int), negs (es.map (·.2.2)) ≤ cut es s ∧ cut es s ≤ negs (es.map (·.2.2)) + abss (es.map (·.2.2))
  | [], s => ⟨by show (0 : Int) ≤ 0; decide, by show (0 : Int) ≤ 0; decide⟩
  | e :: es, s => by
    have ih := cut_bd es s
    have e1 : negs ((e :: es).map (·.2.2)) = (if e.2.2 < 0 then e.2.2 else 0) + negs (es.map (·.2.2)) := by unfold negs; rw [List.map_cons, List.map_cons, List.sum_cons]
    have e2 : abss ((e :: es).map (·.2.2)) = (if e.2.2 < 0 then -e.2.2 else e.2.2) + abss (es.map (·.2.2)) := by unfold abss; rw [List.map_cons, List.map_cons, List.sum_cons]
    have e3 : cut (e :: es) s = (if s.getD e.1 0 = s.getD e.2.1 0 then 0 else e.2.2) + cut es s := by
      unfold cut
      by_cases hb : s.getD e.1 0 = s.getD e.2.1 0
      · rw [List.filterMap_cons_none (by rw [if_pos hb]), if_pos hb, Int.zero_add]
      · rw [List.filterMap_cons_some (b := e.2.2) (by rw [if_neg hb]), List.sum_cons, if_neg hb]
    rw [e1, e2, e3]
    split <;> split <;> omega
theorem bits_sum : ∀ {s : List Int}, (∀ b ∈ s, b = 0 ∨ b = 1) → 0 ≤ s.sum ∧ s.sum ≤ (s.length : Int)
  | [], _ => ⟨by decide, by decide⟩
  | b :: s, h => by
    have ih := bits_sum fun c hc => h c (List.mem_cons_of_mem _ hc)
    have hb := h b List.mem_cons_self
    rw [List.sum_cons, List.length_cons]
    omega
/-- powers of a small fraction -/
theorem sz_zpow {p : Rat} (h0 : 0 < p) (hn : p.num ≤ 8) (hd : p.den ≤ 8) {e : Int} (he : e.natAbs ≤ 1000) : Sz (p ^ e) := by
  have hpn := num_pos' h0
  have hpd := den_pos' p
  have eq := zpow_base p h0 e
  obtain ⟨r, hr⟩ : ∃ r, r = (if 0 ≤ e then p else 1 / p) := ⟨_, rfl⟩
  rw [← hr] at eq
  have hrn : r.num.natAbs ≤ 8 ∧ r.den ≤ 8 := by
    rw [hr]
    split
    · omega
    · obtain ⟨e1, e2⟩ := inv_parts p h0
      rw [e1]
      omega
  have big : 8 ^ e.natAbs < 2 ^ 4500 := by
    have e8 : (8 : Nat) = 2 ^ 3 := by decide
    rw [e8, ← Nat.pow_mul]
    exact Nat.pow_lt_pow_right (by decide) (by omega)
  refine ⟨?_, ?_⟩
  · rw [← eq, Rat.num_pow, Int.natAbs_pow]
    exact Nat.lt_of_le_of_lt (Nat.pow_le_pow_left hrn.1 _) big
  · rw [← eq, Rat.den_pow]
    exact Nat.lt_of_le_of_lt (Nat.pow_le_pow_left hrn.2 _) big
theorem zpow_pos' {p : Rat} (h : 0 < p) (e : Int) : 0 < p ^ e := by
  have eq := zpow_base p h e
  rw [← eq]
  have hr : 0 < (if 0 ≤ e then p else 1 / p) := by
    split
    · exact h
    · rw [Rat.div_def, Rat.one_mul]
      exact Rat.inv_pos.mpr h
  generalize (if 0 ≤ e then p else 1 / p) = r at hr
  induction e.natAbs with
  | zero => rw [Rat.pow_zero]; decide
  | succ k ih => rw [Rat.pow_succ]; exact Rat.mul_pos ih hr
theorem mulpow (a b : Rat) (k : Nat) : (a * b) ^ k = a ^ k * b ^ k := by
  induction k with
  | zero => rw [Rat.pow_zero, Rat.pow_zero, Rat.pow_zero, Rat.mul_one]
  | succ k ih => rw [Rat.pow_succ, Rat.pow_succ, Rat.pow_succ, ih]; grind
theorem natpow (a k : Nat) : (((a ^ k : Nat) : Nat) : Rat) = (a : Rat) ^ k := by
  induction k with
  | zero => rw [Rat.pow_zero, Nat.pow_zero]; rfl
  | succ k ih => rw [Nat.pow_succ, Rat.natCast_mul, ih, Rat.pow_succ]
/-- x^k, over b^n -/
theorem pow_frac {p : Rat} (h : 0 < p) {k n : Nat} (hk : k ≤ n) : p ^ k * ((p.den ^ n : Nat) : Rat) = ((p.num.toNat ^ k * p.den ^ (n - k) : Nat) : Rat) := by
  have hn := num_pos' h
  have hs := rat_self p
  have e1 : (p.num : Rat) = ((p.num.toNat : Nat) : Rat) := by
    have : p.num = ((p.num.toNat : Nat) : Int) := by omega
    have h2 : (p.num : Rat) = ((((p.num.toNat : Nat) : Int)) : Rat) := congrArg (fun z : Int => (z : Rat)) this
    rw [h2]
    rfl
  have e2 : ((p.den : Int) : Rat) = ((p.den : Nat) : Rat) := rfl
  have hd := den_ne' p
  rw [e2] at hd hs
  rw [e1] at hs
  have hpd : p * ((p.den : Nat) : Rat) = ((p.num.toNat : Nat) : Rat) := by
    generalize ((p.num.toNat : Nat) : Rat) = a at *
    generalize ((p.den : Nat) : Rat) = c at *
    subst hs
    grind
  have e3 : p.den ^ n = p.den ^ k * p.den ^ (n - k) := by
    rw [← Nat.pow_add]
    congr 1
    omega
  rw [e3, Rat.natCast_mul, Rat.natCast_mul, natpow, natpow, natpow, ← Rat.mul_assoc, ← mulpow, hpd]
section
variable {fs : List Int} {es : List (Nat × Nat × Int)} {x y : Rat} {s : List Int}
theorem small_sb {p : Rat} (h : 0 < p) (hn : p.num ≤ 8) (hd : p.den ≤ 8) : Sb p := ⟨h, by omega, by omega⟩
theorem Good.bx (G : Good fs es x y) : Sb x := small_sb G.x0 (by have := G.xn; omega) (by have := G.xd; omega)
theorem Good.by_ (G : Good fs es x y) : Sb y := small_sb G.y0 (by have := G.yn; omega) (by have := G.yd; omega)
def lo (fs : List Int) (es : List (Nat × Nat × Int)) : Int := negs fs + negs (es.map (·.2.2))
theorem Good.rng (G : Good fs es x y) (h : s ∈ sts fs.length) : lo fs es ≤ costI fs es s ∧ costI fs es s ≤ lo fs es + 40 ∧ -40 ≤ lo fs es ∧ lo fs es ≤ 0 := by
  have h1 := paid_bd fs s (sts_mem _ _ h).1
  have h2 := cut_bd es s
  have h3 := negs_bd fs
  have h4 := negs_bd (es.map (·.2.2))
  have h5 : abss fs ≤ 2 * (fs.length : Int) := abss_le G.fb
  have h6 : abss (es.map (·.2.2)) ≤ 3 * ((es.map (·.2.2)).length : Int) := abss_le fun a ha => by
    obtain ⟨e, he, rfl⟩ := List.mem_map.mp ha
    exact (G.ed e he).2.2
  rw [List.length_map] at h6
  have h7 := G.n5
  have h8 := G.el
  unfold lo costI
  omega
theorem Good.ups (G : Good fs es x y) (h : s ∈ sts fs.length) : 0 ≤ s.sum ∧ s.sum ≤ 5 := by
  have h1 := bits_sum (sts_mem _ _ h).2
  rw [(sts_mem _ _ h).1] at h1
  have := G.n5
  omega
theorem Good.c40 (G : Good fs es x y) (h : s ∈ sts fs.length) : (costI fs es s).natAbs ≤ 1000 := by
  have := G.rng h
  omega
theorem Good.u40 (G : Good fs es x y) (h : s ∈ sts fs.length) : s.sum.natAbs ≤ 1000 := by
  have := G.ups h
  omega
theorem Good.szx (G : Good fs es x y) (h : s ∈ sts fs.length) : Sz (x ^ costI fs es s) := sz_zpow G.x0 (by have := G.xn; omega) (by have := G.xd; omega) (G.c40 h)
theorem Good.szy (G : Good fs es x y) (h : s ∈ sts fs.length) : Sz (y ^ s.sum) := sz_zpow G.y0 (by have := G.yn; omega) (by have := G.yd; omega) (G.u40 h)
theorem Good.w0 (G : Good fs es x y) : 0 < wt fs es x y s := Rat.mul_pos (zpow_pos' G.x0 _) (zpow_pos' G.y0 _)
/-- whole numbers in the weights' proportions -/
def mI (fs : List Int) (es : List (Nat × Nat × Int)) (x y : Rat) (s : List Int) : Nat :=
  (x.num.toNat ^ (costI fs es s - lo fs es).toNat * x.den ^ (40 - (costI fs es s - lo fs es).toNat)) * (y.num.toNat ^ s.sum.toNat * y.den ^ (5 - s.sum.toNat))
def kap (fs : List Int) (es : List (Nat × Nat × Int)) (x y : Rat) : Rat := x ^ lo fs es / ((x.den ^ 40 * y.den ^ 5 : Nat) : Rat)
theorem Good.dpos (G : Good fs es x y) : 0 < x.den ^ 40 * y.den ^ 5 := Nat.mul_pos (Nat.pow_pos x.den_pos) (Nat.pow_pos y.den_pos)
theorem Good.kap0 (G : Good fs es x y) : 0 < kap fs es x y := by
  unfold kap
  rw [Rat.div_def]
  have h : (0 : Rat) < ((x.den ^ 40 * y.den ^ 5 : Nat) : Rat) := by exact_mod_cast G.dpos
  exact Rat.mul_pos (zpow_pos' G.x0 _) (Rat.inv_pos.mpr h)
theorem Good.wm (G : Good fs es x y) (h : s ∈ sts fs.length) : wt fs es x y s = kap fs es x y * (mI fs es x y s : Rat) := by
  have h1 := G.rng h
  have h2 := G.ups h
  obtain ⟨k, hk, hk40⟩ : ∃ k : Nat, costI fs es s = lo fs es + (k : Int) ∧ k ≤ 40 := ⟨(costI fs es s - lo fs es).toNat, by omega, by omega⟩
  obtain ⟨u, hu, hu5⟩ : ∃ u : Nat, s.sum = (u : Int) ∧ u ≤ 5 := ⟨s.sum.toNat, by omega, by omega⟩
  have ex : x ≠ 0 := fun z => by have := G.x0; rw [z] at this; exact absurd this (by decide)
  have p1 := pow_frac G.x0 hk40
  have p2 := pow_frac G.y0 hu5
  have em : mI fs es x y s = (x.num.toNat ^ k * x.den ^ (40 - k)) * (y.num.toNat ^ u * y.den ^ (5 - u)) := by
    unfold mI
    have e1 : (costI fs es s - lo fs es).toNat = k := by omega
    have e2 : s.sum.toNat = u := by omega
    rw [e1, e2]
  rw [em]
  unfold wt kap
  rw [hk, hu, Rat.zpow_add ex, Rat.zpow_natCast, Rat.zpow_natCast, Rat.natCast_mul (x.num.toNat ^ k * x.den ^ (40 - k)), ← p1, ← p2, Rat.natCast_mul (x.den ^ 40)]
  have d1 : ((x.den ^ 40 : Nat) : Rat) ≠ 0 := by
    have : x.den ^ 40 ≠ 0 := Nat.ne_of_gt (Nat.pow_pos x.den_pos)
    exact_mod_cast this
  have d2 : ((y.den ^ 5 : Nat) : Rat) ≠ 0 := by
    have : y.den ^ 5 ≠ 0 := Nat.ne_of_gt (Nat.pow_pos y.den_pos)
    exact_mod_cast this
  generalize ((x.den ^ 40 : Nat) : Rat) = b at *
  generalize ((y.den ^ 5 : Nat) : Rat) = d at *
  generalize x ^ lo fs es = L
  generalize x ^ k = X
  generalize y ^ u = Y
  grind
theorem Good.m0 (G : Good fs es x y) : 0 < mI fs es x y s := by
  have h1 := num_pos' G.x0
  have h2 := num_pos' G.y0
  exact Nat.mul_pos (Nat.mul_pos (Nat.pow_pos (by omega)) (Nat.pow_pos x.den_pos)) (Nat.mul_pos (Nat.pow_pos (by omega)) (Nat.pow_pos y.den_pos))
theorem Good.mB (G : Good fs es x y) (h : s ∈ sts fs.length) : mI fs es x y s < 2 ^ 114 := by
  have h1 := G.rng h
  have h2 := G.ups h
  have b1 : x.num.toNat ≤ 6 := by have := G.xn; omega
  have b2 : x.den ≤ 6 := by have := G.xd; omega
  have b3 : y.num.toNat ≤ 4 := by have := G.yn; omega
  have b4 : y.den ≤ 4 := by have := G.yd; omega
  unfold mI
  generalize hk : (costI fs es s - lo fs es).toNat = k
  generalize hu : s.sum.toNat = u
  have hk2 : k ≤ 40 := by omega
  have hu2 : u ≤ 5 := by omega
  have c1 : x.num.toNat ^ k * x.den ^ (40 - k) ≤ 6 ^ 40 := by
    have e : (6 : Nat) ^ 40 = 6 ^ k * 6 ^ (40 - k) := by rw [← Nat.pow_add]; congr 1; omega
    rw [e]
    exact Nat.mul_le_mul (Nat.pow_le_pow_left b1 k) (Nat.pow_le_pow_left b2 _)
  have c2 : y.num.toNat ^ u * y.den ^ (5 - u) ≤ 4 ^ 5 := by
    have e : (4 : Nat) ^ 5 = 4 ^ u * 4 ^ (5 - u) := by rw [← Nat.pow_add]; congr 1; omega
    rw [e]
    exact Nat.mul_le_mul (Nat.pow_le_pow_left b3 u) (Nat.pow_le_pow_left b4 _)
  exact Nat.lt_of_le_of_lt (Nat.mul_le_mul c1 c2) (by decide)
/-- the weights as whole numbers over one bottom -/
theorem Good.big (G : Good fs es x y) : ∃ D : Nat, 0 < D ∧ D < 2 ^ 220 ∧ ∀ s ∈ sts fs.length, ∃ z : Nat, wt fs es x y s * (D : Rat) = (z : Rat) ∧ z < 2 ^ 220 := by
  have hl : ∀ s ∈ sts fs.length, -40 ≤ lo fs es ∧ lo fs es ≤ 0 := fun s h => (G.rng h).2.2
  have hne : ∃ s, s ∈ sts fs.length := by
    have := sts_len fs.length
    have hp : 0 < 2 ^ fs.length := Nat.pow_pos (by decide)
    cases e : sts fs.length with
    | nil => rw [e] at this; simp at this; omega
    | cons a l => exact ⟨a, List.mem_cons_self⟩
  obtain ⟨s0, hs0⟩ := hne
  have hlo := hl s0 hs0
  obtain ⟨j, hj, hj40⟩ : ∃ j : Nat, lo fs es = -(j : Int) ∧ j ≤ 40 := ⟨(-lo fs es).toNat, by omega, by omega⟩
  have h1 := num_pos' G.x0
  have b1 : x.num.toNat ≤ 6 := by have := G.xn; omega
  have b2 : x.den ≤ 6 := by have := G.xd; omega
  have b4 : y.den ≤ 4 := by have := G.yd; omega
  have n1 : 0 < x.num.toNat := by omega
  have pw : ∀ k, k ≤ 40 → ∀ a, a ≤ 6 → a ^ k ≤ 6 ^ 40 := fun k hk a ha => Nat.le_trans (Nat.pow_le_pow_left ha k) (Nat.pow_le_pow_right (by decide) hk)
  refine ⟨x.num.toNat ^ 40 * (x.den ^ 40 * y.den ^ 5), Nat.mul_pos (Nat.pow_pos n1) G.dpos, ?_, fun s hs => ⟨x.den ^ j * x.num.toNat ^ (40 - j) * mI fs es x y s, ?_, ?_⟩⟩
  · have c1 := pw 40 (Nat.le_refl _) _ b1
    have c2 := pw 40 (Nat.le_refl _) _ b2
    have c3 : y.den ^ 5 ≤ 4 ^ 5 := Nat.pow_le_pow_left b4 5
    exact Nat.lt_of_le_of_lt (Nat.mul_le_mul c1 (Nat.mul_le_mul c2 c3)) (by decide)
  · rw [G.wm hs]
    unfold kap
    have d1 : ((x.den ^ 40 * y.den ^ 5 : Nat) : Rat) ≠ 0 := by
      have : x.den ^ 40 * y.den ^ 5 ≠ 0 := Nat.ne_of_gt G.dpos
      exact_mod_cast this
    have hinv : 0 < 1 / x := by
      rw [Rat.div_def, Rat.one_mul]
      exact Rat.inv_pos.mpr G.x0
    have key : x ^ lo fs es * ((x.num.toNat ^ 40 : Nat) : Rat) = ((x.den ^ j * x.num.toNat ^ (40 - j) : Nat) : Rat) := by
      have p := pow_frac hinv hj40
      obtain ⟨i1, i2⟩ := inv_parts x G.x0
      have i3 : (1 / x).den = x.num.toNat := by omega
      have i4 : (1 / x).num.toNat = x.den := by rw [i1]; omega
      rw [i3, i4] at p
      have e : x ^ lo fs es = (1 / x) ^ j := by
        rw [hj, Rat.zpow_neg, Rat.zpow_natCast]
        have hxp : ∀ k : Nat, (x ^ k)⁻¹ = (1 / x) ^ k := fun k => by
          have hx0 : x ≠ 0 := fun z => by have := G.x0; rw [z] at this; exact absurd this (by decide)
          have h2 : x ^ k * (1 / x) ^ k = 1 := by
            rw [← mulpow]
            have : x * (1 / x) = 1 := by rw [Rat.div_def, Rat.one_mul]; exact Rat.mul_inv_cancel x hx0
            rw [this]
            clear this
            induction k with
            | zero => rw [Rat.pow_zero]
            | succ k ih => rw [Rat.pow_succ, ih, Rat.one_mul]
          generalize x ^ k = a at h2
          generalize (1 / x) ^ k = b at h2
          have ha : a ≠ 0 := fun z => by rw [z, Rat.zero_mul] at h2; exact absurd h2 (by decide)
          grind
        exact hxp j
      rw [e]
      exact p
    rw [Rat.natCast_mul (x.num.toNat ^ 40), Rat.natCast_mul (x.den ^ j * x.num.toNat ^ (40 - j)), ← key]
    generalize ((x.den ^ 40 * y.den ^ 5 : Nat) : Rat) = c at *
    generalize ((x.num.toNat ^ 40 : Nat) : Rat) = a at *
    generalize x ^ lo fs es = L at *
    generalize (mI fs es x y s : Rat) = m
    grind
  · have c1 := pw j hj40 _ b2
    have c2 := pw (40 - j) (by omega) _ b1
    have c4 : x.den ^ j * x.num.toNat ^ (40 - j) ≤ 6 ^ 40 := by
      have e : (6 : Nat) ^ 40 = 6 ^ j * 6 ^ (40 - j) := by rw [← Nat.pow_add]; congr 1; omega
      rw [e]
      exact Nat.mul_le_mul (Nat.pow_le_pow_left b2 j) (Nat.pow_le_pow_left b1 _)
    have c3 := G.mB hs
    exact Nat.lt_of_lt_of_le (Nat.mul_lt_mul_of_le_of_lt c4 c3 (by decide)) (by decide)
theorem le_of_mul {q : Rat} {D z : Nat} (hD : 0 < D) (h0 : 0 ≤ q) (h : q * (D : Rat) = (z : Rat)) : q ≤ (z : Rat) := by
  have h1 : (1 : Rat) ≤ (D : Rat) := by exact_mod_cast hD
  have := Rat.mul_le_mul_of_nonneg_left h1 h0
  rw [Rat.mul_one, h] at this
  exact this
theorem sum_big {D : Nat} : ∀ {l : List Rat}, (∀ q ∈ l, 0 < q ∧ ∃ z : Nat, q * (D : Rat) = (z : Rat) ∧ z < 2 ^ 220) → 0 ≤ l.sum ∧ ∃ z : Nat, l.sum * (D : Rat) = (z : Rat) ∧ z ≤ l.length * 2 ^ 220
  | [], _ => ⟨Rat.le_refl, 0, by rw [List.sum_nil, Rat.zero_mul]; rfl, by simp⟩
  | a :: l, h => by
    obtain ⟨h0, z, hz, hz2⟩ := sum_big fun q hq => h q (List.mem_cons_of_mem _ hq)
    obtain ⟨a0, y, hy, hy2⟩ := h a List.mem_cons_self
    refine ⟨by rw [List.sum_cons]; grind, y + z, ?_, ?_⟩
    · rw [List.sum_cons, Rat.add_mul, hz, hy, Rat.natCast_add]
    · rw [List.length_cons, Nat.succ_mul]
      omega
theorem Good.sz_sum (G : Good fs es x y) {l : List Rat} (h : ∀ q ∈ l, ∃ s ∈ sts fs.length, q = wt fs es x y s) (hl : l.length ≤ 64) : Sz l.sum := by
  obtain ⟨D, h0, h1, h2⟩ := G.big
  obtain ⟨s0, z, hz, hzl⟩ := sum_big (D := D) (l := l) fun q hq => by
    obtain ⟨s, hs, rfl⟩ := h q hq
    exact ⟨G.w0, h2 s hs⟩
  have hle := le_of_mul h0 s0 hz
  have hz3 : z ≤ 64 * 2 ^ 220 := Nat.le_trans hzl (Nat.mul_le_mul_right _ hl)
  have hz4 : z < 2 ^ 240 := Nat.lt_of_le_of_lt hz3 (by decide)
  refine sz_of (q := l.sum) (D := D) (B := 2 ^ 240) (z := (z : Int)) (by rw [hz]; rfl) h0 s0 ?_ ?_ (Nat.pow_pos (by decide))
  · have : (z : Rat) ≤ ((2 ^ 240 : Nat) : Rat) := by exact_mod_cast Nat.le_of_lt hz4
    exact Rat.le_trans hle this
  · have e1 : 2 ^ 240 * D < 2 ^ 240 * 2 ^ 220 := Nat.mul_lt_mul_of_pos_left h1 (Nat.pow_pos (by decide))
    rw [← Nat.pow_add] at e1
    exact Nat.lt_of_lt_of_le e1 (Nat.pow_le_pow_right (by decide) (by decide))
theorem Good.szw (G : Good fs es x y) (h : s ∈ sts fs.length) : Sz (wt fs es x y s) := by
  have := G.sz_sum (l := [wt fs es x y s]) (fun q hq => ⟨s, h, List.mem_singleton.mp hq⟩) (by show 1 ≤ 64; decide)
  rw [List.sum_cons, List.sum_nil, Rat.add_zero] at this
  exact this
theorem Good.len (G : Good fs es x y) : (wts fs es x y).length ≤ 32 := by
  unfold wts
  rw [List.length_map, sts_len]
  exact Nat.pow_le_pow_right (n := 2) (by decide) G.n5
theorem Good.sums (G : Good fs es x y) : SzAll (wts fs es x y) := by
  have hm : ∀ q ∈ wts fs es x y, ∃ s ∈ sts fs.length, q = wt fs es x y s := fun q hq => by
    obtain ⟨s, hs, rfl⟩ := List.mem_map.mp hq
    exact ⟨s, hs, rfl⟩
  refine ⟨fun k => G.sz_sum (fun q hq => hm q (List.mem_of_mem_take hq)) ?_, fun q hq => ?_⟩
  · have := G.len
    rw [List.length_take]
    omega
  · obtain ⟨s, hs, rfl⟩ := hm q hq
    exact G.szw hs
theorem sum_pos : ∀ {l : List Rat}, l ≠ [] → (∀ q ∈ l, 0 < q) → 0 < l.sum
  | [a], _, h => by
    rw [List.sum_cons, List.sum_nil, Rat.add_zero]
    exact h a List.mem_cons_self
  | a :: b :: l, _, h => by
    have h1 := sum_pos (l := b :: l) (by simp) fun q hq => h q (List.mem_cons_of_mem _ hq)
    have h2 := h a List.mem_cons_self
    rw [List.sum_cons]
    grind
  | [], h, _ => absurd rfl h
theorem Good.tot0 (G : Good fs es x y) : 0 < (wts fs es x y).sum := by
  refine sum_pos (fun z => ?_) fun q hq => ?_
  · have h := congrArg List.length z
    unfold wts at h
    rw [List.length_map, sts_len] at h
    have hp : 0 < 2 ^ fs.length := Nat.pow_pos (by decide)
    rw [List.length_nil] at h
    omega
  · obtain ⟨s, hs, rfl⟩ := List.mem_map.mp hq
    exact G.w0
/-- the weight by the state's number -/
def wN (fs : List Int) (es : List (Nat × Nat × Int)) (x y : Rat) (i : Nat) : Rat := (wts fs es x y).getD i 0
theorem wts_len : (wts fs es x y).length = 2 ^ fs.length := by
  unfold wts
  rw [List.length_map, sts_len]
theorem wts_at {i : Nat} (h : i < 2 ^ fs.length) : (wts fs es x y)[i]? = some (wN fs es x y i) := by
  have hl : i < (wts fs es x y).length := by rw [wts_len]; exact h
  unfold wN
  rw [List.getD, List.getElem?_eq_getElem hl]
  rfl
/-- the state of a number -/
def stN (n i : Nat) : List Int := (sts n).getD i []
theorem stN_mem {n i : Nat} (h : i < 2 ^ n) : stN n i ∈ sts n := by
  have hl : i < (sts n).length := by rw [sts_len]; exact h
  unfold stN
  rw [List.getD, List.getElem?_eq_getElem hl]
  exact List.getElem_mem hl
theorem wN_eq {i : Nat} (h : i < 2 ^ fs.length) : wN fs es x y i = wt fs es x y (stN fs.length i) := by
  have hl : i < (sts fs.length).length := by rw [sts_len]; exact h
  have e := wts_at (fs := fs) (es := es) (x := x) (y := y) h
  unfold wts at e
  rw [List.getElem?_map, List.getElem?_eq_getElem hl] at e
  unfold stN
  rw [List.getD, List.getElem?_eq_getElem hl]
  exact (Option.some.inj e).symm
theorem Good.pos (G : Good fs es x y) {i : Nat} (h : i < 2 ^ fs.length) : 0 < wN fs es x y i := by
  rw [wN_eq h]
  exact G.w0
theorem Good.sz1 (G : Good fs es x y) {i : Nat} (h : i < 2 ^ fs.length) : Sz (wN fs es x y i) := by
  rw [wN_eq h]
  exact G.szw (stN_mem h)
theorem Good.szadd (G : Good fs es x y) {i j : Nat} (h : i < 2 ^ fs.length) (g : j < 2 ^ fs.length) : Sz (wN fs es x y i + wN fs es x y j) := by
  have := G.sz_sum (l := [wN fs es x y i, wN fs es x y j]) (fun q hq => ?_) (by show 2 ≤ 64; decide)
  · rw [List.sum_cons, List.sum_cons, List.sum_nil, Rat.add_zero] at this
    exact this
  · rcases List.mem_cons.mp hq with rfl | hq
    · exact ⟨_, stN_mem h, wN_eq h⟩
    · rw [List.mem_singleton.mp hq]
      exact ⟨_, stN_mem g, wN_eq g⟩
/-- the weight's whole number by the state's number -/
def mN (fs : List Int) (es : List (Nat × Nat × Int)) (x y : Rat) (i : Nat) : Nat := mI fs es x y (stN fs.length i)
theorem Good.wmN (G : Good fs es x y) {i : Nat} (h : i < 2 ^ fs.length) : wN fs es x y i = kap fs es x y * (mN fs es x y i : Rat) := by
  rw [wN_eq h]
  exact G.wm (stN_mem h)
theorem Good.ratio (G : Good fs es x y) {i j : Nat} (h : i < 2 ^ fs.length) (g : j < 2 ^ fs.length) : wN fs es x y j / wN fs es x y i * (mN fs es x y i : Rat) = (mN fs es x y j : Rat) := by
  have hk := G.kap0
  have hm : 0 < mN fs es x y i := G.m0
  have hm2 : ((mN fs es x y i : Nat) : Rat) ≠ 0 := by
    have : mN fs es x y i ≠ 0 := by omega
    exact_mod_cast this
  rw [G.wmN h, G.wmN g]
  generalize (mN fs es x y i : Rat) = a at *
  generalize (mN fs es x y j : Rat) = b at *
  generalize kap fs es x y = c at *
  have hc : c ≠ 0 := fun z => by rw [z] at hk; exact absurd hk (by decide)
  grind
theorem Good.szdiv (G : Good fs es x y) {i j : Nat} (h : i < 2 ^ fs.length) (g : j < 2 ^ fs.length) : Sz (wN fs es x y j / wN fs es x y i) := by
  have r := G.ratio h g
  have hm : 0 < mN fs es x y i := G.m0
  have b1 := G.mB (stN_mem h)
  have b2 := G.mB (stN_mem g)
  have h0 : 0 ≤ wN fs es x y j / wN fs es x y i := by
    rw [Rat.div_def]
    exact Rat.le_of_lt (Rat.mul_pos (G.pos g) (Rat.inv_pos.mpr (G.pos h)))
  refine sz_of (D := mN fs es x y i) (B := 2 ^ 114) (z := (mN fs es x y j : Int)) (by rw [r]; rfl) hm h0 ?_ ?_ (Nat.pow_pos (by decide))
  · have h1 := le_of_mul hm h0 r
    have : (mN fs es x y j : Rat) ≤ ((2 ^ 114 : Nat) : Rat) := by exact_mod_cast Nat.le_of_lt b2
    exact Rat.le_trans h1 this
  · have e1 : 2 ^ 114 * mN fs es x y i < 2 ^ 114 * 2 ^ 114 := Nat.mul_lt_mul_of_pos_left b1 (Nat.pow_pos (by decide))
    rw [← Nat.pow_add] at e1
    exact Nat.lt_of_lt_of_le e1 (Nat.pow_le_pow_right (by decide) (by decide))
end
end K49
/-! rows, tables and what is added up, in plain lists -/
namespace K49
/-- a row: the indexes with a chance that is not 0, in order -/
def rowOf (N : Nat) (c : Nat → Rat) : List (Nat × Rat) := (List.range N).filterMap fun k => if c k = 0 then none else some (k, c k)
def tab (N : Nat) (P : Nat → Nat → Rat) : List (List (Nat × Rat)) := (List.range N).map fun i => rowOf N (P i)
theorem rowOf_filter (N : Nat) (c : Nat → Rat) : rowOf N c = ((List.range N).filter fun k => decide (c k ≠ 0)).map fun k => (k, c k) := by
  unfold rowOf
  induction List.range N with
  | nil => rfl
  | cons a l ih =>
    rw [List.filterMap_cons, List.filter_cons]
    by_cases h : c a = 0
    · simp [h, ih]
    · simp [h, ih]
theorem mem_row {N : Nat} {c : Nat → Rat} {p : Nat × Rat} : p ∈ rowOf N c ↔ p.1 < N ∧ c p.1 ≠ 0 ∧ p.2 = c p.1 := by
  rw [rowOf_filter, List.mem_map]
  constructor
  · rintro ⟨k, hk, rfl⟩
    rw [List.mem_filter, List.mem_range] at hk
    exact ⟨hk.1, of_decide_eq_true hk.2, rfl⟩
  · rintro ⟨h1, h2, h3⟩
    refine ⟨p.1, ?_, ?_⟩
    · rw [List.mem_filter, List.mem_range]
      exact ⟨h1, decide_eq_true h2⟩
    · rw [← h3]
theorem row_inc (N : Nat) (c : Nat → Rat) : (rowOf N c).Pairwise fun p q => p.1 < q.1 := by
  rw [rowOf_filter, List.pairwise_map]
  exact (List.pairwise_lt_range).filter _
theorem row_len (N : Nat) (c : Nat → Rat) : (rowOf N c).length ≤ N := by
  unfold rowOf
  have := List.length_filterMap_le (fun k => if c k = 0 then none else some (k, c k)) (List.range N)
  rw [List.length_range] at this
  exact this
/-- from the sorted keys of a dict -/
theorem row_of_keys {N : Nat} {c : Nat → Rat} {ks : List Nat} {ys : List Int} (nd : ks.Nodup) (lt : ∀ i ∈ ks, i < N) (out : ∀ i, i < N → i ∉ ks → c i = 0) (perm : ys.Perm (ks.map fun (i : Nat) => (i : Int))) (inc : ys.Pairwise (· ≤ ·)) :
    (ys.filterMap fun z => if c z.toNat = 0 then none else some (z.toNat, c z.toNat)) = rowOf N c := by
  have e1 : (ys.filterMap fun z => if c z.toNat = 0 then none else some (z.toNat, c z.toNat)) = ((ys.map Int.toNat).filterMap fun k => if c k = 0 then none else some (k, c k)) := by
    rw [List.filterMap_map]
    rfl
  have pn : (ys.map Int.toNat).Perm ks := by
    have := perm.map Int.toNat
    rw [List.map_map] at this
    have e : (Int.toNat ∘ fun (i : Nat) => (i : Int)) = id := by
      funext i
      simp
    rw [e, List.map_id] at this
    exact this
  have nn : ∀ z ∈ ys, 0 ≤ z := fun z hz => by
    obtain ⟨i, _, rfl⟩ := List.mem_map.mp (perm.mem_iff.mp hz)
    omega
  have incN : (ys.map Int.toNat).Pairwise (· ≤ ·) := by
    rw [List.pairwise_map]
    refine inc.imp_of_mem fun {a b} ha hb h => ?_
    have := nn a ha
    omega
  have gen : ∀ l : List Nat, (l.filterMap fun k => if c k = 0 then none else some (k, c k)) = (l.filter fun k => decide (c k ≠ 0)).map fun k => (k, c k) := by
    intro l
    induction l with
    | nil => rfl
    | cons a l ih =>
      rw [List.filterMap_cons, List.filter_cons]
      by_cases h : c a = 0
      · simp [h, ih]
      · simp [h, ih]
  rw [e1, gen, rowOf_filter]
  congr 1
  have ndy : (ys.map Int.toNat).Nodup := pn.nodup_iff.mpr nd
  refine List.Perm.eq_of_pairwise (le := (· ≤ ·)) (fun a b _ _ h1 h2 => Nat.le_antisymm h1 h2) (incN.filter _) ((List.pairwise_lt_range.imp fun h => Nat.le_of_lt h).filter _) ?_
  refine (List.perm_ext_iff_of_nodup (ndy.filter _) (List.nodup_range.filter _)).mpr fun a => ?_
  rw [List.mem_filter, List.mem_filter, List.mem_range, pn.mem_iff]
  constructor
  · rintro ⟨h1, h2⟩
    exact ⟨lt a h1, h2⟩
  · rintro ⟨h1, h2⟩
    refine ⟨?_, h2⟩
    have h3 : c a ≠ 0 := of_decide_eq_true h2
    exact Classical.byContradiction fun h => h3 (out a h1 h)
/-- what comes to k -/
def acc (k : Nat) (l : List (Nat × Rat)) : Rat := (l.map fun p => if p.1 = k then p.2 else 0).sum
theorem acc_nil (k : Nat) : acc k [] = 0 := rfl
theorem acc_snoc (k : Nat) (l : List (Nat × Rat)) (p : Nat × Rat) : acc k (l ++ [p]) = if p.1 = k then acc k l + p.2 else acc k l := by
  unfold acc
  rw [List.map_append, List.map_singleton, sum_snoc]
  split
  · rfl
  · exact Rat.add_zero _
theorem acc_append (k : Nat) (l m : List (Nat × Rat)) : acc k (l ++ m) = acc k l + acc k m := by
  unfold acc
  rw [List.map_append, List.sum_append]
theorem acc_cons (k : Nat) (p : Nat × Rat) (l : List (Nat × Rat)) : acc k (p :: l) = (if p.1 = k then p.2 else 0) + acc k l := by
  unfold acc
  rw [List.map_cons, List.sum_cons]
theorem acc_flatMap {α : Type} (k : Nat) (g : α → List (Nat × Rat)) (l : List α) : acc k (l.flatMap g) = (l.map fun a => acc k (g a)).sum := by
  induction l with
  | nil => rfl
  | cons a l ih => rw [List.flatMap_cons, acc_append, ih, List.map_cons, List.sum_cons]
theorem acc_out {k : Nat} {l : List (Nat × Rat)} (h : ∀ p ∈ l, p.1 ≠ k) : acc k l = 0 := by
  induction l with
  | nil => rfl
  | cons a l ih =>
    rw [acc_cons, if_neg (h a List.mem_cons_self), ih fun p hp => h p (List.mem_cons_of_mem _ hp)]
    exact Rat.add_zero _
theorem acc_map {α : Type} (k : Nat) (e : Rat) (l : List (Nat × Rat)) : acc k (l.map fun p => (p.1, e * p.2)) = e * acc k l := by
  induction l with
  | nil => rw [List.map_nil, acc_nil, Rat.mul_zero]
  | cons a l ih =>
    rw [List.map_cons, acc_cons, acc_cons, ih, Rat.mul_add]
    split
    · rfl
    · rw [Rat.mul_zero]
theorem acc_rowL (c : Nat → Rat) (k : Nat) : ∀ l : List Nat, l.Nodup → acc k (l.filterMap fun k => if c k = 0 then none else some (k, c k)) = if k ∈ l then c k else 0
  | [], _ => rfl
  | a :: l, nd => by
    have ih := acc_rowL c k l (List.nodup_cons.mp nd).2
    have ha := (List.nodup_cons.mp nd).1
    rw [List.filterMap_cons]
    by_cases h : c a = 0
    · simp only [if_pos h]
      rw [ih]
      by_cases hk : k = a
      · subst hk
        rw [if_neg ha, if_pos List.mem_cons_self, h]
      · simp [hk]
    · simp only [if_neg h]
      rw [acc_cons, ih]
      by_cases hk : k = a
      · subst hk
        rw [if_pos rfl, if_neg ha, if_pos List.mem_cons_self, Rat.add_zero]
      · rw [if_neg (fun z => hk z.symm), Rat.zero_add]
        simp [hk]
theorem acc_row (N : Nat) (c : Nat → Rat) (k : Nat) : acc k (rowOf N c) = if k < N then c k else 0 := by
  unfold rowOf
  rw [acc_rowL c k _ List.nodup_range]
  simp
/-- a term: between 0 and 1, its bottom divides D -/
def Tm (D : Nat) (t : Rat) : Prop := 0 ≤ t ∧ t ≤ 1 ∧ ∃ z : Int, t * (D : Rat) = (z : Rat)
theorem Tm.sz {D : Nat} {t : Rat} (h : Tm D t) (hD : 0 < D) (hl : D < 2 ^ 4400) : Sz t := by
  obtain ⟨h0, h1, z, hz⟩ := h
  refine sz_of (B := 1) hz hD h0 (by simpa using h1) ?_ (by decide)
  have : (2 : Nat) ^ 4400 ≤ 2 ^ 4500 := Nat.pow_le_pow_right (by decide) (by decide)
  omega
theorem acc_tm {D : Nat} (k : Nat) : ∀ {l : List (Nat × Rat)}, (∀ p ∈ l, Tm D p.2) → 0 ≤ acc k l ∧ acc k l ≤ (l.length : Rat) ∧ ∃ z : Int, acc k l * (D : Rat) = (z : Rat)
  | [], _ => ⟨Rat.le_refl, Rat.le_refl, 0, by rw [acc_nil, Rat.zero_mul]; rfl⟩
  | a :: l, h => by
    obtain ⟨i0, i1, z, iz⟩ := acc_tm k fun p hp => h p (List.mem_cons_of_mem _ hp)
    obtain ⟨a0, a1, y, ay⟩ := h a List.mem_cons_self
    rw [acc_cons]
    have el : (((a :: l).length : Nat) : Rat) = (l.length : Rat) + 1 := by
      rw [List.length_cons]
      exact_mod_cast rfl
    rw [el]
    split
    · refine ⟨?_, ?_, y + z, ?_⟩
      · grind
      · grind
      · rw [Rat.add_mul, ay, iz, Rat.intCast_add]
    · refine ⟨?_, ?_, z, ?_⟩
      · grind
      · grind
      · rw [Rat.zero_add, iz]
theorem acc_sz {D : Nat} (k : Nat) {l : List (Nat × Rat)} (h : ∀ p ∈ l, Tm D p.2) (hl : l.length ≤ 65536) (hD : 0 < D) (hd : D < 2 ^ 4400) : Sz (acc k l) := by
  obtain ⟨h0, h1, z, hz⟩ := acc_tm k h
  refine sz_of (B := 65536) hz hD h0 ?_ ?_ (by decide)
  · have : (l.length : Rat) ≤ ((65536 : Nat) : Rat) := by exact_mod_cast hl
    grind
  · have : (65536 : Nat) * 2 ^ 4400 ≤ 2 ^ 4500 := by
      have e : (65536 : Nat) = 2 ^ 16 := by decide
      rw [e, ← Nat.pow_add]
      exact Nat.pow_le_pow_right (by decide) (by decide)
    omega
end K49
namespace K49
/-- what flows: to which index, how much -/
def flow (N : Nat) (e : Nat → Rat) (P : Nat → Nat → Rat) (is : List Nat) : List (Nat × Rat) := is.flatMap fun i => (rowOf N (P i)).map fun p => (p.1, e i * p.2)
theorem mem_flow {N : Nat} {e : Nat → Rat} {P : Nat → Nat → Rat} {is : List Nat} {p : Nat × Rat} (h : p ∈ flow N e P is) : ∃ i ∈ is, p.1 < N ∧ p.2 = e i * P i p.1 := by
  obtain ⟨i, hi, hp⟩ := List.mem_flatMap.mp h
  obtain ⟨r, hr, rfl⟩ := List.mem_map.mp hp
  obtain ⟨h1, h2, h3⟩ := mem_row.mp hr
  exact ⟨i, hi, h1, by rw [h3]⟩
theorem flow_len (N : Nat) (e : Nat → Rat) (P : Nat → Nat → Rat) (is : List Nat) : (flow N e P is).length ≤ is.length * N := by
  unfold flow
  induction is with
  | nil => simp
  | cons a l ih =>
    rw [List.flatMap_cons, List.length_append, List.length_map, List.length_cons, Nat.succ_mul]
    have := row_len N (P a)
    omega
theorem acc_flow (N : Nat) (e : Nat → Rat) (P : Nat → Nat → Rat) (is : List Nat) {k : Nat} (hk : k < N) : acc k (flow N e P is) = (is.map fun i => e i * P i k).sum := by
  unfold flow
  rw [acc_flatMap]
  congr 1
  apply List.map_congr_left
  intro i _
  rw [acc_map (α := Nat), acc_row, if_pos hk]
theorem flow_snoc (N : Nat) (e : Nat → Rat) (P : Nat → Nat → Rat) (is : List Nat) (i : Nat) : flow N e P (is ++ [i]) = flow N e P is ++ (rowOf N (P i)).map fun p => (p.1, e i * p.2) := by
  unfold flow
  rw [List.flatMap_append, List.flatMap_singleton]
/-- what is needed to reckon with it -/
structure FlOk (N : Nat) (e : Nat → Rat) (P : Nat → Nat → Rat) : Prop where
  n : N ≤ 32
  se : ∀ i, i < N → Sz (e i)
  sp : ∀ i k, i < N → k < N → Sz (P i k)
  tm : ∃ D : Nat, 0 < D ∧ D < 2 ^ 4400 ∧ ∀ i k, i < N → k < N → Tm D (e i * P i k)
theorem FlOk.st {N : Nat} {e : Nat → Rat} {P : Nat → Nat → Rat} (F : FlOk N e P) {i k : Nat} (hi : i < N) (hk : k < N) : Sz (e i * P i k) := by
  obtain ⟨D, h0, h1, h2⟩ := F.tm
  exact (h2 i k hi hk).sz h0 h1
theorem FlOk.sa {N : Nat} {e : Nat → Rat} {P : Nat → Nat → Rat} (F : FlOk N e P) {is : List Nat} {i : Nat} {r : List (Nat × Rat)} (k : Nat) (hi : ∀ j ∈ is, j < N) (hl : is.length ≤ N) (hin : i < N) (hr : ∀ p ∈ r, p ∈ rowOf N (P i)) (hrl : r.length ≤ N) :
    Sz (acc k (flow N e P is ++ r.map fun p => (p.1, e i * p.2))) := by
  obtain ⟨D, h0, h1, h2⟩ := F.tm
  refine acc_sz (D := D) k (fun p hp => ?_) ?_ h0 h1
  · rcases List.mem_append.mp hp with hp | hp
    · obtain ⟨j, hj, a, b⟩ := mem_flow hp
      rw [b]
      exact h2 j p.1 (hi j hj) a
    · obtain ⟨q, hq, rfl⟩ := List.mem_map.mp hp
      obtain ⟨a, _, b⟩ := mem_row.mp (hr q hq)
      show Tm D (e i * q.2)
      rw [b]
      exact h2 i q.1 hin a
  · rw [List.length_append, List.length_map]
    have h3 := flow_len N e P is
    have hn := F.n
    have : is.length * N ≤ 32 * 32 := Nat.mul_le_mul (by omega) hn
    omega
theorem range_set (N i : Nat) (c : Nat → Rat) (q : Rat) : ((List.range N).map c).set i q = (List.range N).map fun k => if i = k then q else c k := by
  apply List.ext_getElem?
  intro j
  rw [List.getElem?_set, List.getElem?_map, List.getElem?_map, List.length_map, List.length_range]
  by_cases hj : j < N
  · rw [List.getElem?_range hj]
    by_cases e : i = j
    · subst e
      simp [hj]
    · simp [e]
  · have : (List.range N)[j]? = none := List.getElem?_eq_none (by rw [List.length_range]; omega)
    rw [this]
    by_cases e : i = j
    · subst e
      simp [hj]
    · simp [e]
theorem range_split {N i : Nat} {pre post : List Nat} (h : List.range N = pre ++ i :: post) : i = pre.length ∧ i < N ∧ (∀ j ∈ pre, j < N) ∧ pre.length ≤ N := by
  have hl := congrArg List.length h
  rw [List.length_range, List.length_append, List.length_cons] at hl
  have hg : (List.range N)[pre.length]? = some i := by
    rw [h]
    simp
  have h2 : pre.length < N := by omega
  rw [List.getElem?_range h2] at hg
  have e : pre.length = i := Option.some.inj hg
  refine ⟨e.symm, by omega, fun j hj => ?_, by omega⟩
  have : j ∈ List.range N := by
    rw [h]
    exact List.mem_append_left _ hj
  exact List.mem_range.mp this
end K49
namespace K49
/-- puts, one after the other -/
def putL (l : List (Nat × Rat)) : Nat → Rat := l.foldl (fun c p k => if p.1 = k then p.2 else c k) fun _ => 0
theorem putL_nil : putL [] = fun _ => 0 := rfl
theorem putL_snoc (l : List (Nat × Rat)) (p : Nat × Rat) : putL (l ++ [p]) = fun k => if p.1 = k then p.2 else putL l k := by
  unfold putL
  rw [List.foldl_append]
  rfl
/-- the state with one vertex turned, by numbers -/
def turnN (n i v : Nat) : Nat := i ^^^ 2 ^ (n - 1 - v)
theorem turnN_lt {n i v : Nat} (hi : i < 2 ^ n) (hn : 0 < n) : turnN n i v < 2 ^ n := Nat.xor_lt_two_pow hi (Nat.pow_lt_pow_right (by decide) (by omega))
theorem turnN_turnN (n i v : Nat) : turnN n (turnN n i v) v = i := by
  unfold turnN
  rw [Nat.xor_assoc, Nat.xor_self, Nat.xor_zero]
theorem turnN_ne (n i v : Nat) : turnN n i v ≠ i := by
  unfold turnN
  intro h
  have h2 : i ^^^ (i ^^^ 2 ^ (n - 1 - v)) = i ^^^ i := by rw [h]
  rw [← Nat.xor_assoc, Nat.xor_self, Nat.zero_xor] at h2
  have : 0 < 2 ^ (n - 1 - v) := Nat.pow_pos (by decide)
  omega
/-- the heat bath -/
def hbP (W : Nat → Rat) (n v : Nat) (i k : Nat) : Rat :=
  if turnN n i v = k then W (turnN n i v) / (W i + W (turnN n i v)) else if i = k then W i / (W i + W (turnN n i v)) else 0
/-- the trial -/
def cap (r : Rat) : Rat := if 1 < r then 1 else r
def trP (W : Nat → Rat) (n v : Nat) (i k : Nat) : Rat :=
  if turnN n i v = k then cap (W (turnN n i v) / W i) else if i = k then 1 - cap (W (turnN n i v) / W i) else 0
end K49
namespace K49
theorem acc_keys {ks : List Nat} (nd : ks.Nodup) (f : Nat → Rat) (k : Nat) : acc k (ks.map fun j => (j, f j)) = if k ∈ ks then f k else 0 := by
  induction ks with
  | nil => rfl
  | cons a l ih =>
    obtain ⟨h1, h2⟩ := List.nodup_cons.mp nd
    rw [List.map_cons, acc_cons, ih h2]
    by_cases hk : a = k
    · subst hk
      rw [if_pos rfl, if_neg h1, if_pos List.mem_cons_self, Rat.add_zero]
    · rw [if_neg hk, Rat.zero_add]
      by_cases hl : k ∈ l
      · rw [if_pos hl, if_pos (List.mem_cons_of_mem _ hl)]
      · rw [if_neg hl, if_neg fun z => (List.mem_cons.mp z).elim (fun z => hk z.symm) hl]
end K49
/-! clusters and kept sets, in plain lists -/
namespace K49
def partU (ps : List Nat) (e : Nat × Nat) : List Nat := ps.map fun p => if p = ps.getD e.2 0 then ps.getD e.1 0 else p
def partsF (l : List Nat) (prs : List (Nat × Nat)) : List Nat := prs.foldl partU l
def gput (g : List (Nat × List Nat)) (p v : Nat) : List (Nat × List Nat) := if p ∈ g.map (·.1) then g.map fun q => if q.1 = p then (q.1, q.2 ++ [v]) else q else g ++ [(p, [v])]
def grp (ps : List Nat) : List (Nat × List Nat) := ps.zipIdx.foldl (fun g q => gput g q.1 q.2) []
/-- the clusters of the pairs -/
def clus (n : Nat) (prs : List (Nat × Nat)) : List (List Nat) := (grp (partsF (List.range n) prs)).map (·.2)
theorem partU_len (ps : List Nat) (e : Nat × Nat) : (partU ps e).length = ps.length := by
  unfold partU
  rw [List.length_map]
theorem partsF_snoc (l : List Nat) (prs : List (Nat × Nat)) (e : Nat × Nat) : partsF l (prs ++ [e]) = partU (partsF l prs) e := by
  unfold partsF
  rw [List.foldl_append]
  rfl
theorem partsF_len (l : List Nat) (prs : List (Nat × Nat)) : (partsF l prs).length = l.length := by
  unfold partsF
  induction prs generalizing l with
  | nil => rfl
  | cons e prs ih => rw [List.foldl_cons, ih, partU_len]
theorem grp_snoc (ps : List Nat) (p : Nat) : grp (ps ++ [p]) = gput (grp ps) p ps.length := by
  unfold grp
  rw [List.zipIdx_append, List.foldl_append]
  simp
theorem gput_keys (g : List (Nat × List Nat)) (p v : Nat) : (gput g p v).map (·.1) = if p ∈ g.map (·.1) then g.map (·.1) else g.map (·.1) ++ [p] := by
  unfold gput
  split
  · rw [List.map_map]
    apply List.map_congr_left
    intro q _
    show (if q.1 = p then (q.1, q.2 ++ [v]) else q).1 = q.1
    split <;> rfl
  · rw [List.map_append]
    rfl
theorem gput_nodup {g : List (Nat × List Nat)} {p v : Nat} (h : (g.map (·.1)).Nodup) : ((gput g p v).map (·.1)).Nodup := by
  rw [gput_keys]
  split
  · exact h
  · rename_i hn
    rw [List.nodup_append]
    exact ⟨h, by simp, fun a ha b hb => by simp at hb; subst hb; exact fun z => hn (z ▸ ha)⟩
theorem grp_nodup (ps : List Nat) : ((grp ps).map (·.1)).Nodup := by
  have h : ∀ (l : List Nat) (r : List Nat), l.reverse = r → ((grp l).map (·.1)).Nodup := by
    intro l r hr
    induction r generalizing l with
    | nil =>
      have : l = [] := by simpa using hr
      subst this
      exact .nil
    | cons a r ih =>
      have e : l = r.reverse ++ [a] := by
        have := congrArg List.reverse hr
        simpa using this
      subst e
      rw [grp_snoc]
      exact gput_nodup (ih _ (by simp))
  exact h ps _ rfl
theorem gput_len (g : List (Nat × List Nat)) (p v : Nat) : (gput g p v).length ≤ g.length + 1 := by
  have h := congrArg List.length (gput_keys g p v)
  rw [List.length_map] at h
  rw [h]
  split <;> simp
theorem grp_len (ps : List Nat) : (grp ps).length ≤ ps.length := by
  have h : ∀ (l : List Nat) (r : List Nat), l.reverse = r → (grp l).length ≤ l.length := by
    intro l r hr
    induction r generalizing l with
    | nil =>
      have : l = [] := by simpa using hr
      subst this
      exact Nat.le_refl _
    | cons a r ih =>
      have e : l = r.reverse ++ [a] := by
        have := congrArg List.reverse hr
        simpa using this
      subst e
      rw [grp_snoc, List.length_append]
      have h1 := gput_len (grp r.reverse) a r.reverse.length
      have h2 := ih r.reverse (by simp)
      simp only [List.length_singleton]
      omega
  exact h ps _ rfl
theorem mem_gput {g : List (Nat × List Nat)} {p v : Nat} {q : Nat × List Nat} (h : q ∈ gput g p v) : (q.1 ≠ p ∧ q ∈ g) ∨ (p ∉ g.map (·.1) ∧ q = (p, [v])) ∨ ∃ vs, (p, vs) ∈ g ∧ q = (p, vs ++ [v]) := by
  unfold gput at h
  split at h
  · obtain ⟨r, hr, e⟩ := List.mem_map.mp h
    by_cases hp : r.1 = p
    · rw [if_pos hp] at e
      exact .inr (.inr ⟨r.2, by rw [← hp]; exact hr, by rw [← e, hp]⟩)
    · rw [if_neg hp] at e
      subst e
      exact .inl ⟨hp, hr⟩
  · rename_i hn
    rcases List.mem_append.mp h with h | h
    · exact .inl ⟨fun z => hn (List.mem_map.mpr ⟨q, h, z⟩), h⟩
    · exact .inr (.inl ⟨hn, List.mem_singleton.mp h⟩)
theorem gput_size {g : List (Nat × List Nat)} {p v m : Nat} (h : ∀ q ∈ g, q.2.length ≤ m) : ∀ q ∈ gput g p v, q.2.length ≤ m + 1 := fun q hq => by
  rcases mem_gput hq with ⟨_, hq⟩ | ⟨_, rfl⟩ | ⟨vs, hv, rfl⟩
  · have := h q hq
    omega
  · show 1 ≤ m + 1
    omega
  · have := h _ hv
    show (vs ++ [v]).length ≤ m + 1
    rw [List.length_append]
    exact Nat.succ_le_succ this
theorem grp_size (ps : List Nat) : ∀ q ∈ grp ps, q.2.length ≤ ps.length := by
  have h : ∀ (l : List Nat) (r : List Nat), l.reverse = r → ∀ q ∈ grp l, q.2.length ≤ l.length := by
    intro l r hr
    induction r generalizing l with
    | nil =>
      have : l = [] := by simpa using hr
      subst this
      intro q hq
      cases hq
    | cons a r ih =>
      have e : l = r.reverse ++ [a] := by
        have := congrArg List.reverse hr
        simpa using this
      subst e
      rw [grp_snoc, List.length_append]
      exact gput_size (ih r.reverse (by simp))
  exact h ps _ rfl
end K49
namespace K49
/-- the kept sets, with their chances, in the order of the program -/
def keptStep (x : Rat) (l : List (List (Nat × Nat) × Rat)) (e : Nat × Nat × Int) : List (List (Nat × Nat) × Rat) :=
  l.map (fun p => (p.1 ++ [(e.1, e.2.1)], p.2 * (1 - x ^ e.2.2))) ++ l.map fun p => (p.1, p.2 * x ^ e.2.2)
def kept (x : Rat) (s : List Int) (es : List (Nat × Nat × Int)) : List (List (Nat × Nat) × Rat) := es.foldl (fun l e => if s.getD e.1 0 = s.getD e.2.1 0 then keptStep x l e else l) [([], 1)]
theorem kept_snoc (x : Rat) (s : List Int) (es : List (Nat × Nat × Int)) (e : Nat × Nat × Int) : kept x s (es ++ [e]) = if s.getD e.1 0 = s.getD e.2.1 0 then keptStep x (kept x s es) e else kept x s es := by
  unfold kept
  rw [List.foldl_append]
  rfl
/-- induction from the right -/
theorem snocInd {α : Type} {M : List α → Prop} (h0 : M []) (hs : ∀ l a, M l → M (l ++ [a])) : ∀ l, M l := by
  have h : ∀ r : List α, M r.reverse := by
    intro r
    induction r with
    | nil => exact h0
    | cons a r ih =>
      rw [List.reverse_cons]
      exact hs _ _ ih
  intro l
  have := h l.reverse
  rwa [List.reverse_reverse] at this
theorem kept_len (x : Rat) (s : List Int) (es : List (Nat × Nat × Int)) : (kept x s es).length ≤ 2 ^ es.length := by
  induction es using snocInd with
  | h0 => exact Nat.le_refl 1
  | hs l a ih =>
    rw [kept_snoc, List.length_append, List.length_singleton, Nat.pow_succ]
    split
    · unfold keptStep
      rw [List.length_append, List.length_map, List.length_map]
      omega
    · omega
theorem kept_prs (x : Rat) (s : List Int) (es : List (Nat × Nat × Int)) {n : Nat} (h : ∀ e ∈ es, e.1 < n ∧ e.2.1 < n) : ∀ p ∈ kept x s es, ∀ q ∈ p.1, q.1 < n ∧ q.2 < n := by
  induction es using snocInd with
  | h0 =>
    intro p hp
    rw [List.mem_singleton.mp hp]
    intro q hq
    cases hq
  | hs l a ih =>
    have ih := ih fun e he => h e (List.mem_append_left _ he)
    have ha := h a (by simp)
    rw [kept_snoc]
    split
    · intro p hp q hq
      unfold keptStep at hp
      rcases List.mem_append.mp hp with hp | hp
      · obtain ⟨r, hr, rfl⟩ := List.mem_map.mp hp
        rcases List.mem_append.mp hq with hq | hq
        · exact ih r hr q hq
        · rw [List.mem_singleton.mp hq]
          exact ha
      · obtain ⟨r, hr, rfl⟩ := List.mem_map.mp hp
        exact ih r hr q hq
    · exact ih
/-- the sets that are there, as clusters -/
def keptC (n : Nat) (x : Rat) (s : List Int) (es : List (Nat × Nat × Int)) : List (List (List Nat) × Rat) := (kept x s es).filterMap fun p => if p.2 = 0 then none else some (clus n p.1, p.2)
/-- what is needed to reckon the kept sets -/
structure KOk (x : Rat) (s : List Int) (es : List (Nat × Nat × Int)) : Prop where
  pre : ∀ pre post, es = pre ++ post → ∀ p ∈ kept x s pre, Sz p.2
  e1 : ∀ e ∈ es, Sz (x ^ e.2.2)
  e2 : ∀ e ∈ es, Sz (1 - x ^ e.2.2)
theorem kept_size (x : Rat) (s : List Int) (es : List (Nat × Nat × Int)) : ∀ p ∈ kept x s es, p.1.length ≤ es.length := by
  induction es using snocInd with
  | h0 =>
    intro p hp
    rw [List.mem_singleton.mp hp]
    exact Nat.le_refl _
  | hs l a ih =>
    rw [kept_snoc, List.length_append, List.length_singleton]
    intro p hp
    split at hp
    · unfold keptStep at hp
      rcases List.mem_append.mp hp with hp | hp
      · obtain ⟨r, hr, rfl⟩ := List.mem_map.mp hp
        have := ih r hr
        show (r.1 ++ [_]).length ≤ _
        rw [List.length_append, List.length_singleton]
        omega
      · obtain ⟨r, hr, rfl⟩ := List.mem_map.mp hp
        have := ih r hr
        show r.1.length ≤ _
        omega
    · have := ih p hp
      omega
end K49
namespace K49
/-- colouring the clusters, one after the other -/
def setA (a : Nat → Int) (c : List Nat) (b : Int) : Nat → Int := fun v => if v ∈ c then b else a v
def fieldSum (fs : List Int) (c : List Nat) : Int := (c.map fun v => fs.getD v 0).sum
def upW (fs : List Int) (x y : Rat) (c : List Nat) : Rat := x ^ fieldSum fs c * y ^ (c.length : Int)
def upP (fs : List Int) (x y : Rat) (c : List Nat) : Rat := upW fs x y c / (1 + upW fs x y c)
def paint (l : List ((Nat → Int) × Rat)) (c : List Nat) (bs : List (Int × Rat)) : List ((Nat → Int) × Rat) := bs.flatMap fun b => l.map fun p => (setA p.1 c b.1, p.2 * b.2)
def col (fs : List Int) (x y : Rat) (cs : List (List Nat)) : List ((Nat → Int) × Rat) := cs.foldl (fun l c => paint l c [(1, upP fs x y c), (0, 1 - upP fs x y c)]) [(fun _ => 0, 1)]
theorem col_snoc (fs : List Int) (x y : Rat) (cs : List (List Nat)) (c : List Nat) : col fs x y (cs ++ [c]) = paint (col fs x y cs) c [(1, upP fs x y c), (0, 1 - upP fs x y c)] := by
  unfold col
  rw [List.foldl_append]
  rfl
theorem paint_len (l : List ((Nat → Int) × Rat)) (c : List Nat) (bs : List (Int × Rat)) : (paint l c bs).length = bs.length * l.length := by
  unfold paint
  induction bs with
  | nil => simp
  | cons b bs ih => rw [List.flatMap_cons, List.length_append, ih, List.length_map, List.length_cons, Nat.succ_mul, Nat.add_comm]
theorem col_len (fs : List Int) (x y : Rat) (cs : List (List Nat)) : (col fs x y cs).length = 2 ^ cs.length := by
  induction cs using snocInd with
  | h0 => rfl
  | hs l a ih =>
    rw [col_snoc, paint_len, ih, List.length_append, List.length_singleton, Nat.pow_succ, Nat.mul_comm]
    rfl
/-- the number of the state that an assignment tells -/
def aIdx (n : Nat) (a : Nat → Int) : Nat := idx ((List.range n).map a)
theorem col_bits (fs : List Int) (x y : Rat) (cs : List (List Nat)) : ∀ p ∈ col fs x y cs, ∀ v, p.1 v = 0 ∨ p.1 v = 1 := by
  induction cs using snocInd with
  | h0 =>
    intro p hp v
    rw [List.mem_singleton.mp hp]
    exact .inl rfl
  | hs l c ih =>
    rw [col_snoc]
    intro p hp v
    unfold paint at hp
    obtain ⟨b, hb, hp⟩ := List.mem_flatMap.mp hp
    obtain ⟨q, hq, rfl⟩ := List.mem_map.mp hp
    show setA q.1 c b.1 v = 0 ∨ setA q.1 c b.1 v = 1
    unfold setA
    split
    · rcases List.mem_cons.mp hb with rfl | hb
      · exact .inr rfl
      · rw [List.mem_singleton.mp hb]
        exact .inl rfl
    · exact ih q hq v
theorem aIdx_lt {n : Nat} {a : Nat → Int} (h : ∀ v, a v = 0 ∨ a v = 1) : aIdx n a < 2 ^ n := by
  have := idx_lt ((List.range n).map a) fun b hb => by
    obtain ⟨v, _, rfl⟩ := List.mem_map.mp hb
    exact h v
  rw [List.length_map, List.length_range] at this
  exact this
def colP (n : Nat) (fs : List Int) (x y : Rat) (cs : List (List Nat)) : Nat → Rat := putL ((col fs x y cs).map fun p => (aIdx n p.1, p.2))
/-- what is needed to reckon the colours -/
structure COk (fs : List Int) (x y : Rat) (cs : List (List Nat)) : Prop where
  pre : ∀ pre post, cs = pre ++ post → ∀ p ∈ col fs x y pre, Sz p.2
  f : ∀ c ∈ cs, (fieldSum fs c).natAbs ≤ 1000
  l : ∀ c ∈ cs, c.length ≤ 6
  hx : ∀ c ∈ cs, Sz (x ^ fieldSum fs c)
  hy : ∀ c ∈ cs, Sz (y ^ (c.length : Int))
  w : ∀ c ∈ cs, Sz (upW fs x y c)
  w1 : ∀ c ∈ cs, Sz (1 + upW fs x y c)
  w0 : ∀ c ∈ cs, 0 < 1 + upW fs x y c
  u : ∀ c ∈ cs, Sz (upP fs x y c)
  d : ∀ c ∈ cs, Sz (1 - upP fs x y c)
end K49
namespace K49
/-- clusters of n vertices -/
structure ClG (n : Nat) (cs : List (List Nat)) : Prop where
  len : cs.length ≤ 6
  lt : ∀ c ∈ cs, ∀ v ∈ c, v < n
  all : ∀ v, v < n → ∃ c ∈ cs, v ∈ c
/-- the chances of the next state, from a state: cluster move -/
def clR (fs : List Int) (es : List (Nat × Nat × Int)) (x y : Rat) (s : List Int) (k : Nat) : Rat := ((keptC fs.length x s es).map fun q => q.2 * colP fs.length fs x y q.1 k).sum
def clM (fs : List Int) (es : List (Nat × Nat × Int)) (x y : Rat) (i k : Nat) : Rat := clR fs es x y ((sts fs.length).getD i []) k
structure MOk (fs : List Int) (es : List (Nat × Nat × Int)) (x y : Rat) : Prop where
  kok : ∀ s ∈ sts fs.length, KOk x s es
  g : ∀ s ∈ sts fs.length, ∀ q ∈ keptC fs.length x s es, ClG fs.length q.1
  ck : ∀ s ∈ sts fs.length, ∀ q ∈ keptC fs.length x s es, COk fs x y q.1
  q : ∀ s ∈ sts fs.length, ∀ q ∈ keptC fs.length x s es, Sz q.2
  c : ∀ s ∈ sts fs.length, ∀ q ∈ keptC fs.length x s es, ∀ k, Sz (colP fs.length fs x y q.1 k)
  qc : ∀ s ∈ sts fs.length, ∀ q ∈ keptC fs.length x s es, ∀ k, Sz (q.2 * colP fs.length fs x y q.1 k)
  pre : ∀ s ∈ sts fs.length, ∀ pre post, keptC fs.length x s es = pre ++ post → ∀ k, Sz ((pre.map fun q => q.2 * colP fs.length fs x y q.1 k).sum)
/-- single turn: what comes to which state -/
def flip (vs : List Nat) (s : List Int) : List Int := (List.range s.length).map fun i => if i ∈ vs then 1 - s.getD i 0 else s.getD i 0
def turnsOf (n : Nat) (s : List Int) (q : List (List Nat) × Rat) : List (Nat × Rat) := q.1.map fun vs => (idx (flip vs s), q.2 * ((vs.length : Int) / ((n : Int) : Rat)))
def turns (n : Nat) (x : Rat) (es : List (Nat × Nat × Int)) (s : List Int) : List (Nat × Rat) := (keptC n x s es).flatMap (turnsOf n s)
def stR (n : Nat) (x : Rat) (es : List (Nat × Nat × Int)) (s : List Int) (k : Nat) : Rat := acc k (turns n x es s)
def stM (n : Nat) (es : List (Nat × Nat × Int)) (x : Rat) (i k : Nat) : Rat := stR n x es ((sts n).getD i []) k
structure TOk (n : Nat) (es : List (Nat × Nat × Int)) (x : Rat) : Prop where
  kok : ∀ s ∈ sts n, KOk x s es
  g : ∀ s ∈ sts n, ∀ q ∈ keptC n x s es, ClG n q.1
  q : ∀ s ∈ sts n, ∀ q ∈ keptC n x s es, Sz q.2
  f : ∀ m : Nat, m ≤ n → Sz ((m : Int) / ((n : Int) : Rat))
  cl : ∀ s ∈ sts n, ∀ q ∈ keptC n x s es, ∀ c ∈ q.1, c.length ≤ n
  t : ∀ s ∈ sts n, ∀ p ∈ turns n x es s, Sz p.2
  pre : ∀ s ∈ sts n, ∀ pre post, turns n x es s = pre ++ post → ∀ k, Sz (acc k pre)
theorem flip_len (vs : List Nat) (s : List Int) : (flip vs s).length = s.length := by
  unfold flip
  rw [List.length_map, List.length_range]
theorem flip_bits (vs : List Nat) (s : List Int) (h : ∀ b ∈ s, b = 0 ∨ b = 1) : ∀ b ∈ flip vs s, b = 0 ∨ b = 1 := fun b hb => by
  unfold flip at hb
  obtain ⟨i, hi, rfl⟩ := List.mem_map.mp hb
  have hi := List.mem_range.mp hi
  have hg : s.getD i 0 = 0 ∨ s.getD i 0 = 1 := by
    rw [List.getD, List.getElem?_eq_getElem hi]
    exact h _ (List.getElem_mem hi)
  split <;> omega
/-- a map over a list, by places -/
theorem map_at {α β : Type} (l : List α) (d : α) (f : α → β) : l.map f = (List.range l.length).map fun i => f (l.getD i d) := by
  apply List.ext_getElem?
  intro i
  rw [List.getElem?_map, List.getElem?_map]
  by_cases h : i < l.length
  · rw [List.getElem?_range h, List.getElem?_eq_getElem h]
    show some (f l[i]) = some (f (l.getD i d))
    rw [List.getD, List.getElem?_eq_getElem h]
    rfl
  · have e1 : l[i]? = none := List.getElem?_eq_none (by omega)
    have e2 : (List.range l.length)[i]? = none := List.getElem?_eq_none (by rw [List.length_range]; omega)
    rw [e1, e2]
    rfl
theorem keptC_len (n : Nat) (x : Rat) (s : List Int) (es : List (Nat × Nat × Int)) : (keptC n x s es).length ≤ 2 ^ es.length := by
  unfold keptC
  exact Nat.le_trans (List.length_filterMap_le _ _) (kept_len x s es)
theorem paid_step {fs s : List Int} {i : Nat} (hf : i < fs.length) (hs : i < s.length) : paid (fs.take (i + 1)) (s.take (i + 1)) = paid (fs.take i) (s.take i) + if s.getD i 0 = 1 then fs.getD i 0 else 0 := by
  have e : (fs.take (i + 1)).zip (s.take (i + 1)) = (fs.take i).zip (s.take i) ++ [(fs[i], s[i])] := by
    rw [List.take_succ_eq_append_getElem hf, List.take_succ_eq_append_getElem hs, List.zip_append (by simp; omega)]
    rfl
  unfold paid
  rw [e, List.filterMap_append, List.sum_append, List.getD, List.getD, List.getElem?_eq_getElem hf, List.getElem?_eq_getElem hs]
  congr 1
  show (List.filterMap _ [(fs[i], s[i])]).sum = if s[i] = 1 then fs[i] else 0
  by_cases h : s[i] = 1 <;> simp [h]
theorem cut_snoc (es : List (Nat × Nat × Int)) (e : Nat × Nat × Int) (s : List Int) : cut (es ++ [e]) s = cut es s + if s.getD e.1 0 = s.getD e.2.1 0 then 0 else e.2.2 := by
  unfold cut
  rw [List.filterMap_append, List.sum_append]
  congr 1
  by_cases h : s.getD e.1 0 = s.getD e.2.1 0
  · rw [if_pos h, List.filterMap_cons_none (by rw [if_pos h])]
    rfl
  · rw [if_neg h, List.filterMap_cons_some (b := e.2.2) (by rw [if_neg h])]
    show e.2.2 + 0 = e.2.2
    exact Int.add_zero _
end K49
/-! what the law asks of the moves' tables: the statements of the plain law -/
namespace K49
/-- the shares -/
def shr (fs : List Int) (es : List (Nat × Nat × Int)) (x y : Rat) (i : Nat) : Rat := wN fs es x y i / (wts fs es x y).sum
structure RowOk (N : Nat) (R : Nat → Nat → Rat) : Prop where
  p0 : ∀ i k, i < N → k < N → 0 ≤ R i k
  one : ∀ i, i < N → ((rowOf N (R i)).map (·.2)).sum = 1
  sz : ∀ i k, i < N → k < N → Sz (R i k)
  pre : ∀ i, i < N → ∀ pre post, rowOf N (R i) = pre ++ post → Sz ((pre.map (·.2)).sum)
def comp (N : Nat) (A B : Nat → Nat → Rat) (i k : Nat) : Rat := acc k (flow N (A i) B (List.range N))
structure PwOk (fs : List Int) (es : List (Nat × Nat × Int)) (x y : Rat) : Prop where
  x : ∀ s ∈ sts fs.length, ∀ k : Nat, k ≤ (costI fs es s).natAbs → Sz (x ^ k)
  y : ∀ s ∈ sts fs.length, ∀ k : Nat, k ≤ s.sum.natAbs → Sz (y ^ k)
/-- all that the law asks of a table -/
structure TabOk (fs : List Int) (es : List (Nat × Nat × Int)) (x y : Rat) (R : Nat → Nat → Rat) : Prop where
  row : RowOk (2 ^ fs.length) R
  bal : ∀ i j, i < 2 ^ fs.length → j < 2 ^ fs.length → wN fs es x y i * R i j = wN fs es x y j * R j i
  fl : FlOk (2 ^ fs.length) (shr fs es x y) R
  ebal : ∀ i j, i < 2 ^ fs.length → j < 2 ^ fs.length → shr fs es x y i * R i j = shr fs es x y j * R j i
  keep : ∀ k, k < 2 ^ fs.length → acc k (flow (2 ^ fs.length) (shr fs es x y) R (List.range (2 ^ fs.length))) = shr fs es x y k
  b1 : ∀ v, v < fs.length → ∀ i, i < 2 ^ fs.length → FlOk (2 ^ fs.length) (R i) (hbP (wN fs es x y) fs.length v)
  b2 : ∀ v, v < fs.length → FlOk (2 ^ fs.length) (shr fs es x y) (comp (2 ^ fs.length) R (hbP (wN fs es x y) fs.length v))
  b3 : ∀ v, v < fs.length → ∀ k, k < 2 ^ fs.length → acc k (flow (2 ^ fs.length) (shr fs es x y) (comp (2 ^ fs.length) R (hbP (wN fs es x y) fs.length v)) (List.range (2 ^ fs.length))) = shr fs es x y k
  b4 : ∀ v, v < fs.length → RowOk (2 ^ fs.length) (comp (2 ^ fs.length) R (hbP (wN fs es x y) fs.length v))
end K49
/-! the layer over the hand layer: immutable data (De), frames of the abstract heap, forms of comprehensions and loops -/
namespace K49
open PySem PySem.Spec PyProof.Rows L2

/-! ### frames -/
/-- what may change under our hands: lists and dicts -/
def Mu : HO → Prop
  | .lst _ => True
  | .dK _ => True
  | .dT _ => True
  | _ => False
/-- all that cannot change stands -/
def Xt (H H' : Hp) : Prop := ∀ b o, H b = some o → ¬ Mu o → H' b = some o
theorem Xt.refl (H : Hp) : Xt H H := fun _ _ h _ => h
theorem Xt.trans {H H1 H2 : Hp} (a : Xt H H1) (b : Xt H1 H2) : Xt H H2 := fun c o h m => b c o (a c o h m) m
theorem xt_same {H H' : Hp} (s : Same H H') : Xt H H' := fun b o h _ => s b o h
theorem xt_upd {H : Hp} {a : Addr} {o u : HO} (h : H a = some u) (m : Mu u) : Xt H (upd H a o) := fun b x e nm => by
  by_cases hb : b = a
  · subst hb
    rw [h] at e
    cases e
    exact absurd m nm
  · rw [upd_ne hb]
    exact e
theorem same_new {H : Hp} {p : Addr} {o : HO} (h : H p = none) : Same H (upd H p o) := fun b x e => by
  rw [upd_ne (ne_of_none e h)]
  exact e
/-- an object that the first heap does not know may change -/
theorem same_mut {H H' : Hp} {p : Addr} {o : HO} (e : Same H H') (h : H p = none) : Same H (upd H' p o) := fun b x hb => by
  rw [upd_ne (ne_of_none hb h)]
  exact e b x hb
/-- all but what stands at d -/
def But (d : Addr) (H H' : Hp) : Prop := ∀ b o, b ≠ d → H b = some o → H' b = some o
theorem But.refl (d : Addr) (H : Hp) : But d H H := fun _ _ _ h => h
theorem But.trans {d : Addr} {H H1 H2 : Hp} (a : But d H H1) (b : But d H1 H2) : But d H H2 := fun c o n h => b c o n (a c o n h)
theorem but_same {d : Addr} {H H' : Hp} (s : Same H H') : But d H H' := fun b o _ h => s b o h
theorem but_upd {d : Addr} {H : Hp} {o : HO} : But d H (upd H d o) := fun b x n h => by
  rw [upd_ne n]
  exact h
theorem same_but {d : Addr} {H H1 H2 : Hp} (s : Same H H1) (b : But d H1 H2) (n : H d = none) : Same H H2 := fun c o h => b c o (ne_of_none h n) (s c o h)

/-! ### immutable data -/
mutual
inductive De (K : PySem.W.Frag) (H : Hp) : V → PyData → Prop
  | bl (b : Bool) : De K H (.bl b) (.bool b)
  | int (i : Int) : De K H (.int i) (.int i)
  | tup {a : Addr} {xs : List V} {ds : List PyData} : SqT K H a xs → DeA K H xs ds → De K H (.ref a) (.tuple ds)
inductive DeA (K : PySem.W.Frag) (H : Hp) : List V → List PyData → Prop
  | nil : DeA K H [] []
  | cons {v : V} {vs : List V} {d : PyData} {ds : List PyData} : De K H v d → DeA K H vs ds → DeA K H (v :: vs) (d :: ds)
end
section
variable {K : PySem.W.Frag} {H H' : Hp}
theorem sqT_xt {a : Addr} {xs : List V} (x : Xt H H') (h : SqT K H a xs) : SqT K H' a xs := by
  rcases h with (h | ⟨o, h⟩) | h
  · exact .inl (.inl (x _ _ h (fun z => z)))
  · exact .inl (.inr ⟨o, x _ _ h (fun z => z)⟩)
  · exact .inr h
mutual
theorem De.xt (x : Xt H H') : ∀ {d : PyData} {v : V}, De K H v d → De K H' v d
  | .none, _, h => by cases h
  | .bool b, _, h => by cases h; exact .bl b
  | .int i, _, h => by cases h; exact .int i
  | .str z, _, h => by cases h
  | .list ds, _, h => by cases h
  | .dict ds, _, h => by cases h
  | .tuple ds, _, h => by
    cases h with
    | tup hs ha => exact .tup (sqT_xt x hs) (DeA.xt x ha)
theorem DeA.xt (x : Xt H H') : ∀ {ds : List PyData} {vs : List V}, DeA K H vs ds → DeA K H' vs ds
  | [], _, h => by cases h; exact .nil
  | d :: ds, _, h => by
    cases h with
    | cons h1 h2 => exact .cons (De.xt x h1) (DeA.xt x h2)
end
theorem De.up (s : Same H H') {d : PyData} {v : V} (h : De K H v d) : De K H' v d := h.xt (xt_same s)
theorem DeA.up (s : Same H H') {ds : List PyData} {vs : List V} (h : DeA K H vs ds) : DeA K H' vs ds := h.xt (xt_same s)
mutual
theorem De.dp : ∀ {d : PyData} {v : V}, De K H v d → Dp K H v d
  | .none, _, h => by cases h
  | .bool b, _, h => by cases h; exact .bl b
  | .int i, _, h => by cases h; exact .int i
  | .str z, _, h => by cases h
  | .list ds, _, h => by cases h
  | .dict ds, _, h => by cases h
  | .tuple ds, _, h => by
    cases h with
    | tup hs ha => exact .tup hs (DeA.dp ha)
theorem DeA.dp : ∀ {ds : List PyData} {vs : List V}, DeA K H vs ds → DpAll K H vs ds
  | [], _, h => by cases h; exact .nil
  | d :: ds, _, h => by
    cases h with
    | cons h1 h2 => exact .cons (De.dp h1) (DeA.dp h2)
end
theorem DeA.length : ∀ {ds : List PyData} {vs : List V}, DeA K H vs ds → vs.length = ds.length
  | [], _, h => by cases h; rfl
  | d :: ds, _, h => by
    cases h with
    | cons h1 h2 => simp [DeA.length h2]
theorem DeA.get : ∀ {ds : List PyData} {vs : List V} {i : Nat} {d : PyData}, DeA K H vs ds → ds[i]? = some d → ∃ v, vs[i]? = some v ∧ De K H v d
  | [], _, _, _, _, e => by simp at e
  | d :: ds, _, 0, _, h, e => by
    cases h with
    | cons h1 h2 =>
      simp at e
      subst e
      exact ⟨_, rfl, h1⟩
  | d :: ds, _, i + 1, _, h, e => by
    cases h with
    | cons h1 h2 =>
      obtain ⟨v, e1, e2⟩ := DeA.get (i := i) h2 (by simpa using e)
      exact ⟨v, by simpa using e1, e2⟩
theorem DeA.tog : ∀ {ds : List PyData} {vs : List V} {i : Nat} {v : V}, DeA K H vs ds → vs[i]? = some v → ∃ d, ds[i]? = some d ∧ De K H v d
  | [], _, _, _, h, e => by cases h; simp at e
  | d :: ds, _, 0, _, h, e => by
    cases h with
    | cons h1 h2 =>
      simp at e
      subst e
      exact ⟨_, rfl, h1⟩
  | d :: ds, _, i + 1, _, h, e => by
    cases h with
    | cons h1 h2 =>
      obtain ⟨v, e1, e2⟩ := DeA.tog (i := i) h2 (by simpa using e)
      exact ⟨v, by simpa using e1, e2⟩
theorem DeA.app : ∀ {ds es : List PyData} {vs ws : List V}, DeA K H vs ds → DeA K H ws es → DeA K H (vs ++ ws) (ds ++ es)
  | [], _, _, _, h, g => by cases h; exact g
  | d :: ds, _, _, _, h, g => by
    cases h with
    | cons h1 h2 => exact .cons h1 (DeA.app h2 g)
theorem DeA.one {v : V} {d : PyData} (h : De K H v d) : DeA K H [v] [d] := .cons h .nil
theorem DeA.snoc {ds : List PyData} {vs : List V} {v : V} {d : PyData} (h : DeA K H vs ds) (g : De K H v d) : DeA K H (vs ++ [v]) (ds ++ [d]) := h.app (.one g)
theorem DeA.set : ∀ {ds : List PyData} {vs : List V} {i : Nat} {v : V} {d : PyData}, DeA K H vs ds → De K H v d → DeA K H (vs.set i v) (ds.set i d)
  | [], _, _, _, _, h, _ => by cases h; exact .nil
  | d :: ds, _, 0, _, _, h, g => by
    cases h with
    | cons h1 h2 => exact .cons g h2
  | d :: ds, _, i + 1, _, _, h, g => by
    cases h with
    | cons h1 h2 => exact .cons h1 (DeA.set h2 g)
theorem DeA.rep {v : V} {d : PyData} (h : De K H v d) : ∀ n : Nat, DeA K H (List.replicate n v) (List.replicate n d)
  | 0 => .nil
  | n + 1 => .cons h (DeA.rep h n)
theorem DeA.ints : ∀ ns : List Int, DeA K H (ns.map V.int) (ns.map PyData.int)
  | [] => .nil
  | n :: ns => .cons (.int n) (DeA.ints ns)
theorem DeA.ints_of : ∀ {ns : List Int} {vs : List V}, DeA K H vs (ns.map PyData.int) → vs = ns.map V.int
  | [], _, h => by cases h; rfl
  | n :: ns, _, h => by
    cases h with
    | cons h1 h2 =>
      cases h1
      rw [DeA.ints_of h2]
      rfl
theorem De.int_of {v : V} {i : Int} (h : De K H v (.int i)) : v = .int i := by cases h; rfl
theorem De.tup_of {v : V} {ds : List PyData} (h : De K H v (.tuple ds)) : ∃ a xs, v = .ref a ∧ SqT K H a xs ∧ DeA K H xs ds := by
  cases h with
  | tup hs ha => exact ⟨_, _, rfl, hs, ha⟩
theorem de_new {p : Addr} {xs : List V} {ds : List PyData} (hp : H p = none) (h : DeA K H xs ds) : De K (upd H p (.tup xs)) (.ref p) (.tuple ds) :=
  .tup (.inl (.inl upd_same)) (h.up (same_new hp))
/-- two given, three given -/
theorem DeA.two {v w : V} {d e : PyData} (h : De K H v d) (g : De K H w e) : DeA K H [v, w] [d, e] := .cons h (.one g)
theorem DeA.three {v w u : V} {d e f : PyData} (h : De K H v d) (g : De K H w e) (k : De K H u f) : DeA K H [v, w, u] [d, e, f] := .cons h (.two g k)
end

/-! ### lists of data -/
def Ls (K : PySem.W.Frag) (H : Hp) (a : Addr) (ds : List PyData) : Prop := ∃ xs, SqL K H a xs ∧ DeA K H xs ds
section
variable {K : PySem.W.Frag} {H H' : Hp} {a : Addr} {ds : List PyData}
theorem Ls.up (s : Same H H') (h : Ls K H a ds) : Ls K H' a ds := by
  obtain ⟨xs, h1, h2⟩ := h
  exact ⟨xs, s.seq h1, h2.up s⟩
theorem sqL_but {d : Addr} {xs : List V} (s : But d H H') (n : a ≠ d) (h : SqL K H a xs) : SqL K H' a xs := by
  rcases h with (h | ⟨o, h⟩) | h
  · exact .inl (.inl (s _ _ n h))
  · exact .inl (.inr ⟨o, s _ _ n h⟩)
  · exact .inr h
theorem ls_new {p : Addr} {xs : List V} (hp : H p = none) (h : DeA K H xs ds) : Ls K (upd H p (.lst xs)) p ds := ⟨xs, .inl (.inl upd_same), h.up (same_new hp)⟩
theorem Ls.of {xs : List V} (h : H a = some (.lst xs)) (g : DeA K H xs ds) : Ls K H a ds := ⟨xs, .inl (.inl h), g⟩
end

/-! ### items -/
section
variable {K : PySem.W.Frag} {H : Hp} {Q : VK}
theorem ix_t {x : V} {ds : List PyData} {j : Nat} {d : PyData} (h : De K H x (.tuple ds)) (e : ds[j]? = some d) (k : ∀ z, De K H z d → Q z H) : rIxT K x (.int (j : Nat)) H Q := by
  obtain ⟨a, xs, rfl, hs, ha⟩ := h.tup_of
  obtain ⟨v, e1, e2⟩ := ha.get e
  exact ⟨a, xs, _, v, rfl, rfl, hs, atI_nat e1, k v e2⟩
theorem ix_tI {x : V} {ds : List PyData} {j : Nat} {n : Int} (h : De K H x (.tuple ds)) (e : ds[j]? = some (.int n)) (k : Q (.int n) H) : rIxT K x (.int (j : Nat)) H Q :=
  ix_t h e fun z hz => by
    rw [hz.int_of]
    exact k
theorem ix_l {a : Addr} {ds : List PyData} {j : Nat} {d : PyData} (h : Ls K H a ds) (e : ds[j]? = some d) (k : ∀ z, De K H z d → Q z H) : rIxL K (.ref a) (.int (j : Nat)) H Q := by
  obtain ⟨xs, hs, ha⟩ := h
  obtain ⟨v, e1, e2⟩ := ha.get e
  exact ⟨a, xs, _, v, rfl, rfl, hs, atI_nat e1, k v e2⟩
theorem ix_lI {a : Addr} {ds : List PyData} {j : Nat} {n : Int} (h : Ls K H a ds) (e : ds[j]? = some (.int n)) (k : Q (.int n) H) : rIxL K (.ref a) (.int (j : Nat)) H Q :=
  ix_l h e fun z hz => by
    rw [hz.int_of]
    exact k
end

/-! ### comprehensions over data -/
section
variable {K : PySem.W.Frag} {α β : Type}
theorem pre_of {l : List α} {i : Nat} {a : α} (h : l[i]? = some a) : l = l.take i ++ a :: l.drop (i + 1) := by
  obtain ⟨h1, h2⟩ := List.getElem?_eq_some_iff.mp h
  subst h2
  rw [List.getElem_cons_drop, List.take_append_drop]
theorem take_of {l : List α} {i : Nat} {a : α} (h : l[i]? = some a) : l.take (i + 1) = l.take i ++ [a] := by
  rw [List.take_add_one, h]
  rfl
/-- over any walk: what is given at each turn by its number -/
theorem lc_out {J : It} {n : Nat} {G : Hp → Prop} {Y : Nat → Hp → V → Hp → Prop} (w : Walk J n G Y) {g : TG} {tt : TT} {te : TE} {vs : List Nat} {σ : L2.St} {H1 : Hp} {D : Addr} {Qd : Hp → Prop} (R : Hp → List V → List β → Prop) (out : Nat → Option β)
    (r0 : R (upd H1 D (.lst [])) [] []) (rs : ∀ H H' ys l, Same H H' → R H ys l → R H' ys l) (rb : ∀ H H' zs ys l, H D = some (.lst zs) → But D H H' → R H ys l → R H' ys l) (hG : ∀ H, Same H1 H → G H) (hD : H1 D = none) (hn : n < sizeLine)
    (turn : ∀ i x H H' zs, i < n → Same H1 H → H D = some (.lst zs) → Y i H x H' → ∀ (Ky : V → Hp → Prop) (Kn : Hp → Prop), (∀ y H4 b, out i = some b → Same H H4 → (∀ ys l, R H4 ys l → R H4 (ys ++ [y]) (l ++ [b])) → Ky y H4) → (∀ H3, out i = none → Same H H3 → Kn H3) →
      g x (wipe σ vs) H' fun σ2 H2 => wipe σ2 vs = wipe σ vs ∧ tt σ2 H2 fun b H3 => if b = true then te σ2 H3 Ky else Kn H3)
    (fin : ∀ H ys, Same H1 H → H D = some (.lst ys) → ys.length ≤ n → R H ys ((List.range n).filterMap out) → Qd H) :
    ∃ W : Nat → Nat → Hp → Prop, (∃ m, W 0 m (upd H1 D (.lst []))) ∧ ∀ i m H, W i m H →
      (J.stop i H ∧ Qd H) ∨ (J.go i H ∧ ∃ Nx : Hp → Prop, (∀ H', Nx H' → ∃ m', m' < m ∧ W (i + 1) m' H') ∧ ∀ x H', J.yld i H x H' → g x (wipe σ vs) H' fun σ2 H2 => wipe σ2 vs = wipe σ vs ∧ tt σ2 H2 fun b H3 =>
        if b = true then te σ2 H3 fun y H4 => ∃ acc, H4 D = some (.lst acc) ∧ acc.length < sizeLine ∧ Nx (upd H4 D (.lst (acc ++ [y]))) else Nx H3) := by
  refine lc_it w (fun i H => Same H1 H ∧ ∃ ys, H D = some (.lst ys) ∧ ys.length ≤ i ∧ R H ys ((List.range i).filterMap out))
    ⟨same_new hD, [], upd_same, Nat.le_refl _, r0⟩ (fun i H _ p => hG H p.1) (fun i x H H' hi p hy => ?_) (fun H p => ?_)
  · obtain ⟨s, ys, e, hl, r⟩ := p
    refine turn i x H H' ys hi s e hy _ _ (fun y H4 b eb s4 r4 => ?_) (fun H3 eb s3 => ?_)
    · refine ⟨ys, s4 _ _ e, by omega, same_mut (s.trans s4) hD, ys ++ [y], upd_same, by simp; omega, ?_⟩
      rw [List.range_succ, List.filterMap_append, List.filterMap_cons_some eb]
      exact rb _ _ _ _ _ (s4 _ _ e) but_upd (r4 _ _ (rs _ _ _ _ s4 r))
    · refine ⟨s.trans s3, ys, s3 _ _ e, by omega, ?_⟩
      rw [List.range_succ, List.filterMap_append, List.filterMap_cons_none eb]
      rw [List.filterMap_nil, List.append_nil]
      exact rs _ _ _ _ s3 r
  · obtain ⟨s, ys, e, hl, r⟩ := p
    exact fin H ys s e hl r
theorem range_fm (l : List α) (f : α → Option β) : ((List.range l.length).filterMap fun i => (l[i]?).bind f) = l.filterMap f := by
  induction l with
  | nil => rfl
  | cons a l ih =>
    rw [List.length_cons, List.range_succ_eq_map, List.filterMap_cons, List.filterMap_map, List.filterMap_cons]
    simp only [List.getElem?_cons_zero, Option.bind_some]
    have e : (fun i => ((a :: l)[i]?).bind f) ∘ Nat.succ = fun i => (l[i]?).bind f := by
      funext i
      simp
    rw [e, ih]
theorem xt_but {H H' : Hp} {d : Addr} {u : HO} (h : H d = some u) (m : Mu u) (b : But d H H') : Xt H H' := fun c o e nm => b c o (fun z => by
  subst z
  rw [h] at e
  cases e
  exact nm m) e
/-- over a list of things a, in turn: data out of it -/
theorem lc_data {J : It} {l : List α} {G : Hp → Prop} {Y : Nat → Hp → V → Hp → Prop} (w : Walk J l.length G Y) {g : TG} {tt : TT} {te : TE} {vs : List Nat} {σ : L2.St} {H1 : Hp} {D : Addr} {Qd : Hp → Prop} (e : β → PyData) (f : α → Option β)
    (hG : ∀ H, Same H1 H → G H) (hD : H1 D = none) (hn : l.length < sizeLine)
    (turn : ∀ i a x H H', l[i]? = some a → Same H1 H → Y i H x H' → ∀ (Ky : V → Hp → Prop) (Kn : Hp → Prop), (∀ y H4 b, f a = some b → Same H H4 → De K H4 y (e b) → Ky y H4) → (∀ H3, f a = none → Same H H3 → Kn H3) →
      g x (wipe σ vs) H' fun σ2 H2 => wipe σ2 vs = wipe σ vs ∧ tt σ2 H2 fun b H3 => if b = true then te σ2 H3 Ky else Kn H3)
    (fin : ∀ H ys, Same H1 H → H D = some (.lst ys) → ys.length ≤ l.length → DeA K H ys ((l.filterMap f).map e) → Qd H) :
    ∃ W : Nat → Nat → Hp → Prop, (∃ m, W 0 m (upd H1 D (.lst []))) ∧ ∀ i m H, W i m H →
      (J.stop i H ∧ Qd H) ∨ (J.go i H ∧ ∃ Nx : Hp → Prop, (∀ H', Nx H' → ∃ m', m' < m ∧ W (i + 1) m' H') ∧ ∀ x H', J.yld i H x H' → g x (wipe σ vs) H' fun σ2 H2 => wipe σ2 vs = wipe σ vs ∧ tt σ2 H2 fun b H3 =>
        if b = true then te σ2 H3 fun y H4 => ∃ acc, H4 D = some (.lst acc) ∧ acc.length < sizeLine ∧ Nx (upd H4 D (.lst (acc ++ [y]))) else Nx H3) := by
  refine lc_out w (fun H ys (l : List β) => DeA K H ys (l.map e)) (fun i => (l[i]?).bind f) .nil (fun H H' ys l s r => r.up s) (fun H H' zs ys l h b r => r.xt (xt_but h trivial b)) hG hD hn (fun i x H H' zs hi s hz y Ky Kn ky kn => ?_) (fun H ys s h hl r => ?_)
  · have ea : l[i]? = some l[i] := List.getElem?_eq_getElem hi
    refine turn i l[i] x H H' ea s y Ky Kn (fun y H4 b eb s4 d => ky y H4 b (by rw [ea]; exact eb) s4 fun ys l r => ?_) (fun H3 eb s3 => kn H3 (by rw [ea]; exact eb) s3)
    rw [List.map_append]
    exact r.snoc d
  · rw [range_fm] at r
    exact fin H ys s h hl r
theorem DeA.at_ {e : α → PyData} {H : Hp} {xs : List V} {l : List α} {i : Nat} {x : V} {a : α} (h : DeA K H xs (l.map e)) (hx : xs[i]? = some x) (ha : l[i]? = some a) : De K H x (e a) := by
  obtain ⟨d, h1, h2⟩ := h.tog hx
  rw [List.getElem?_map, ha] at h1
  cases h1
  exact h2
theorem DeA.len {e : α → PyData} {H : Hp} {xs : List V} {l : List α} (h : DeA K H xs (l.map e)) : xs.length = l.length := by
  rw [h.length, List.length_map]
/-- a for over things a in turn: the invariant over what is done -/
theorem for_data {J : It} {l : List α} {G : Hp → Prop} {Y : Nat → Hp → V → Hp → Prop} (w : Walk J l.length G Y) {g : TG} {tb : TS} {D : Ends} {σ : L2.St} {H : Hp} (Pv : List α → L2.St → Hp → Prop) (h0 : Pv [] σ H)
    (hG : ∀ pre σ H, Pv pre σ H → G H)
    (hs : ∀ pre a post x σ H H', l = pre ++ a :: post → l[pre.length]? = some a → Pv pre σ H → Y pre.length H x H' → g x σ H' fun σ2 H2 => tb { D with nx := Pv (pre ++ [a]), ct := Pv (pre ++ [a]), bk := D.nx } σ2 H2)
    (hd : ∀ σ H, Pv l σ H → D.nx σ H) :
    ∃ W : Nat → Nat → L2.St → Hp → Prop, (∃ m, W 0 m σ H) ∧ ∀ i m σ H, W i m σ H →
      (J.stop i H ∧ D.nx σ H) ∨ (J.go i H ∧ ∃ N : L2.St → Hp → Prop, (∀ σ' H', N σ' H' → ∃ m', m' < m ∧ W (i + 1) m' σ' H') ∧ ∀ x H', J.yld i H x H' → g x σ H' fun σ2 H2 => tb { D with nx := N, ct := N, bk := D.nx } σ2 H2) := by
  refine for_it w (fun i σ H => Pv (l.take i) σ H) (by rw [List.take_zero]; exact h0) (fun i σ H _ p => hG _ σ H p) (fun i x σ H H' hi p y => ?_) (fun σ H p => by rw [List.take_length] at p; exact hd σ H p)
  have ea : l[i]? = some l[i] := List.getElem?_eq_getElem hi
  have el : (l.take i).length = i := by rw [List.length_take]; omega
  have h := hs (l.take i) l[i] (l.drop (i + 1)) x σ H H' (pre_of ea) (by rw [el]; exact ea) p (by rw [el]; exact y)
  rw [← take_of ea] at h
  exact h
end
end K49
/-! rules that the hand layer lacks -/
namespace K49
open PySem PySem.Spec PyProof.Rows L2
section
variable {X : Cx}
/-- a new dict, locked from here on (a temporary that is only read) -/
def tFrz (t : TE) : TE := fun σ H Q => t σ H fun x H1 => ∃ d kvs, x = .ref d ∧ H1 d = some (.dK kvs) ∧ ∀ od, Q x (upd H1 d (.frz od (.dK kvs)))
theorem pe_frz {e : Expr} {t : TE} (he : PE X e t) : PE X e (tFrz t) := by
  refine ⟨fun pins s σ H Q I h => ?_⟩
  refine thn (he.run pins s σ H _ I h) fun u s1 hx => ?_
  obtain ⟨x, H1, I1, rx, d, kvs, ex, hd, q⟩ := hx
  obtain ⟨od, I2⟩ := I1.lock hd trivial
  exact ⟨x, _, I2, rx, q od⟩
/-- the same of a dict with tuple keys -/
def tFrzT (t : TE) : TE := fun σ H Q => t σ H fun x H1 => ∃ d kvs, x = .ref d ∧ H1 d = some (.dT kvs) ∧ ∀ od, Q x (upd H1 d (.frz od (.dT kvs)))
theorem pe_frzT {e : Expr} {t : TE} (he : PE X e t) : PE X e (tFrzT t) := by
  refine ⟨fun pins s σ H Q I h => ?_⟩
  refine thn (he.run pins s σ H _ I h) fun u s1 hx => ?_
  obtain ⟨x, H1, I1, rx, d, kvs, ex, hd, q⟩ := hx
  obtain ⟨od, I2⟩ := I1.lock hd trivial
  exact ⟨x, _, I2, rx, q od⟩
/-- sum(t) of a tuple of ints -/
def rSumT (K : PySem.W.Frag) : List V → Hp → VK → Prop := fun vs H Q => ∃ (a : Addr) (ns : List Int), vs = [V.ref a] ∧ SqT K H a (ns.map V.int) ∧ Q (.int ns.sum) H
theorem cr_sumT (hc : X.calm = true) : CallR X (.builtin "sum") (rSumT X.K) := by
  intro pins s σ H vs us Q I r h
  obtain ⟨a, ns, rfl, hs, q⟩ := h
  obtain ⟨its, rv, hl, _⟩ := I.tuple hs
  have hi : IntsAre its ns := rv.ints
  obtain ⟨xs, e⟩ := hi.allInts.items
  have hn : numsOf (intItems xs).toList = ns := by
    rw [← e]
    exact hi.numsOf
  rw [nums_intItems] at hn
  have hl2 : s.heap.IsTuple a (intItems xs) := by
    rw [← e]
    exact hl
  rw [Vals.ref1 r]
  refine PySem.W.ktm_sumG (I.ok.hd hc) hl2 fun h' tk t' hk => ⟨.int ns.sum, H, I.kept hk, ⟨t', ?_⟩, q⟩
  rw [preSum_eq, List.take_of_length_le (by simp), hn]

/-! ### enumerate(t), t a tuple -/
theorem enum1_meets {v : Value} {ob : Obj} {Hh : Heap → Prop} (B : Begins v ob Hh) :
    Meets (Builtin.«enumerate.__new__» ⟨[.type "enumerate", v], []⟩) (fun _ R s => Hh s.heap ∧
      R (.ok (.ret (.ref (s.heap.push ob).objs.size))) { s with heap := (s.heap.push ob).push { cls := .type "enumerate", data := .fields #[.none, .bool false, .ref s.heap.objs.size, rawInt 0, .none, .none] } }) :=
  .of_wp fun prog w A R s h => by
    obtain ⟨hp, g, d, tk, os⟩ := s
    obtain ⟨h1, h⟩ := h
    have isEnum := sub_enumerate
    have qq : ∀ {A' : Around} {E : Value → Shared → Prop} {Q : Value → Shared → Prop}, Q (.ref hp.objs.size) ⟨hp.push ob, g, d, tk, os⟩ → wpAny (model prog w) A' (pyIter v) Q E ⟨hp, g, d, tk, os⟩ :=
      fun z => B.iter prog w _ _ ⟨hp, g, d, tk, os⟩ _ h1 z
    wp_walk using qq
    refine wpAny_stack_any fun stk => wpAny_pure ?_
    split
    · rename_i cl _ _ _ _ _
      cases (cl == Value.type "enumerate")
      all_goals
        wp_walk using qq
        exact ⟨_, rfl, h⟩
    · wp_walk using qq
      exact ⟨_, rfl, h⟩
theorem enum1_begins {prog : Program} {w : World} {A : Around} {E : Value → Shared → Prop} {s : Shared} {v : Value} {ob : Obj} {Hh : Heap → Prop} {Q : Value → Shared → Prop} (B : Begins v ob Hh) (h1 : Hh s.heap)
    (h : ∀ h', IsEnum h' (s.heap.objs.size + 1) s.heap.objs.size 0 .none → h'.get? s.heap.objs.size = some ob → (∀ b o, s.heap.get? b = some o → h'.get? b = some o) → Q (.ref (s.heap.objs.size + 1)) { s with heap := h' }) :
    wpAny (model prog w) A (call (.type "enumerate") [v]) Q E s := by
  refine callType_new F.called_enumerate (by decide) (F.typeCall_enumerate_1 _) (F.newCall_enumerate_1 _) (fun x => F.args_object_init_2 x _) F.entry_enumerate_new (enum1_meets B) ⟨h1, ?_⟩
  have zz : (s.heap.push ob).objs.size = s.heap.objs.size + 1 := Heap.size_push ..
  show _ ∧ _
  rw [zz]
  have en : IsEnum ((s.heap.push ob).push { cls := .type "enumerate", data := .fields #[.none, .bool false, .ref s.heap.objs.size, rawInt 0, .none, .none] }) (s.heap.objs.size + 1) s.heap.objs.size 0 .none := by
    have q := Heap.get?_push_size (s.heap.push ob) (o := { cls := .type "enumerate", data := .fields #[.none, .bool false, .ref s.heap.objs.size, rawInt 0, .none, .none] }) rfl
    rw [zz] at q
    exact q
  exact ⟨⟨_, en, rfl⟩, h _ en (Heap.get?_push_of_some _ (Heap.get?_push_size _ B.free)) fun b o x => Heap.get?_push_of_some _ (Heap.get?_push_of_some _ x)⟩
def IteT (K : PySem.W.Frag) (a : Addr) : It :=
  ⟨fun i H => ∃ (xs : List V) (x : V), SqT K H a xs ∧ xs[i]? = some x, fun i H v H' => ∃ T x, v = .ref T ∧ H T = none ∧ H' = upd H T (.tup [.int (i : Nat), x]) ∧ ∀ xs, SqT K H a xs → xs[i]? = some x,
    fun i H => ∃ xs : List V, SqT K H a xs ∧ xs.length = i⟩
theorem turn_enumT {P : Program} {w : World} {K : PySem.W.Frag} {elts : List Expr} {kk : Nat} {tpos : Pos} (a e it : Addr) :
    Turn P w K (.Tuple elts kk tpos) (IteT K a) [e, it] e (fun i h => (∃ old, IsEnum h e it ((0 : Int) + (i : Int)) old) ∧ h.IsTupleIter it a i ∧ e ≠ it ∧ e ≠ a ∧ a ≠ it) where
  mem := by simp
  obj := fun i h st b hb => by
    obtain ⟨⟨old, he⟩, ⟨o, ho, hc, hd⟩, _⟩ := st
    rcases List.mem_cons.mp hb with z | z
    · subst z
      exact ⟨_, he, fun v q => nomatch q⟩
    · obtain rfl := List.mem_singleton.mp z
      exact ⟨o, ho, fun v q => by rw [hd] at q; cases q⟩
  keep := fun i h h' st k => by
    obtain ⟨⟨old, he⟩, hi, hne⟩ := st
    exact ⟨⟨old, k e (by simp) _ he⟩, hi.at fun o q => k it (by simp) o q, hne⟩
  item := by
    intro X hP hw hK hc i pins s σ H E I hf st hg
    subst hP; subst hw; subst hK
    obtain ⟨he, hit, hne, hea, hai⟩ := st
    obtain ⟨xs, x, hq, hx⟩ := hg
    obtain ⟨its, rv, p, hz⟩ := I.tuple hq
    obtain ⟨u, hu, ru⟩ := rv.get hx
    have hh : X.A.in1.handled = none := I.ok.hd hc
    have Gn := GoesN.enumFrom (elts := elts) (x1 := kk) (pos := tpos) 0 (Draws.tuple (prog := X.prog) (w := X.w) hh it a hai its.toArray) e hne (by simp [hne, hea]) (by simp)
    have hlt : i < its.toArray.size := by
      have := (List.getElem?_eq_some_iff.mp hu).1
      simpa using this
    refine Gn.goes i s _ E hlt ⟨he, hit, p⟩ fun v h' tk hY st' hk htk => ?_
    obtain ⟨T, t, y, rfl, hT, hy, ⟨oT, hoT, hcT, nT, hdT⟩⟩ := hY
    have ey : y = u := by
      have : its.toArray[i]? = some u := by simpa using hu
      rw [this] at hy
      exact (Option.some.inj hy).symm
    subst ey
    have e0 : (0 : Int) + (i : Int) = (i : Int) := Int.zero_add _
    rw [e0] at hdT
    have hH : H T = none := I.hok.fresh hT
    have new : ObjOk X.prog X.w (upd H T (.tup [.int (i : Nat), x])) h' T (.tup [.int (i : Nat), x]) :=
      ⟨by show 2 ≤ sizeLine; decide, [.int i t, y], .cons ⟨t, rfl⟩ (.cons ru .nil), ⟨oT, hoT, hcT, nT, hdT⟩⟩
    have I1 := I.turnedNew (t' := tk) (ch := [e, it]) hk hf hT new
    obtain ⟨⟨old', he'⟩, hit', _⟩ := st'
    refine ⟨.ref T, _, I1, rfl, ⟨T, x, rfl, hH, rfl, fun ys hy => by rw [I.tuple_inj hy hq]; exact hx⟩, ⟨⟨old', he'⟩, hit', hne, hea, hai⟩, fun b hb => ?_⟩
    have hbl : b < s.heap.objs.size := by
      rcases List.mem_cons.mp hb with z | z
      · obtain ⟨old, q⟩ := he
        rw [z]
        exact Heap.lt_size q
      · obtain ⟨o, q, _⟩ := hit
        rw [List.mem_singleton.mp z]
        exact Heap.lt_size q
    rw [upd_ne (Nat.ne_of_lt (Nat.lt_of_lt_of_le hbl hT))]
    exact (hf b hb).1
  done := by
    intro X hP hw hK hc i pins s σ H E I hf st hg
    subst hP; subst hw; subst hK
    obtain ⟨he, hit, hne, hea, hai⟩ := st
    obtain ⟨xs, hq, hx⟩ := hg
    obtain ⟨its, rv, p, hz⟩ := I.tuple hq
    have hh : X.A.in1.handled = none := I.ok.hd hc
    have Gn := GoesN.enumFrom (elts := elts) (x1 := kk) (pos := tpos) 0 (Draws.tuple (prog := X.prog) (w := X.w) hh it a hai its.toArray) e hne (by simp [hne, hea]) (by simp)
    have hn : its.toArray.size = i := by
      have := rv.length
      simp
      omega
    subst hn
    exact Gn.stops s _ E ⟨he, hit, p⟩ fun h' tk hk _ => I.turnedL (t' := tk) (ch := [e, it]) hk hf
  self := fun A i s Q E st h => let ⟨⟨_, he⟩, _⟩ := st; wpAny_pyIter_enum he h
def iEnumT (K : PySem.W.Frag) (ta : TA) : TI := fun σ H R => ta σ H fun vs H1 => ∃ a xs, vs = [.ref a] ∧ SqT K H1 a xs ∧ R (IteT K a) H1
theorem pi_enumT {e : Expr} {ta : TA} {p pos tpos : Pos} {elts : List Expr} {kk : Nat} (hg : Gl X "enumerate") (hm : X.mg "enumerate" = none) (ha : PA X [e] ta) (hs : starEach [e] X.env = [(false, eval e X.env)] := by rfl) :
    PI X (.Tuple elts kk tpos) (.Call (.Name "enumerate" p) [e] [] pos) (iEnumT X.K ta) := by
  refine ⟨fun pins s σ H R I h => ?_⟩
  refine Call_ (ld_blt I hg hm boot_enumerate (PyProof.Rows.callWith_type1 (thn (ha.run pos pins s σ H _ I h) fun us s1 hx => ?_) hs rfl))
  obtain ⟨vs, H1, I1, r1, a, xs, ex, hq, q⟩ := hx
  subst ex
  cases r1 with
  | cons r rr =>
    cases rr
    cases r
    obtain ⟨its, rv, p', hz⟩ := I1.tuple hq
    have hal : a < s1.heap.objs.size := p'.lt
    refine enum1_begins (begins_tuple a its.toArray) p' fun h' he hit hk => wpAny_pyIter_enum he ?_
    have I2 : Inv X pins σ H1 { s1 with heap := h' } := I1.kept (t' := s1.toks) hk
    refine ⟨s1.heap.objs.size + 1, [s1.heap.objs.size + 1, s1.heap.objs.size], _, _, H1, rfl, I2, turn_enumT a (s1.heap.objs.size + 1) s1.heap.objs.size,
      ⟨⟨.none, he⟩, ⟨_, hit, rfl, rfl⟩, Nat.succ_ne_self _, Nat.ne_of_gt (Nat.lt_succ_of_lt hal), Nat.ne_of_lt hal⟩, fun b hb => ?_, q⟩
    have hle : s1.heap.objs.size ≤ b := by
      rcases List.mem_cons.mp hb with z | z
      · rw [z]
        exact Nat.le_add_right _ _
      · rw [List.mem_singleton.mp z]
        exact Nat.le_refl _
    exact I1.fpOk hle (I1.hok.fresh hle)
theorem walk_enumT {K : PySem.W.Frag} {a : Addr} {xs : List V} : Walk (IteT K a) xs.length (fun H => SqT K H a xs) (YPair (fun i => some (.int (i : Nat))) (fun i => xs[i]?)) := by
  refine ⟨fun i _ hi q => ⟨xs, xs[i], q, List.getElem?_eq_getElem hi⟩, fun _ q => ⟨xs, q, rfl⟩, fun i H v H' _ q y => ?_⟩
  obtain ⟨T, x, h1, h2, h3, h4⟩ := y
  exact ⟨T, .int (i : Nat), x, h1, h2, h3, rfl, h4 xs q⟩
theorem walk_zipT {K : PySem.W.Frag} {a b : Addr} {xs ys : List V} {n : Nat} (hn : n = min xs.length ys.length) : Walk (RZ.ItzT K a b) n (fun H => SqT K H a xs ∧ SqT K H b ys) (YPair (fun i => xs[i]?) (fun i => ys[i]?)) := by
  subst hn
  refine ⟨fun i _ hi q => ?_, fun _ q => ⟨xs, ys, q.1, q.2, by omega⟩, fun i H v H' _ q y => ?_⟩
  · have hx : i < xs.length := by omega
    have hy : i < ys.length := by omega
    exact ⟨xs, ys, xs[i], ys[i], q.1, q.2, List.getElem?_eq_getElem hx, List.getElem?_eq_getElem hy⟩
  · obtain ⟨T, x, z, y1, y2, y3, y4, y5⟩ := y
    exact ⟨T, x, z, y1, y2, y3, y4 xs q.1, y5 ys q.2⟩

/-! ### d.items() of a locked dict with tuple keys: the key's own tuple and the value in a new pair -/
def ItiT (d : Addr) (o : Obj) (kvs : List (List Key × V)) : It :=
  ⟨fun i H => H d = some (.frz o (.dT kvs)) ∧ i < kvs.length,
    fun i H x H' => ∃ T k v q, kvs[i]? = some (k, v) ∧ x = .ref T ∧ H T = none ∧ H q = some (.tup (k.map kV)) ∧ H' = upd H T (.tup [.ref q, v]), fun i H => H d = some (.frz o (.dT kvs)) ∧ kvs.length = i⟩
theorem frzT_ent {pins : List (Addr × Obj)} {σ : L2.St} {H : Hp} {s : Shared} {d : Addr} {o : Obj} {kvs : List (List Key × V)} (I : Inv X pins σ H s) (h : H d = some (.frz o (.dT kvs))) :
    (d == sysModules) = false ∧ s.heap.get? d = some o ∧ o.ExactDict ∧ ∃ (es : Array DictEntry) (ep : Nat), o.data = .dict es ep ∧ es.size = kvs.length ∧
      ∀ (i : Nat) (k : List Key) (v : V), kvs[i]? = some (k, v) → ∃ (en : DictEntry) (q : Addr), es[i]? = some en ∧ en.key = .ref q ∧ H q = some (.tup (k.map kV)) ∧ RelV v en.val := by
  obtain ⟨hd, z, hs, xs, pr, o', es, ep, ho, hx, hdt, he, _⟩ := I.hok d _ h
  rw [hd] at ho
  cases ho
  have l1 : es.size = xs.length := size_of_entries he
  have l2 : kvs.length = xs.length := Paired.length pr
  refine ⟨hs, hd, hx, es, ep, hdt, l1.trans l2.symm, fun i k v e => ?_⟩
  obtain ⟨b, hb, e1, e2, e3⟩ := L2.paired_get pr e
  have q := entry_at he i
  rw [hb] at q
  exact ⟨_, b.2.1, q, rfl, e2, e3⟩
theorem turn_itemsT {P : Program} {w : World} {K : PySem.W.Frag} {d : Addr} {o : Obj} {es : Array DictEntry} {ep : Nat} {kvs : List (List Key × V)} {elts : List Expr} {kk : Nat} {tpos : Pos} (it : Addr) (hod : o.data = .dict es ep) (hx : o.ExactDict) (hne : d ≠ it) :
    Turn P w K (.Tuple elts kk tpos) (ItiT d o kvs) [it] it (fun i h => ∃ ok ov, IsItemIter h it d i es.size ep ok ov) where
  mem := List.mem_singleton.mpr rfl
  obj := fun i h st b hb => by
    obtain rfl := List.mem_singleton.mp hb
    obtain ⟨ok, ov, e⟩ := st
    exact ⟨_, e, fun v z => nomatch z⟩
  keep := fun i h h' st k => by
    obtain ⟨ok, ov, e⟩ := st
    exact ⟨ok, ov, k it (List.mem_singleton.mpr rfl) _ e⟩
  item := by
    intro X hP hw hK hc i pins s σ H E I hf st hg
    subst hP; subst hw; subst hK
    obtain ⟨hd, hi⟩ := hg
    obtain ⟨hs, hgd, _, es', ep', hdt, hsz, ent⟩ := frzT_ent I hd
    obtain ⟨rfl, rfl⟩ := dict_ep hod hdt
    obtain ⟨⟨k, v⟩, hkv⟩ : ∃ p, kvs[i]? = some p := ⟨kvs[i], List.getElem?_eq_getElem hi⟩
    obtain ⟨en, q, hen, hkey, hq, rv⟩ := ent i k v hkv
    have hh : X.A.handled = none := I.ok.hd hc
    refine (GoesN.rawItems (elts := elts) (x1 := kk) (pos := tpos) (prog := X.prog) (w := X.w) hh it d hne es' ep').goes i s _ E (by omega) ⟨st, ⟨o, hgd, hx, hdt⟩⟩ fun x h' tk hY st' hk htk => ?_
    obtain ⟨T, hi2, rfl, hT, ⟨oT, hoT, hcT, nT, hdT⟩⟩ := hY
    have een : es'[i] = en := by
      rw [Array.getElem?_eq_getElem hi2] at hen
      exact Option.some.inj hen
    rw [een, hkey] at hdT
    have hH : H T = none := I.hok.fresh hT
    have new : ObjOk X.prog X.w (upd H T (.tup [.ref q, v])) h' T (.tup [.ref q, v]) :=
      ⟨by show 2 ≤ sizeLine; decide, [.ref q, en.val], .cons rfl (.cons rv .nil), ⟨oT, hoT, hcT, nT, hdT⟩⟩
    have I1 := I.turnedNew (t' := tk) (ch := [it]) hk hf hT new
    refine ⟨.ref T, _, I1, rfl, ⟨T, k, v, q, hkv, rfl, hH, hq, rfl⟩, st'.1, fun b hb => ?_⟩
    have hbl : b < s.heap.objs.size := by
      obtain ⟨ok, ov, e⟩ := st
      rw [List.mem_singleton.mp hb]
      exact Heap.lt_size e
    rw [upd_ne (Nat.ne_of_lt (Nat.lt_of_lt_of_le hbl hT))]
    exact (hf b hb).1
  done := by
    intro X hP hw hK hc i pins s σ H E I hf st hg
    subst hP; subst hw; subst hK
    obtain ⟨hd, hi⟩ := hg
    obtain ⟨hs, hgd, _, es', ep', hdt, hsz, ent⟩ := frzT_ent I hd
    obtain ⟨rfl, rfl⟩ := dict_ep hod hdt
    have hh : X.A.handled = none := I.ok.hd hc
    have ei : i = es'.size := by omega
    subst ei
    exact (GoesN.rawItems (elts := elts) (x1 := kk) (pos := tpos) (prog := X.prog) (w := X.w) hh it d hne es' ep').stops s _ E ⟨st, ⟨o, hgd, hx, hdt⟩⟩ fun h' tk hk _ => I.turnedL (t' := tk) (ch := [it]) hk hf
  self := fun A i s Q E st h => by
    obtain ⟨_, _, e⟩ := st
    exact PySem.W.kcp_self e h
def iItemsT (td : TE) : TI := fun σ H R => td σ H fun x H1 => ∃ d o kvs, x = .ref d ∧ H1 d = some (.frz o (.dT kvs)) ∧ R (ItiT d o kvs) H1
theorem pi_itemsT {e : Expr} {td : TE} {apos cpos tpos : Pos} {elts : List Expr} {kk : Nat} (he : PE X e td) (hbase : attributeBase e "items" X.env (eval e X.env) = eval e X.env := by rfl) (hline : (apos.endLine == cpos.line) = true := by rfl) :
    PI X (.Tuple elts kk tpos) (.Call (.Attribute e "items" apos) [] [] cpos) (iItemsT td) := by
  refine ⟨fun pins s σ H R I h => ?_⟩
  refine wpAny_Call_method (T := "dict") (id := "dict.items") hbase rfl hline F.plainAttrs_dict F.slot_dict_items F.type_dict_items (thn (he.run pins s σ H _ I h) fun u s1 hx => ?_)
  obtain ⟨x, H1, I1, rx, d, o, kvs, ex, hd, q⟩ := hx
  subst ex
  obtain rfl : u = Value.ref d := rx
  obtain ⟨hs, hgd, hxd, es, ep, hdt, hsz, ent⟩ := frzT_ent I1 hd
  have raw : DT.Raw s1.heap d es ep := ⟨o, hgd, hxd, hdt⟩
  have hlt : d < s1.heap.objs.size := raw.lt
  refine ⟨raw.typeIs, ?_, ?_⟩
  · intro b hb
    cases hb
    exact ⟨o, hgd, hxd.2.1⟩
  have I2 : Inv X pins σ H1 { s1 with heap := s1.heap.push { cls := .type "dict_items", data := .fields #[.ref d] } } := I1.kept (t' := s1.toks) fun b ob q => Heap.get?_push_of_some _ q
  have fin : wpAny (model X.prog X.w) X.A (pyIter (.ref s1.heap.objs.size)) (PIE X pins σ (.Tuple elts kk tpos) R) X.xe { s1 with heap := s1.heap.push { cls := .type "dict_items", data := .fields #[.ref d] } } := by
    refine DT.iterI (d := d) (es := es) (ep := ep) ⟨_, Heap.get?_push_size _ rfl, rfl, rfl⟩ (raw.push _) (pi_one (tk := s1.toks) I2 _ (turn_itemsT _ hdt hxd (Nat.ne_of_lt (by rw [Heap.size_push]; exact Nat.lt_succ_of_lt hlt))) ⟨.none, .none, ?_⟩ q)
    exact Heap.get?_push_size _ rfl
  show wpAny _ _ (callWith cpos (.builtin "dict.items") [.ref d] [] []) _ X.xe s1
  refine method_meetsIn F.slot_dict_items F.entry_dict_items rfl (PySem.evalArgs_none ⟨rfl, raw.typeIs, F.args_dict_items_1 _, _, DT.meetsItems (es := es) (ep := ep) hs, ⟨raw, fin⟩⟩)

/-! ### d.update(e), list(d.values()) -/
theorem len_merge : ∀ (more kvs : List (Key × V)), (mergeK kvs more).length ≤ kvs.length + more.length
  | [], kvs => by simp [mergeK]
  | p :: r, kvs => by
    have h1 := len_merge r (putK kvs p.1 p.2)
    have h2 := length_putK kvs p.1 p.2
    have e : mergeK kvs (p :: r) = mergeK (putK kvs p.1 p.2) r := rfl
    rw [e, List.length_cons]
    omega
def rUpdate : V → List V → Hp → VK → Prop := fun x xs H Q => ∃ (a b : Addr) (kvs more : List (Key × V)), x = .ref a ∧ xs = [.ref b] ∧ H a = some (.dK kvs) ∧ H b = some (.dK more) ∧ a ≠ b ∧ kvs.length + more.length ≤ sizeLine ∧ Q .non (upd H a (.dK (mergeK kvs more)))
theorem mt_update : MtR X "dict.update" rUpdate := by
  intro pins s σ H x xs v us Q I rx rxs h
  obtain ⟨a, b, kvs, more, rfl, rfl, ha, hb, hne, hz, q⟩ := h
  cases rx
  obtain ⟨u1, rfl, r1⟩ := vals1 rxs
  cases r1
  obtain ⟨z1, lo1, vs1, rel1, d1⟩ := dk_of I.hok ha
  obtain ⟨z2, lo2, vs2, rel2, d2⟩ := dk_of I.hok hb
  have l1 : kvs.length = vs1.length := Paired.length rel1
  have l2 : more.length = vs2.length := Paired.length rel2
  refine call_meetsIn PySem.F.slot_dict_update d1.typeIs PySem.F.entry_dict_update (PySem.F.args_dict_update_2 _ _) (meets_dict_update (mixKind X.prog X.w) a b hne lo2) ⟨vs1, vs2, d1, d2, by omega, fun h' dd _ hs => ?_⟩
  have he : ∃ o, h'.get? a = some o := let ⟨o, _, _, ho, _⟩ := dd; ⟨o, ho⟩
  refine ⟨.non, upd H a (.dK (mergeK kvs more)), d_write I (by rw [ha]; exact True.intro) hs he (dk_new ?_ lo1 (KV.merge rel2 rel1) dd), rfl, q⟩
  have := len_merge more kvs
  omega
def tListVals (td : TE) : TE := fun σ H Q => td σ H fun x H1 => ∃ (d : Addr) (kvs : List (Key × V)), x = .ref d ∧ H1 d = some (.dK kvs) ∧ ∀ p, H1 p = none → Q (.ref p) (upd H1 p (.lst (kvs.map (·.2))))
theorem vals_at : ∀ {vs : List (Key × Value)} {us : List Value}, us.length = vs.length → (∀ (j : Nat) (u : Value), us[j]? = some u → ∃ k, vs[j]? = some (k, u)) → us = vs.map (·.2)
  | [], [], _, _ => rfl
  | [], _ :: _, hl, _ => by simp at hl
  | _ :: _, [], hl, _ => by simp at hl
  | p :: r, u :: us, hl, h => by
    obtain ⟨k, e⟩ := h 0 u rfl
    have e' : p = (k, u) := Option.some.inj e
    subst e'
    rw [List.map_cons, vals_at (vs := r) (us := us) (by simpa using hl) fun j w e => h (j + 1) w e]
theorem kv_vals : ∀ {kvs : List (Key × V)} {vs : List (Key × Value)}, KV kvs vs → Vals (kvs.map (·.2)) (vs.map (·.2))
  | _, _, .nil => .nil
  | _, _, .cons r t => .cons r.2 (kv_vals t)
theorem pe_listVals {e : Expr} {te : TE} {p apos cpos pos : Pos} (hc : X.calm = true) (he : PE X e te) (hg : Gl X "list") (hm : X.mg "list" = none) (hv : bootBuiltins "list" = some (.type "list")) (hbase : attributeBase e "values" X.env (eval e X.env) = eval e X.env := by rfl) (hline : (apos.endLine == cpos.line) = true := by rfl)
    (hs : starEach [.Call (.Attribute e "values" apos) [] [] cpos] X.env = (false, eval (.Call (.Attribute e "values" apos) [] [] cpos) X.env) :: starEach [] X.env := by rfl) :
    PE X (.Call (.Name "list" p) [.Call (.Attribute e "values" apos) [] [] cpos] [] pos) (tListVals te) := by
  refine ⟨fun pins s σ H Q I hq => ?_⟩
  refine wpAny_Call_Name_kw (ld_blt I hg hm hv ?_)
  refine PyProof.Rows.callWith_type1 ?_ hs rfl
  rw [hs]
  show wpAny _ _ (spliced ((false, eval (.Call (.Attribute e "values" apos) [] [] cpos) X.env) :: backTo pos (starEach [] X.env))) _ _ s
  refine Calls.spliced_cons ?_
  refine wpAny_Call_method (T := "dict") (id := "dict.values") hbase rfl hline F.plainAttrs_dict F.slot_dict_values F.type_dict_values (thn (he.run pins s σ H _ I hq) fun u s1 hx => ?_)
  obtain ⟨x, H1, I1, rx, d, kvs, ex, hd, q⟩ := hx
  subst ex
  obtain rfl : u = Value.ref d := rx
  obtain ⟨hz, hs0, vs, kv, hdo⟩ := dk_of I1.hok hd
  obtain ⟨ep, hat⟩ := hdo.dictAt
  have lk : kvs.length = vs.length := Paired.length kv
  have I2 : Inv X pins σ H1 { s1 with heap := s1.heap.push { cls := .type "dict_values", data := .fields #[.ref d] } } := I1.kept (t' := s1.toks) fun b ob z => Heap.get?_push_of_some _ z
  refine ⟨hdo.typeIs, hdo.mapOf.noDict, ?_⟩
  show wpAny _ _ (callWith cpos (.builtin "dict.values") [.ref d] [] []) _ X.xe s1
  refine method_meetsIn F.slot_dict_values F.entry_dict_values rfl (PySem.evalArgs_none ⟨rfl, hdo.typeIs, F.args_dict_values_1 _, _, meets_dict_values (mixKind X.prog X.w) d hs0, ⟨vs, hdo⟩, ?_⟩)
  refine Calls.spliced_nil ?_
  refine PySem.W.kdl_call (PySem.W.kdl_values (knd := mixKind X.prog X.w) (r := s1.heap.objs.size) (d := d) (kvs := vs) (ep := ep)) (I1.ok.hd hc) ⟨⟨_, Heap.get?_push_size _ rfl, rfl, rfl⟩, hat.push _⟩ (by omega) fun h' tk acc c' hk hD hacc => ?_
  have ev : acc.toList = vs.map (·.2) := vals_at (by rw [Array.length_toList]; exact hacc.1) fun j v e => hacc.2 j v (by rw [← Array.getElem?_toList]; exact e)
  have hn : H1 (s1.heap.push { cls := .type "dict_values", data := .fields #[.ref d] }).objs.size = none := I2.hok.fresh (Nat.le_refl _)
  refine ⟨.ref _, upd H1 _ (.lst (kvs.map (·.2))), I2.laid (t' := tk) hk (Nat.le_refl _) ⟨by rw [List.length_map]; exact hz, acc.toList, c', by rw [ev]; exact kv_vals kv, by rw [Array.toArray_toList]; exact hD⟩, rfl, q _ hn⟩

/-! ### the rules by the written part's own name, for blocks -/
variable {K : PySem.W.Frag}
theorem ix_tupK (h : X.K = K) : IxR X (rIxT K) := h ▸ ix_tup
theorem ix_listK (h : X.K = K) : IxR X (rIxL K) := h ▸ ix_list
theorem op_catAK (h : X.K = K) : OpR X (binaryOp .Add) (rCatA K) := h ▸ op_catA
theorem op_eqDK (h : X.K = K) (hu : X.A.units + 64 < cLine) : OpR X (compareOp .Eq) (rEqD K) := h ▸ op_eqD hu
theorem op_neDK (h : X.K = K) (hu : X.A.units + 64 < cLine) : OpR X (compareOp .NotEq) (rNeD K) := h ▸ op_neD hu
theorem op_inK (h : X.K = K) : OpR X (compareOp .In) (rIn K false) := h ▸ op_in_seq
theorem pe_fldK {e : Expr} {ta : TE} {f : Str} {pos : Pos} (h : X.K = K) (he : PE X e ta) (hb : attributeBase e f X.env (eval e X.env) = eval e X.env) : PE X (.Attribute e f pos) (tFld K ta f) := h ▸ pe_fld he hb
theorem pi_tupK {tg iter : Expr} {tl : TE} (h : X.K = K) (hl : PE X iter tl) : PI X tg iter (iTup K tl) := h ▸ pi_tup hl
theorem pi_listK {tg iter : Expr} {tl : TE} (h : X.K = K) (hl : PE X iter tl) : PI X tg iter (iList K tl) := h ▸ pi_list hl
theorem pg_tupK {es : List Expr} {k : Nat} {t : TGs} {n : Nat} {pos : Pos} (h : X.K = K) (hc : X.calm = true) (hs : PGs X es t)
    (hn : (assignEach es X.env).length = n := by rfl) (hst : (assignEach es X.env).findIdx? (·.1) = none := by rfl) : PG X (.Tuple es k pos) (gTup K n t) := h ▸ pg_tup hc hs hn hst
end
end K49
namespace K49
open PySem PySem.Spec PyProof.Rows L2
/-! ### the text by places -/
def topS (i : Nat) : Stmt := PySem.Challenge.pw_spinfield_k49_whole_moves_keep.main.body.getD i (.Pass ⟨0, 0, 0, 0⟩)
abbrev s_fraction : Stmt := topS 11
theorem sc_fraction : FnScope ["numerator", "denominator", "common"] ["numerator", "denominator"] (defScope s_fraction) := ⟨rfl, rfl, rfl, by decide +kernel, rfl, by decide +kernel, by decide +kernel⟩
abbrev s_add : Stmt := topS 12
theorem sc_add : FnScope ["a", "b"] ["a", "b"] (defScope s_add) := ⟨rfl, rfl, rfl, by decide +kernel, rfl, by decide +kernel, by decide +kernel⟩
abbrev s_subtract : Stmt := topS 13
theorem sc_subtract : FnScope ["a", "b"] ["a", "b"] (defScope s_subtract) := ⟨rfl, rfl, rfl, by decide +kernel, rfl, by decide +kernel, by decide +kernel⟩
abbrev s_multiply : Stmt := topS 14
theorem sc_multiply : FnScope ["a", "b"] ["a", "b"] (defScope s_multiply) := ⟨rfl, rfl, rfl, by decide +kernel, rfl, by decide +kernel, by decide +kernel⟩
abbrev s_divide : Stmt := topS 15
theorem sc_divide : FnScope ["a", "b"] ["a", "b"] (defScope s_divide) := ⟨rfl, rfl, rfl, by decide +kernel, rfl, by decide +kernel, by decide +kernel⟩
abbrev s_compare : Stmt := topS 16
theorem sc_compare : FnScope ["a", "b", "difference"] ["a", "b"] (defScope s_compare) := ⟨rfl, rfl, rfl, by decide +kernel, rfl, by decide +kernel, by decide +kernel⟩
abbrev s_raised : Stmt := topS 17
theorem sc_raised : FnScope ["a", "exponent", "base", "top", "bottom", "_"] ["a", "exponent"] (defScope s_raised) := ⟨rfl, rfl, rfl, by decide +kernel, rfl, by decide +kernel, by decide +kernel⟩
abbrev s_add_all : Stmt := topS 18
theorem sc_add_all : FnScope ["items", "result", "item"] ["items"] (defScope s_add_all) := ⟨rfl, rfl, rfl, by decide +kernel, rfl, by decide +kernel, by decide +kernel⟩
abbrev s_check_no_field : Stmt := topS 20
theorem sc_check_no_field : FnScope ["spins", "field"] ["spins"] (defScope s_check_no_field) := ⟨rfl, rfl, rfl, by decide +kernel, rfl, by decide +kernel, by decide +kernel⟩
abbrev s_init : Stmt := inClass (topS 25) 0
theorem sc_init : FnScope ["self", "fields", "edges", "before", "u", "v", "coupling", "field"] ["self", "fields", "edges"] (defScope s_init) := ⟨rfl, rfl, rfl, by decide +kernel, rfl, by decide +kernel, by decide +kernel⟩
abbrev s_states_of : Stmt := topS 26
theorem sc_states_of : FnScope ["count", "found", "_", "state", "spin"] ["count"] (defScope s_states_of) := ⟨rfl, rfl, rfl, by decide +kernel, rfl, by decide +kernel, by decide +kernel⟩
abbrev s_all_states : Stmt := topS 27
theorem sc_all_states : FnScope ["spins"] ["spins"] (defScope s_all_states) := ⟨rfl, rfl, rfl, by decide +kernel, rfl, by decide +kernel, by decide +kernel⟩
abbrev s_cost : Stmt := topS 28
theorem sc_cost : FnScope ["spins", "state", "paid", "field", "spin", "u", "v", "coupling"] ["spins", "state"] (defScope s_cost) := ⟨rfl, rfl, rfl, by decide +kernel, rfl, by decide +kernel, by decide +kernel⟩
abbrev s_ups : Stmt := topS 29
theorem sc_ups : FnScope ["state"] ["state"] (defScope s_ups) := ⟨rfl, rfl, rfl, by decide +kernel, rfl, by decide +kernel, by decide +kernel⟩
abbrev s_check_point : Stmt := topS 31
theorem sc_check_point : FnScope ["x", "y"] ["x", "y"] (defScope s_check_point) := ⟨rfl, rfl, rfl, by decide +kernel, rfl, by decide +kernel, by decide +kernel⟩
abbrev s_check_size : Stmt := topS 34
theorem sc_check_size : FnScope ["spins", "x", "y"] ["spins", "x", "y"] (defScope s_check_size) := ⟨rfl, rfl, rfl, by decide +kernel, rfl, by decide +kernel, by decide +kernel⟩
abbrev s_weights_of : Stmt := topS 35
theorem sc_weights_of : FnScope ["spins", "x", "y", "state"] ["spins", "x", "y"] (defScope s_weights_of) := ⟨rfl, rfl, rfl, by decide +kernel, rfl, by decide +kernel, by decide +kernel⟩
abbrev s_distribution_of : Stmt := topS 36
theorem sc_distribution_of : FnScope ["spins", "x", "y", "weights", "whole", "weight"] ["spins", "x", "y"] (defScope s_distribution_of) := ⟨rfl, rfl, rfl, by decide +kernel, rfl, by decide +kernel, by decide +kernel⟩
abbrev s_after : Stmt := topS 37
theorem sc_after : FnScope ["entries", "table", "found", "entry", "row", "index", "chance"] ["entries", "table"] (defScope s_after) := ⟨rfl, rfl, rfl, by decide +kernel, rfl, by decide +kernel, by decide +kernel⟩
abbrev s_keeps : Stmt := topS 38
theorem sc_keeps : FnScope ["entries", "table"] ["entries", "table"] (defScope s_keeps) := ⟨rfl, rfl, rfl, by decide +kernel, rfl, by decide +kernel, by decide +kernel⟩
abbrev s_is_balanced : Stmt := topS 39
theorem sc_is_balanced : FnScope ["entries", "table", "flows", "start", "row", "end", "chance", "flow"] ["entries", "table"] (defScope s_is_balanced) := ⟨rfl, rfl, rfl, by decide +kernel, rfl, by decide +kernel, by decide +kernel⟩
abbrev s_table_row : Stmt := topS 40
theorem sc_table_row : FnScope ["chances", "index"] ["chances"] (defScope s_table_row) := ⟨rfl, rfl, rfl, by decide +kernel, rfl, by decide +kernel, by decide +kernel⟩
abbrev s_followed : Stmt := topS 41
theorem sc_followed : FnScope ["first", "second", "table", "row", "chances", "middle", "chance", "end", "further"] ["first", "second"] (defScope s_followed) := ⟨rfl, rfl, rfl, by decide +kernel, rfl, by decide +kernel, by decide +kernel⟩
abbrev s_check_ferro : Stmt := topS 43
theorem sc_check_ferro : FnScope ["spins", "_", "coupling"] ["spins"] (defScope s_check_ferro) := ⟨rfl, rfl, rfl, by decide +kernel, rfl, by decide +kernel, by decide +kernel⟩
abbrev s_turned : Stmt := topS 46
theorem sc_turned : FnScope ["count", "index", "vertex"] ["count", "index", "vertex"] (defScope s_turned) := ⟨rfl, rfl, rfl, by decide +kernel, rfl, by decide +kernel, by decide +kernel⟩
abbrev s_heat_bath : Stmt := topS 47
theorem sc_heat_bath : FnScope ["spins", "vertex", "x", "y", "weights", "table", "index", "other", "whole", "at"] ["spins", "vertex", "x", "y"] (defScope s_heat_bath) := ⟨rfl, rfl, rfl, by decide +kernel, rfl, by decide +kernel, by decide +kernel⟩
abbrev s_trial : Stmt := topS 48
theorem sc_trial : FnScope ["spins", "vertex", "x", "y", "weights", "table", "index", "other", "chance"] ["spins", "vertex", "x", "y"] (defScope s_trial) := ⟨rfl, rfl, rfl, by decide +kernel, rfl, by decide +kernel, by decide +kernel⟩
abbrev s_check_clusters : Stmt := topS 49
theorem sc_check_clusters : FnScope ["spins", "x", "y"] ["spins", "x", "y"] (defScope s_check_clusters) := ⟨rfl, rfl, rfl, by decide +kernel, rfl, by decide +kernel, by decide +kernel⟩
abbrev s_clusters : Stmt := topS 50
theorem sc_clusters : FnScope ["count", "pairs", "parts", "u", "v", "old", "part", "groups", "vertex"] ["count", "pairs"] (defScope s_clusters) := ⟨rfl, rfl, rfl, by decide +kernel, rfl, by decide +kernel, by decide +kernel⟩
abbrev s_kept_sets : Stmt := topS 51
theorem sc_kept_sets : FnScope ["spins", "state", "x", "found", "u", "v", "coupling", "left", "kept", "count", "pairs", "chance"] ["spins", "state", "x"] (defScope s_kept_sets) := ⟨rfl, rfl, rfl, by decide +kernel, rfl, by decide +kernel, by decide +kernel⟩
abbrev s_index : Stmt := topS 52
theorem sc_index : FnScope ["state", "index", "spin"] ["state"] (defScope s_index) := ⟨rfl, rfl, rfl, by decide +kernel, rfl, by decide +kernel, by decide +kernel⟩
abbrev s_coloured : Stmt := topS 53
theorem sc_coloured : FnScope ["spins", "clusters", "x", "y", "found", "vertices", "field", "weight", "up", "later", "spin", "chance", "state", "old", "longer", "count", "vertex"] ["spins", "clusters", "x", "y"] (defScope s_coloured) := ⟨rfl, rfl, rfl, by decide +kernel, rfl, by decide +kernel, by decide +kernel⟩
abbrev s_cluster_move : Stmt := topS 54
theorem sc_cluster_move : FnScope ["spins", "x", "y", "table", "state", "chances", "clusters", "chance", "index", "further"] ["spins", "x", "y"] (defScope s_cluster_move) := ⟨rfl, rfl, rfl, by decide +kernel, rfl, by decide +kernel, by decide +kernel⟩
abbrev s_single_turn : Stmt := topS 55
theorem sc_single_turn : FnScope ["spins", "x", "count", "table", "state", "chances", "clusters", "chance", "vertices", "turned", "index", "further", "vertex", "spin"] ["spins", "x"] (defScope s_single_turn) := ⟨rfl, rfl, rfl, by decide +kernel, rfl, by decide +kernel, by decide +kernel⟩
abbrev s_l_cell : Stmt := topS 57
theorem sc_l_cell : FnScope ["_law_script", "_law_k"] ["_law_script", "_law_k"] (defScope s_l_cell) := ⟨rfl, rfl, rfl, by decide +kernel, rfl, by decide +kernel, by decide +kernel⟩
abbrev s_l_mix : Stmt := topS 58
theorem sc_l_mix : FnScope ["_law_cell_here", "_law_k", "_law_number"] ["_law_cell_here", "_law_k"] (defScope s_l_mix) := ⟨rfl, rfl, rfl, by decide +kernel, rfl, by decide +kernel, by decide +kernel⟩
abbrev s_l_row : Stmt := topS 59
theorem sc_l_row : FnScope ["_law_cell_here", "_law_count", "_law_bound", "_law_found", "_law_rest", "_law_k"] ["_law_cell_here", "_law_count", "_law_bound"] (defScope s_l_row) := ⟨rfl, rfl, rfl, by decide +kernel, rfl, by decide +kernel, by decide +kernel⟩
abbrev s_l_tuples : Stmt := topS 60
theorem sc_l_tuples : FnScope ["_law_thing", "_law_part"] ["_law_thing"] (defScope s_l_tuples) := ⟨rfl, rfl, rfl, by decide +kernel, rfl, by decide +kernel, by decide +kernel⟩
abbrev s_l_gcd : Stmt := topS 61
theorem sc_l_gcd : FnScope ["_law_a", "_law_b"] ["_law_a", "_law_b"] (defScope s_l_gcd) := ⟨rfl, rfl, rfl, by decide +kernel, rfl, by decide +kernel, by decide +kernel⟩
abbrev s_l_frac : Stmt := topS 62
theorem sc_l_frac : FnScope ["_law_a", "_law_b", "_law_common"] ["_law_a", "_law_b"] (defScope s_l_frac) := ⟨rfl, rfl, rfl, by decide +kernel, rfl, by decide +kernel, by decide +kernel⟩
abbrev s_l_add : Stmt := topS 63
theorem sc_l_add : FnScope ["_law_p", "_law_q"] ["_law_p", "_law_q"] (defScope s_l_add) := ⟨rfl, rfl, rfl, by decide +kernel, rfl, by decide +kernel, by decide +kernel⟩
abbrev s_l_mul : Stmt := topS 64
theorem sc_l_mul : FnScope ["_law_p", "_law_q"] ["_law_p", "_law_q"] (defScope s_l_mul) := ⟨rfl, rfl, rfl, by decide +kernel, rfl, by decide +kernel, by decide +kernel⟩
abbrev s_l_pow : Stmt := topS 66
theorem sc_l_pow : FnScope ["_law_p", "_law_n", "_law_result", "_law_k"] ["_law_p", "_law_n"] (defScope s_l_pow) := ⟨rfl, rfl, rfl, by decide +kernel, rfl, by decide +kernel, by decide +kernel⟩
abbrev s_l_spins : Stmt := topS 70
theorem sc_l_spins : FnScope ["_law_script", "_law_first", "_law_most", "_law_kind", "_law_count", "_law_fields", "_law_pairs", "_law_u", "_law_edges", "_law_digits", "_law_k", "_law_coupling", "_law_digit", "_law_v"] ["_law_script", "_law_first", "_law_most", "_law_kind"] (defScope s_l_spins) := ⟨rfl, rfl, rfl, by decide +kernel, rfl, by decide +kernel, by decide +kernel⟩
abbrev s_l_states : Stmt := topS 71
theorem sc_l_states : FnScope ["_law_count", "_law_found", "_law_k", "_law_later", "_law_state"] ["_law_count"] (defScope s_l_states) := ⟨rfl, rfl, rfl, by decide +kernel, rfl, by decide +kernel, by decide +kernel⟩
abbrev s_l_cost : Stmt := topS 72
theorem sc_l_cost : FnScope ["_law_fields", "_law_edges", "_law_state", "_law_total", "_law_k", "_law_u", "_law_v", "_law_coupling"] ["_law_fields", "_law_edges", "_law_state"] (defScope s_l_cost) := ⟨rfl, rfl, rfl, by decide +kernel, rfl, by decide +kernel, by decide +kernel⟩
abbrev s_l_weights : Stmt := topS 74
theorem sc_l_weights : FnScope ["_law_fields", "_law_edges", "_law_x", "_law_y", "_law_found", "_law_state"] ["_law_fields", "_law_edges", "_law_x", "_law_y"] (defScope s_l_weights) := ⟨rfl, rfl, rfl, by decide +kernel, rfl, by decide +kernel, by decide +kernel⟩
abbrev s_l_shares : Stmt := topS 75
theorem sc_l_shares : FnScope ["_law_weights_here", "_law_total", "_law_weight"] ["_law_weights_here"] (defScope s_l_shares) := ⟨rfl, rfl, rfl, by decide +kernel, rfl, by decide +kernel, by decide +kernel⟩
abbrev s_l_fractions : Stmt := topS 76
theorem sc_l_fractions : FnScope ["_law_cell_here", "_law_unit", "_law_bottom", "_law_x"] ["_law_cell_here", "_law_unit"] (defScope s_l_fractions) := ⟨rfl, rfl, rfl, by decide +kernel, rfl, by decide +kernel, by decide +kernel⟩
abbrev s_l_are_rows : Stmt := topS 77
theorem sc_l_are_rows : FnScope ["_law_table", "_law_count", "_law_row_here", "_law_total", "_law_before", "_law_index", "_law_chance"] ["_law_table", "_law_count"] (defScope s_l_are_rows) := ⟨rfl, rfl, rfl, by decide +kernel, rfl, by decide +kernel, by decide +kernel⟩
abbrev s_l_goes : Stmt := topS 79
theorem sc_l_goes : FnScope ["_law_table", "_law_start", "_law_end", "_law_index", "_law_chance"] ["_law_table", "_law_start", "_law_end"] (defScope s_l_goes) := ⟨rfl, rfl, rfl, by decide +kernel, rfl, by decide +kernel, by decide +kernel⟩
abbrev s_l_is_kept : Stmt := topS 80
theorem sc_l_is_kept : FnScope ["_law_weights_here", "_law_table", "_law_i", "_law_j", "_law_forth"] ["_law_weights_here", "_law_table"] (defScope s_l_is_kept) := ⟨rfl, rfl, rfl, by decide +kernel, rfl, by decide +kernel, by decide +kernel⟩
abbrev s_law : Stmt := topS 81
theorem sc_law : FnScope ["_law_script", "_law_cell_here", "_law_kind", "_law_fields", "_law_edges", "_law_x", "_law_y", "_law_spins_here", "_law_vertex", "_law_table", "_law_weights_here", "_law_shares_here", "_law_other", "_law_both"] ["_law_script"] (defScope s_law) := ⟨rfl, rfl, rfl, by decide +kernel, rfl, by decide +kernel, by decide +kernel⟩
/-! ### a def of the text, as the top leaves it -/
structure Df (K : PySem.W.Frag) (mg : Str → Option Value) (x : Str) (st : Stmt) (ps : List Str) where
  f : Addr
  d : FuncData
  F : Fun K x x st f d
  b : Binds K d ps []
  g : mg x = some (.ref f)
/-- an int of the text -/
structure IntG (mg : Str → Option Value) (x : Str) (n : Int) where
  t : Tok
  g : mg x = some (.int n t)
structure Txt (K : PySem.W.Frag) (mg : Str → Option Value) where
  d_fraction : Df K mg "fraction" s_fraction ["numerator", "denominator"]
  d_add : Df K mg "add" s_add ["a", "b"]
  d_subtract : Df K mg "subtract" s_subtract ["a", "b"]
  d_multiply : Df K mg "multiply" s_multiply ["a", "b"]
  d_divide : Df K mg "divide" s_divide ["a", "b"]
  d_compare : Df K mg "compare" s_compare ["a", "b"]
  d_raised : Df K mg "raised" s_raised ["a", "exponent"]
  d_add_all : Df K mg "add_all" s_add_all ["items"]
  d_check_no_field : Df K mg "check_no_field" s_check_no_field ["spins"]
  d_states_of : Df K mg "states_of" s_states_of ["count"]
  d_all_states : Df K mg "all_states" s_all_states ["spins"]
  d_cost : Df K mg "cost" s_cost ["spins", "state"]
  d_ups : Df K mg "ups" s_ups ["state"]
  d_check_point : Df K mg "check_point" s_check_point ["x", "y"]
  d_check_size : Df K mg "check_size" s_check_size ["spins", "x", "y"]
  d_weights_of : Df K mg "weights_of" s_weights_of ["spins", "x", "y"]
  d_distribution_of : Df K mg "distribution_of" s_distribution_of ["spins", "x", "y"]
  d_after : Df K mg "after" s_after ["entries", "table"]
  d_keeps : Df K mg "keeps" s_keeps ["entries", "table"]
  d_is_balanced : Df K mg "is_balanced" s_is_balanced ["entries", "table"]
  d_table_row : Df K mg "table_row" s_table_row ["chances"]
  d_followed : Df K mg "followed" s_followed ["first", "second"]
  d_check_ferro : Df K mg "check_ferro" s_check_ferro ["spins"]
  d_turned : Df K mg "_turned" s_turned ["count", "index", "vertex"]
  d_heat_bath : Df K mg "heat_bath" s_heat_bath ["spins", "vertex", "x", "y"]
  d_trial : Df K mg "trial" s_trial ["spins", "vertex", "x", "y"]
  d_check_clusters : Df K mg "_check_clusters" s_check_clusters ["spins", "x", "y"]
  d_clusters : Df K mg "_clusters" s_clusters ["count", "pairs"]
  d_kept_sets : Df K mg "_kept_sets" s_kept_sets ["spins", "state", "x"]
  d_index : Df K mg "_index" s_index ["state"]
  d_coloured : Df K mg "_coloured" s_coloured ["spins", "clusters", "x", "y"]
  d_cluster_move : Df K mg "cluster_move" s_cluster_move ["spins", "x", "y"]
  d_single_turn : Df K mg "single_turn" s_single_turn ["spins", "x"]
  d_l_cell : Df K mg "_law_cell" s_l_cell ["_law_script", "_law_k"]
  d_l_mix : Df K mg "_law_mix" s_l_mix ["_law_cell_here", "_law_k"]
  d_l_row : Df K mg "_law_row" s_l_row ["_law_cell_here", "_law_count", "_law_bound"]
  d_l_tuples : Df K mg "_law_tuples" s_l_tuples ["_law_thing"]
  d_l_gcd : Df K mg "_law_gcd" s_l_gcd ["_law_a", "_law_b"]
  d_l_frac : Df K mg "_law_frac" s_l_frac ["_law_a", "_law_b"]
  d_l_add : Df K mg "_law_add" s_l_add ["_law_p", "_law_q"]
  d_l_mul : Df K mg "_law_mul" s_l_mul ["_law_p", "_law_q"]
  d_l_pow : Df K mg "_law_pow" s_l_pow ["_law_p", "_law_n"]
  d_l_spins : Df K mg "_law_spins" s_l_spins ["_law_script", "_law_first", "_law_most", "_law_kind"]
  d_l_states : Df K mg "_law_states" s_l_states ["_law_count"]
  d_l_cost : Df K mg "_law_cost" s_l_cost ["_law_fields", "_law_edges", "_law_state"]
  d_l_weights : Df K mg "_law_weights" s_l_weights ["_law_fields", "_law_edges", "_law_x", "_law_y"]
  d_l_shares : Df K mg "_law_shares" s_l_shares ["_law_weights_here"]
  d_l_fractions : Df K mg "_law_fractions" s_l_fractions ["_law_cell_here", "_law_unit"]
  d_l_are_rows : Df K mg "_law_are_rows" s_l_are_rows ["_law_table", "_law_count"]
  d_l_goes : Df K mg "_law_goes" s_l_goes ["_law_table", "_law_start", "_law_end"]
  d_l_is_kept : Df K mg "_law_is_kept" s_l_is_kept ["_law_weights_here", "_law_table"]
  d_law : Df K mg "law" s_law ["_law_script"]
  C : Addr
  f_init : Addr
  d_init : FuncData
  F_init : Fun K "__init__" "Spins.__init__" s_init f_init d_init
  b_init : Binds K d_init ["self", "fields", "edges"] []
  g_Spins : mg "Spins" = some (.ref C)
  mkC : Mk K C f_init
  cl : Cls K C
  nF : NoAttr K C "fields"
  nE : NoAttr K C "edges"
  g_gcd : mg "gcd" = some (.builtin "math.gcd")
  a_ZERO : Addr
  g_ZERO : mg "ZERO" = some (.ref a_ZERO)
  a_ONE : Addr
  g_ONE : mg "ONE" = some (.ref a_ONE)
  i_MOST_VERTICES_spins : IntG mg "MOST_VERTICES_spins" 12
  i_MOST_EDGES_spins : IntG mg "MOST_EDGES_spins" 24
  i_GREATEST : IntG mg "GREATEST" 9
  i_MOST_VERTICES_distributions : IntG mg "MOST_VERTICES_distributions" 6
  i_MOST_EDGES_moves : IntG mg "MOST_EDGES_moves" 10
  k_ZERO : ∀ H : Hp, SqT K H a_ZERO [.int 0, .int 1]
  k_ONE : ∀ H : Hp, SqT K H a_ONE [.int 1, .int 1]
  m_abs : mg "abs" = none
  m_all : mg "all" = none
  m_any : mg "any" = none
  m_bool : mg "bool" = none
  m_dict : mg "dict" = none
  m_enumerate : mg "enumerate" = none
  m_int : mg "int" = none
  m_isinstance : mg "isinstance" = none
  m_len : mg "len" = none
  m_list : mg "list" = none
  m_range : mg "range" = none
  m_sorted : mg "sorted" = none
  m_sum : mg "sum" = none
  m_tuple : mg "tuple" = none
  m_zip : mg "zip" = none
end K49
namespace K49
open PySem PySem.Spec PyProof.Rows L2
def eF (q : Rat) : PyData := .tuple [.int q.num, .int q.den]
theorem eF_of {K : PySem.W.Frag} {H : Hp} {v : V} {q : Rat} (h : De K H v (eF q)) : ∃ a, v = .ref a ∧ SqT K H a [.int q.num, .int q.den] := by
  obtain ⟨a, xs, rfl, hs, ha⟩ := h.tup_of
  have e : xs = [.int q.num, .int q.den] := DeA.ints_of (ns := [q.num, q.den]) ha
  subst e
  exact ⟨a, rfl, hs⟩
def sp_fraction (K : PySem.W.Frag) : Sp := fun vs H Q _ => ∃ n d : Int, vs = [.int n, .int d] ∧ 0 < d ∧ d.natAbs < 2 ^ 9000 ∧ ∀ z H', Same H H' → De K H' z (eF ((n : Rat) / (d : Rat))) → Q z H'
section
variable {P : Program} {w : World} {K : PySem.W.Frag} {mg : Str → Option Value} {base : Heap}
theorem ok_fraction (T : Txt K mg) : FnOk P w K mg base CX0 1 T.d_fraction.f T.d_fraction.d ["numerator", "denominator"] (sp_fraction K) := by
  refine T.d_fraction.F.ok sc_fraction (fun vs H Q E h => ?_) (fun cdv A outer s H vs Q E hr h => ?_)
  · obtain ⟨n, d, rfl, _⟩ := h
    rfl
  · obtain ⟨n, d, rfl, hd, hs, q⟩ := h
    refine ⟨_, (pss_cons
        (ps_set (i := 2) sc_fraction.nd rfl (.inl rfl) (pe_callBfun cr_gcd (by rfl) T.g_gcd (pa_cons (pv 0) (pa_cons (pv 1) pa_nil))))
        (pss_cons
        (ps_if (pt_cmpR op_lt (pv 1) pe_int (nomark _)) (pss_one
        (ps_set (i := 2) sc_fraction.nd rfl (.inl rfl) (pe_un un_neg (pv 2)))) pss_nil)
        (pss_one
        (ps_ret (pe_tup (pa_cons (pe_op op_fdivW (pv 0) (pv 2)) (pa_cons (pe_op op_fdivW (pv 1) (pv 2)) pa_nil))))))), ?_⟩
    have hg : 0 < Nat.gcd n.natAbs d.natAbs := Nat.gcd_pos_of_pos_right _ (by omega)
    have hgl : Nat.gcd n.natAbs d.natAbs ≤ d.natAbs := Nat.gcd_le_right _ (by omega)
    have hdv : CDivW n ((Nat.gcd n.natAbs d.natAbs : Nat) : Int) := wide_div (b := 9000) (by omega) (Nat.lt_of_le_of_lt hgl hs) (by decide) (by decide)
    refine ⟨_, rfl, _, rfl, n, d, rfl, ?_⟩
    refine ⟨_, rfl, _, _, rfl, rfl, _, rfl, ?_⟩
    rw [decide_eq_false (by omega)]
    refine iteF ?_
    refine ⟨_, rfl, _, rfl, _, _, rfl, rfl, hdv, _, rfl, _, rfl, _, _, rfl, rfl, hdv, (by show 2 ≤ sizeLine; decide), fun p hp => ?_⟩
    refine q _ _ (same_new hp) ?_
    refine de_new hp (.two ?_ ?_)
    · rw [rat_num n d hd]
      exact .int _
    · rw [rat_den n d hd]
      exact .int _
theorem mulW {a b : Int} (h : a.natAbs < 2 ^ 4500) (g : b.natAbs < 2 ^ 4500) : CMulW a b := wide_mul h g (by decide) (by decide) (by decide)
theorem pos_mul {a b : Int} (h : 0 < a) (g : 0 < b) : 0 < a * b := Int.mul_pos h g
def sp_two (K : PySem.W.Frag) (C : Rat → Rat → Prop) (f : Rat → Rat → Rat) : Sp := fun vs H Q _ => ∃ (u v : V) (p q : Rat), vs = [u, v] ∧ De K H u (eF p) ∧ De K H v (eF q) ∧ Sz p ∧ Sz q ∧ C p q ∧ ∀ z H', Same H H' → De K H' z (eF (f p q)) → Q z H'
abbrev sp_add (K : PySem.W.Frag) : Sp := sp_two K (fun _ _ => True) (· + ·)
abbrev sp_subtract (K : PySem.W.Frag) : Sp := sp_two K (fun _ _ => True) (· - ·)
abbrev sp_multiply (K : PySem.W.Frag) : Sp := sp_two K (fun _ _ => True) (· * ·)
abbrev sp_divide (K : PySem.W.Frag) : Sp := sp_two K (fun _ q => 0 < q) (· / ·)
theorem ok_add (T : Txt K mg) : FnOk P w K mg base CX0 2 T.d_add.f T.d_add.d ["a", "b"] (sp_add K) := by
  refine T.d_add.F.ok sc_add (fun vs H Q E h => ?_) (fun cdv A outer s H vs Q E hr h => ?_)
  · obtain ⟨u, v, p, q, rfl, _⟩ := h
    rfl
  · obtain ⟨u, v, p, q, rfl, hu, hv, sp, sq, _, k⟩ := h
    obtain ⟨a, rfl, ha⟩ := eF_of hu
    obtain ⟨b, rfl, hb⟩ := eF_of hv
    refine ⟨_, (pss_one
        (ps_ret (pe_call (ok_fraction T) hr (by rfl) T.d_fraction.g T.d_fraction.F.kp T.d_fraction.b .nil pass0 (pa_cons (pe_op op_add (pe_op op_mulW (pe_ix ix_tup (pv 0) pe_int (fun _ _ => rfl)) (pe_ix ix_tup (pv 1) pe_int (fun _ _ => rfl))) (pe_op op_mulW (pe_ix ix_tup (pv 1) pe_int (fun _ _ => rfl)) (pe_ix ix_tup (pv 0) pe_int (fun _ _ => rfl)))) (pa_cons (pe_op op_mulW (pe_ix ix_tup (pv 0) pe_int (fun _ _ => rfl)) (pe_ix ix_tup (pv 1) pe_int (fun _ _ => rfl))) pa_nil))))), ?_⟩
    refine ⟨_, rfl, a, _, 0, _, rfl, rfl, ha, rfl, _, rfl, b, _, 1, _, rfl, rfl, hb, rfl, _, _, rfl, rfl, mulW sp.n sq.d, ?_⟩
    refine ⟨_, rfl, b, _, 0, _, rfl, rfl, hb, rfl, _, rfl, a, _, 1, _, rfl, rfl, ha, rfl, _, _, rfl, rfl, mulW sq.n sp.d, _, _, rfl, rfl, ?_⟩
    refine ⟨_, rfl, a, _, 1, _, rfl, rfl, ha, rfl, _, rfl, b, _, 1, _, rfl, rfl, hb, rfl, _, _, rfl, rfl, mulW sp.d sq.d, _, _, rfl, pos_mul (den_pos' p) (den_pos' q), mul_small sp.d sq.d, fun z H' e hz => k z H' e ?_⟩
    rw [rat_add] at hz
    exact hz
theorem ok_subtract (T : Txt K mg) : FnOk P w K mg base CX0 2 T.d_subtract.f T.d_subtract.d ["a", "b"] (sp_subtract K) := by
  refine T.d_subtract.F.ok sc_subtract (fun vs H Q E h => ?_) (fun cdv A outer s H vs Q E hr h => ?_)
  · obtain ⟨u, v, p, q, rfl, _⟩ := h
    rfl
  · obtain ⟨u, v, p, q, rfl, hu, hv, sp, sq, _, k⟩ := h
    obtain ⟨a, rfl, ha⟩ := eF_of hu
    obtain ⟨b, rfl, hb⟩ := eF_of hv
    refine ⟨_, (pss_one
        (ps_ret (pe_call (ok_fraction T) hr (by rfl) T.d_fraction.g T.d_fraction.F.kp T.d_fraction.b .nil pass0 (pa_cons (pe_op op_sub (pe_op op_mulW (pe_ix ix_tup (pv 0) pe_int (fun _ _ => rfl)) (pe_ix ix_tup (pv 1) pe_int (fun _ _ => rfl))) (pe_op op_mulW (pe_ix ix_tup (pv 1) pe_int (fun _ _ => rfl)) (pe_ix ix_tup (pv 0) pe_int (fun _ _ => rfl)))) (pa_cons (pe_op op_mulW (pe_ix ix_tup (pv 0) pe_int (fun _ _ => rfl)) (pe_ix ix_tup (pv 1) pe_int (fun _ _ => rfl))) pa_nil))))), ?_⟩
    refine ⟨_, rfl, a, _, 0, _, rfl, rfl, ha, rfl, _, rfl, b, _, 1, _, rfl, rfl, hb, rfl, _, _, rfl, rfl, mulW sp.n sq.d, ?_⟩
    refine ⟨_, rfl, b, _, 0, _, rfl, rfl, hb, rfl, _, rfl, a, _, 1, _, rfl, rfl, ha, rfl, _, _, rfl, rfl, mulW sq.n sp.d, _, _, rfl, rfl, ?_⟩
    refine ⟨_, rfl, a, _, 1, _, rfl, rfl, ha, rfl, _, rfl, b, _, 1, _, rfl, rfl, hb, rfl, _, _, rfl, rfl, mulW sp.d sq.d, _, _, rfl, pos_mul (den_pos' p) (den_pos' q), mul_small sp.d sq.d, fun z H' e hz => k z H' e ?_⟩
    rw [rat_sub] at hz
    exact hz
theorem ok_multiply (T : Txt K mg) : FnOk P w K mg base CX0 2 T.d_multiply.f T.d_multiply.d ["a", "b"] (sp_multiply K) := by
  refine T.d_multiply.F.ok sc_multiply (fun vs H Q E h => ?_) (fun cdv A outer s H vs Q E hr h => ?_)
  · obtain ⟨u, v, p, q, rfl, _⟩ := h
    rfl
  · obtain ⟨u, v, p, q, rfl, hu, hv, sp, sq, _, k⟩ := h
    obtain ⟨a, rfl, ha⟩ := eF_of hu
    obtain ⟨b, rfl, hb⟩ := eF_of hv
    refine ⟨_, (pss_one
        (ps_ret (pe_call (ok_fraction T) hr (by rfl) T.d_fraction.g T.d_fraction.F.kp T.d_fraction.b .nil pass0 (pa_cons (pe_op op_mulW (pe_ix ix_tup (pv 0) pe_int (fun _ _ => rfl)) (pe_ix ix_tup (pv 1) pe_int (fun _ _ => rfl))) (pa_cons (pe_op op_mulW (pe_ix ix_tup (pv 0) pe_int (fun _ _ => rfl)) (pe_ix ix_tup (pv 1) pe_int (fun _ _ => rfl))) pa_nil))))), ?_⟩
    refine ⟨_, rfl, a, _, 0, _, rfl, rfl, ha, rfl, _, rfl, b, _, 0, _, rfl, rfl, hb, rfl, _, _, rfl, rfl, mulW sp.n sq.n, ?_⟩
    refine ⟨_, rfl, a, _, 1, _, rfl, rfl, ha, rfl, _, rfl, b, _, 1, _, rfl, rfl, hb, rfl, _, _, rfl, rfl, mulW sp.d sq.d, _, _, rfl, pos_mul (den_pos' p) (den_pos' q), mul_small sp.d sq.d, fun z H' e hz => k z H' e ?_⟩
    rw [rat_mul] at hz
    exact hz
theorem ok_divide (T : Txt K mg) : FnOk P w K mg base CX0 2 T.d_divide.f T.d_divide.d ["a", "b"] (sp_divide K) := by
  refine T.d_divide.F.ok sc_divide (fun vs H Q E h => ?_) (fun cdv A outer s H vs Q E hr h => ?_)
  · obtain ⟨u, v, p, q, rfl, _⟩ := h
    rfl
  · obtain ⟨u, v, p, q, rfl, hu, hv, sp, sq, h0, k⟩ := h
    obtain ⟨a, rfl, ha⟩ := eF_of hu
    obtain ⟨b, rfl, hb⟩ := eF_of hv
    refine ⟨_, (pss_one
        (ps_ret (pe_call (ok_fraction T) hr (by rfl) T.d_fraction.g T.d_fraction.F.kp T.d_fraction.b .nil pass0 (pa_cons (pe_op op_mulW (pe_ix ix_tup (pv 0) pe_int (fun _ _ => rfl)) (pe_ix ix_tup (pv 1) pe_int (fun _ _ => rfl))) (pa_cons (pe_op op_mulW (pe_ix ix_tup (pv 0) pe_int (fun _ _ => rfl)) (pe_ix ix_tup (pv 1) pe_int (fun _ _ => rfl))) pa_nil))))), ?_⟩
    refine ⟨_, rfl, a, _, 0, _, rfl, rfl, ha, rfl, _, rfl, b, _, 1, _, rfl, rfl, hb, rfl, _, _, rfl, rfl, mulW sp.n sq.d, ?_⟩
    refine ⟨_, rfl, a, _, 1, _, rfl, rfl, ha, rfl, _, rfl, b, _, 0, _, rfl, rfl, hb, rfl, _, _, rfl, rfl, mulW sp.d sq.n, _, _, rfl, pos_mul (den_pos' p) (num_pos' h0), mul_small sp.d sq.n, fun z H' e hz => k z H' e ?_⟩
    rw [rat_div p q h0] at hz
    exact hz
theorem eF_zero : eF 0 = .tuple [.int 0, .int 1] := rfl
theorem eF_one : eF 1 = .tuple [.int 1, .int 1] := rfl
theorem de_zero (T : Txt K mg) (H : Hp) : De K H (.ref T.a_ZERO) (eF 0) := .tup (T.k_ZERO H) (.two (.int _) (.int _))
theorem de_one (T : Txt K mg) (H : Hp) : De K H (.ref T.a_ONE) (eF 1) := .tup (T.k_ONE H) (.two (.int _) (.int _))
theorem Sz_zero : Sz 0 := ⟨by show 0 < 2 ^ 4500; exact Nat.pow_pos (by decide), by show 1 < 2 ^ 4500; exact Nat.one_lt_two_pow (by decide)⟩
theorem Sz_one : Sz 1 := ⟨by show 1 < 2 ^ 4500; exact Nat.one_lt_two_pow (by decide), by show 1 < 2 ^ 4500; exact Nat.one_lt_two_pow (by decide)⟩
def sp_compare (K : PySem.W.Frag) : Sp := fun vs H Q _ => ∃ (u v : V) (p q : Rat), vs = [u, v] ∧ De K H u (eF p) ∧ De K H v (eF q) ∧ Sz p ∧ Sz q ∧ ∀ c : Int, (0 < c ↔ q < p) → Q (.int c) H
theorem ok_compare (T : Txt K mg) : FnOk P w K mg base CX0 1 T.d_compare.f T.d_compare.d ["a", "b"] (sp_compare K) := by
  refine T.d_compare.F.ok sc_compare (fun vs H Q E h => ?_) (fun cdv A outer s H vs Q E hr h => ?_)
  · obtain ⟨u, v, p, q, rfl, _⟩ := h
    rfl
  · obtain ⟨u, v, p, q, rfl, hu, hv, sp, sq, k⟩ := h
    obtain ⟨a, rfl, ha⟩ := eF_of hu
    obtain ⟨b, rfl, hb⟩ := eF_of hv
    refine ⟨_, (pss_cons
        (ps_set (i := 2) sc_compare.nd rfl (.inl rfl) (pe_op op_sub (pe_op op_mulW (pe_ix ix_tup (pv 0) pe_int (fun _ _ => rfl)) (pe_ix ix_tup (pv 1) pe_int (fun _ _ => rfl))) (pe_op op_mulW (pe_ix ix_tup (pv 1) pe_int (fun _ _ => rfl)) (pe_ix ix_tup (pv 0) pe_int (fun _ _ => rfl)))))
        (pss_cons
        (ps_if (pt_cmpR op_eq (pv 2) pe_int (nomark _)) (pss_one
        (ps_ret pe_int)) pss_nil)
        (pss_one
        (ps_ret (pe_ifExp (pt_cmpR op_gt (pv 2) pe_int (nomark _)) pe_int (pe_un un_neg pe_int)))))), ?_⟩
    have hl := Rat.lt_iff q p
    refine ⟨_, rfl, a, _, 0, _, rfl, rfl, ha, rfl, _, rfl, b, _, 1, _, rfl, rfl, hb, rfl, _, _, rfl, rfl, mulW sp.n sq.d, ?_⟩
    refine ⟨_, rfl, b, _, 0, _, rfl, rfl, hb, rfl, _, rfl, a, _, 1, _, rfl, rfl, ha, rfl, _, _, rfl, rfl, mulW sq.n sp.d, _, _, rfl, rfl, ?_⟩
    refine ⟨_, rfl, rfl, _, rfl, ite2 (fun e => ?_) (fun e => ?_)⟩
    · have e1 : p.num * q.den - q.num * p.den = 0 := V.int.inj (of_decide_eq_true e)
      exact k _ (by rw [hl]; omega)
    · have e1 : ¬ (p.num * q.den - q.num * p.den = 0) := fun z => e (decide_eq_true (congrArg V.int z))
      refine ⟨_, rfl, _, _, rfl, rfl, _, rfl, ite2 (fun e2 => ?_) (fun e2 => ?_)⟩
      · have e3 := of_decide_eq_true e2
        exact k _ (by rw [hl]; omega)
      · have e3 : ¬ 0 < p.num * q.den - q.num * p.den := fun z => e2 (decide_eq_true z)
        exact ⟨1, rfl, k _ (by rw [hl]; omega)⟩
def sp_raised (K : PySem.W.Frag) : Sp := fun vs H Q _ => ∃ (u : V) (p : Rat) (e : Int), vs = [u, .int e] ∧ De K H u (eF p) ∧ Sb p ∧ e.natAbs ≤ 1000 ∧ ∀ z H', Same H H' → De K H' z (eF (p ^ e)) → Q z H'
theorem ok_raised (T : Txt K mg) : FnOk P w K mg base CX0 3 T.d_raised.f T.d_raised.d ["a", "exponent"] (sp_raised K) := by
  refine T.d_raised.F.ok sc_raised (fun vs H Q E h => ?_) (fun cdv A outer s H vs Q E hr h => ?_)
  · obtain ⟨u, p, e, rfl, _⟩ := h
    rfl
  · obtain ⟨u, p, e, rfl, hu, hb, he, k⟩ := h
    refine ⟨_, (pss_cons
        (ps_set (i := 2) sc_raised.nd rfl (.inl rfl) (pe_ifExp (pt_cmpR op_ge (pv 1) pe_int (nomark _)) (pv 0) (pe_call (ok_divide T) hr (by rfl) T.d_divide.g T.d_divide.F.kp T.d_divide.b .nil pass0 (pa_cons (pe_glob (v := .ref T.a_ONE) (by rfl) T.g_ONE rfl) (pa_cons (pv 0) pa_nil)))))
        (pss_cons
        (ps_set (i := 3) sc_raised.nd rfl (.inl rfl) pe_int)
        (pss_cons
        (ps_set (i := 4) sc_raised.nd rfl (.inl rfl) pe_int)
        (pss_cons
        (ps_for PassesOwn.never rfl (pi_range1 (by rfl) T.m_range (pa_cons (pe_callB call_abs (by rfl) T.m_abs (by decide +kernel) (pa_cons (pv 1) pa_nil)) pa_nil)) (pg_name (i := 5) sc_raised.nd rfl (.inl rfl)) (pss_cons
        (ps_aug (i := 3) sc_raised.nd rfl (.inl rfl) (pe_ix ix_tup (pv 2) pe_int (fun _ _ => rfl)) iop_mul)
        (pss_one
        (ps_aug (i := 4) sc_raised.nd rfl (.inl rfl) (pe_ix ix_tup (pv 2) pe_int (fun _ _ => rfl)) iop_mul))))
        (pss_one
        (ps_ret (pe_tup (pa_cons (pv 3) (pa_cons (pv 4) pa_nil))))))))), ?_⟩
    -- base
    have main : ∀ (b : V) (r : Rat) (H1 : Hp), Same H H1 → De K H1 b (eF r) → r = (if 0 ≤ e then p else 1 / p) → (tSeq (tAsg (tC (.int 1)) (gName 3)) (tSeq (tAsg (tC (.int 1)) (gName 4)) (tSeq (tFor (iRng1 (tCons (tCB (fun xs H Q => ∃ i, xs = [.int i] ∧ Q (.int (if i < 0 then -i else i)) H) (tCons (tVar 1) tNil)) tNil)) (gName 5)
        (tSeq (tAug 3 (tOp (rIxT K) (tVar 2) (tC (.int 0))) (rI CMul fun i j => .int (i * j))) (tAug 4 (tOp (rIxT K) (tVar 2) (tC (.int 1))) (rI CMul fun i j => .int (i * j))))) (tRet (tTup (tCons (tVar 3) (tCons (tVar 4) tNil))))))) { nx := fun _ H' => Q .non H', rt := Q } [some u, some (.int e), some b, none, none, none] H1 := by
      intro b r H1 s1 hr1 er
      obtain ⟨a, rfl, ha⟩ := eF_of hr1
      have sb := Sb_inv hb e
      rw [← er] at sb
      refine ⟨_, rfl, e, rfl, _, rfl, (by split <;> omega), (by split <;> omega), for_range (lo := 0) (n := (if e < 0 then -e else e).toNat) (fun i σ H' => ∃ y, σ = [some u, some (.int e), some (.ref a), some (.int (r.num ^ i)), some (.int ((r.den : Int) ^ i)), y] ∧ H' = H1) ⟨none, (by rw [Int.pow_zero, Int.pow_zero]; rfl), rfl⟩ (fun i σ H' hi hp => ?_) (fun σ H' hp => ?_)⟩
      · obtain ⟨y, rfl, rfl⟩ := hp
        refine ⟨_, rfl, _, rfl, a, _, 0, _, rfl, rfl, ha, rfl, _, _, rfl, rfl, .inr ⟨by have := sb.1; omega, by have := sb.2.1; omega⟩, ?_⟩
        refine ⟨_, rfl, _, rfl, a, _, 1, _, rfl, rfl, ha, rfl, _, _, rfl, rfl, .inr ⟨by omega, by have := sb.2.2; omega⟩, ?_⟩
        exact ⟨some (.int ((0 : Int) + i)), (by rw [Int.pow_succ, Int.pow_succ]; rfl), rfl⟩
      · obtain ⟨y, rfl, rfl⟩ := hp
        refine ⟨_, rfl, _, rfl, (by show 2 ≤ sizeLine; decide), fun t ht => k _ _ (s1.trans (same_new ht)) ?_⟩
        have en : (if e < 0 then -e else e).toNat = e.natAbs := by split <;> omega
        have eq := zpow_base p hb.1 e
        rw [← er] at eq
        have e1 : (p ^ e).num = r.num ^ e.natAbs := by rw [← eq, Rat.num_pow]
        have e2 : ((p ^ e).den : Int) = (r.den : Int) ^ e.natAbs := by rw [← eq, Rat.den_pow, Int.natCast_pow]
        rw [en]
        refine de_new ht (.two ?_ ?_)
        · rw [e1]
          exact .int _
        · rw [e2]
          exact .int _
    refine ⟨_, rfl, _, _, rfl, rfl, _, rfl, ite2 (fun e2 => ?_) (fun e2 => ?_)⟩
    · have e3 : 0 ≤ e := of_decide_eq_true e2
      exact ⟨_, rfl, main u p H (Same.refl H) hu (by rw [if_pos e3])⟩
    · have e3 : ¬ 0 ≤ e := fun z => e2 (decide_eq_true z)
      exact ⟨_, rfl, _, _, 1, p, rfl, de_one T H, hu, Sz_one, Sb_sz hb, hb.1, fun z H1 s1 hz => main z _ H1 s1 hz (by rw [if_neg e3])⟩
def sp_add_all (K : PySem.W.Frag) : Sp := fun vs H Q _ => ∃ (a : Addr) (qs : List Rat), vs = [.ref a] ∧ Ls K H a (qs.map eF) ∧ SzAll qs ∧ ∀ z H', Same H H' → De K H' z (eF qs.sum) → Q z H'
theorem ok_add_all (T : Txt K mg) : FnOk P w K mg base CX0 3 T.d_add_all.f T.d_add_all.d ["items"] (sp_add_all K) := by
  refine T.d_add_all.F.ok sc_add_all (fun vs H Q E h => ?_) (fun cdv A outer s H vs Q E hr h => ?_)
  · obtain ⟨a, qs, rfl, _⟩ := h
    rfl
  · obtain ⟨a, qs, rfl, hl, hs, k⟩ := h
    refine ⟨_, (pss_cons
        (ps_set (i := 1) sc_add_all.nd rfl (.inl rfl) (pe_glob (v := .ref T.a_ZERO) (by rfl) T.g_ZERO rfl))
        (pss_cons
        (ps_for PassesOwn.never rfl (pi_list (pv 0)) (pg_name (i := 2) sc_add_all.nd rfl (.inl rfl)) (pss_one
        (ps_set (i := 1) sc_add_all.nd rfl (.inl rfl) (pe_call (ok_add T) hr (by rfl) T.d_add.g T.d_add.F.kp T.d_add.b .nil pass0 (pa_cons (pv 1) (pa_cons (pv 2) pa_nil))))))
        (pss_one
        (ps_ret (pv 1))))), ?_⟩
    obtain ⟨xs, hx, hd⟩ := hl
    have hlen : xs.length = qs.length := hd.len
    refine ⟨.ref a, rfl, a, rfl, ⟨xs, hx⟩, for_data (l := qs) (by rw [← hlen]; exact walk_list) (fun pre σ H' => ∃ z y, σ = [some (.ref a), some z, y] ∧ Same H H' ∧ De K H' z (eF pre.sum)) ⟨_, none, rfl, Same.refl H, de_zero T H⟩
      (fun pre σ H' p => ?_) (fun pre q post x σ H' H2 el ei p y => ?_) (fun σ H' p => ?_)⟩
    · obtain ⟨z, y, rfl, e, _⟩ := p
      exact e.seq hx
    · obtain ⟨z, y0, rfl, e, dz⟩ := p
      obtain ⟨rfl, ex⟩ := y
      have dx := (hd.at_ ex ei).up e
      have h1 : Sz pre.sum := by
        have := hs.1 pre.length
        rw [el, List.take_left] at this
        exact this
      refine ⟨_, rfl, _, rfl, _, _, _, _, rfl, dz, dx, h1, hs.2 q (by rw [el]; simp), trivial, fun z2 H3 e3 d3 => ⟨z2, _, rfl, e.trans e3, ?_⟩⟩
      rw [sum_snoc]
      exact d3
    · obtain ⟨z, y, rfl, e, dz⟩ := p
      exact ⟨_, rfl, k z H' e dz⟩
end
end K49
namespace K49
open PySem PySem.Spec PyProof.Rows L2
def eS (s : List Int) : PyData := .tuple (s.map .int)
section
variable {P : Program} {w : World} {K : PySem.W.Frag} {mg : Str → Option Value} {base : Heap}
theorem eS_of {H : Hp} {v : V} {s : List Int} (h : De K H v (eS s)) : ∃ a, v = .ref a ∧ SqT K H a (s.map .int) := by
  obtain ⟨a, xs, rfl, hs, ha⟩ := h.tup_of
  have e := DeA.ints_of ha
  subst e
  exact ⟨a, rfl, hs⟩
theorem pow64 {n : Nat} (h : n ≤ 6) : 2 ^ n ≤ 64 := Nat.pow_le_pow_right (n := 2) (by decide) h
theorem line (n : Nat) (h : n ≤ 100000) : n ≤ sizeLine := Nat.le_trans h (by decide)
theorem line' (n : Nat) (h : n < 100000) : n < sizeLine := Nat.lt_of_lt_of_le h (by decide)
def sp_states_of (K : PySem.W.Frag) : Sp := fun vs H Q _ => ∃ n : Nat, vs = [.int n] ∧ n ≤ 6 ∧ ∀ p H', Same H H' → H p = none → Ls K H' p ((sts n).map eS) → Q (.ref p) H'
theorem ok_states_of (T : Txt K mg) : FnOk P w K mg base CX0 1 T.d_states_of.f T.d_states_of.d ["count"] (sp_states_of K) := by
  refine T.d_states_of.F.ok sc_states_of (fun vs H Q E h => ?_) (fun cdv A outer s H vs Q E hr h => ?_)
  · obtain ⟨n, rfl, _⟩ := h
    rfl
  · obtain ⟨n, rfl, hn, k⟩ := h
    refine ⟨_, (pss_cons
        (ps_set (i := 1) sc_states_of.nd rfl (.inl rfl) (pe_lst (pa_cons (pe_tup pa_nil) pa_nil)))
        (pss_cons
        (ps_for PassesOwn.never rfl (pi_range1 (by rfl) T.m_range (pa_cons (pv 0) pa_nil)) (pg_name (i := 2) sc_states_of.nd rfl (.inl rfl)) (pss_one
        (ps_setLc2 (i := 1) (own := [("state", 3), ("spin", 4)]) (vs1 := [4]) rfl sc_states_of.nd rfl rfl (sw_true rfl rfl rfl (by decide +kernel)) (pi_list (pv 1)) (blkOk_by (N := ["count", "found", "_", "state", "spin"]) (sc := defScope s_states_of) (own := [("state", 3), ("spin", 4)]) (by decide +kernel)) (by decide) (fun _ _ _ _ _ => (pg_name (i := 3) sc_states_of.nd rfl (by first | exact .inl rfl | exact .inr rfl))) (fun _ _ _ _ _ => pts_nil) (fun _ _ _ _ _ => (pi_tupK (K := K) rfl (pe_tup (pa_cons pe_int (pa_cons pe_int pa_nil))))) (fun _ _ _ _ _ => (pg_name (i := 4) sc_states_of.nd rfl (by first | exact .inl rfl | exact .inr rfl))) (fun _ _ _ _ _ => pts_nil) (fun _ _ _ _ _ => (pe_op (op_catAK (K := K) rfl) (pv 3) (pe_tup (pa_cons (pv 4) pa_nil)))))))
        (pss_one
        (ps_ret (pv 1))))), ?_⟩
    refine ⟨by show 0 ≤ sizeLine; exact Nat.zero_le _, fun t ht => ⟨by show 1 ≤ sizeLine; decide, fun f hf => ?_⟩⟩
    have d0 : De K (upd H t (.tup [])) (.ref t) (eS []) := de_new ht .nil
    refine ⟨_, rfl, n, rfl, by omega, by omega, for_range (lo := 0) (n := (n : Int).toNat) (fun i σ H' => ∃ a y1 y2 y3, σ = [some (.int n), some (.ref a), y1, y2, y3] ∧ Same H H' ∧ H a = none ∧ Ls K H' a ((sts i).map eS))
      ⟨f, none, none, none, rfl, (same_new ht).trans (same_new hf), (same_new ht).free hf, ls_new hf (.one d0)⟩ (fun i σ H' hi hp => ?_) (fun σ H' hp => ?_)⟩
    · obtain ⟨a, y1, y2, y3, rfl, s1, na, hl⟩ := hp
      obtain ⟨xs, hx, hd⟩ := hl
      have hlen : xs.length = (sts i).length := hd.len
      have hz : (sts i).length ≤ 64 := by rw [sts_len]; exact pow64 (by omega)
      refine ⟨.ref a, rfl, a, rfl, ⟨xs, hx⟩, fun D hD => ⟨fun j m G => m = (sts i).length - j ∧ j ≤ (sts i).length ∧ Same H' G ∧ ∃ ys, G D = some (.lst ys) ∧ DeA K G ys ((((sts i).take j).flatMap fun s => [s ++ [0], s ++ [1]]).map eS),
        ⟨_, rfl, Nat.zero_le _, same_new hD, [], upd_same, .nil⟩, fun j m G hW => ?_⟩⟩
      obtain ⟨rfl, hj, sG, ys, hys, dys⟩ := hW
      by_cases hlt : j < (sts i).length
      · have ej : (sts i)[j]? = some (sts i)[j] := List.getElem?_eq_getElem hlt
        have hjx : j < xs.length := by omega
        refine .inr ⟨⟨xs, xs[j], sG.seq hx, List.getElem?_eq_getElem hjx⟩, _, fun G' p => ⟨_, by omega, rfl, by omega, p⟩, fun x G' hy => ?_⟩
        obtain ⟨rfl, hy⟩ := hy
        have dx : De K G' x (eS (sts i)[j]) := (hd.at_ (hy xs (sG.seq hx)) ej).up sG
        obtain ⟨b, rfl, hb⟩ := eS_of dx
        refine ⟨rfl, (by show 2 ≤ sizeLine; decide), fun q hq => ⟨q, rfl, ⟨_, .inl (.inl upd_same)⟩, ?_⟩⟩
        have sq : Same G' (upd G' q (.tup [.int 0, .int 1])) := same_new hq
        have hlen2 : ys.length ≤ 2 * j := by
          rw [dys.len, List.length_flatMap]
          simp only [List.length_cons, List.length_nil]
          rw [List.map_const', List.sum_replicate_nat, List.length_take]
          omega
        refine ⟨fun c k G1 => k = 2 - c ∧ c ≤ 2 ∧ Same H' G1 ∧ SqT K G1 b ((sts i)[j].map .int) ∧ SqT K G1 q [.int 0, .int 1] ∧ ∃ zs, G1 D = some (.lst zs) ∧ zs.length ≤ 2 * j + c ∧ DeA K G1 zs ((((sts i).take j).flatMap (fun s => [s ++ [0], s ++ [1]]) ++ (([0, 1] : List Int).take c).map fun b => (sts i)[j] ++ [b]).map eS),
          ⟨2, rfl, by omega, sG.trans sq, sqT_xt (xt_same sq) hb, .inl (.inl upd_same), ys, sq _ _ hys, by omega, by simpa using dys.up sq⟩, fun c k G1 hV => ?_⟩
        obtain ⟨rfl, hc, sG1, hb1, hq1, zs, hzs, hzl, dzs⟩ := hV
        by_cases hc2 : c < 2
        · obtain ⟨bit, hbit⟩ : ∃ bit : Int, ([0, 1] : List Int)[c]? = some bit := ⟨_, List.getElem?_eq_getElem hc2⟩
          have hbv : ([.int 0, .int 1] : List V)[c]? = some (.int bit) := by
            have := congrArg (Option.map V.int) hbit
            rw [← List.getElem?_map] at this
            exact this
          refine .inr ⟨⟨_, _, hq1, hbv⟩, _, fun G2 p => ⟨_, by omega, rfl, by omega, p⟩, fun x G2 hy2 => ?_⟩
          obtain ⟨rfl, hy2⟩ := hy2
          have ex : x = .int bit := by
            have := hy2 _ hq1
            rw [hbv] at this
            exact (Option.some.inj this).symm
          subst ex
          refine ⟨rfl, _, rfl, _, rfl, (by show 1 ≤ sizeLine; decide), fun r hr2 => ?_⟩
          have sr : Same G2 (upd G2 r (.tup [.int bit])) := same_new hr2
          have l1 : ((sts i)[j].map V.int).length = i := by
            rw [List.length_map]
            exact (sts_mem i _ (List.getElem_mem hlt)).1
          have fin : ∀ v G3, Same G2 G3 → De K G3 v (eS ((sts i)[j] ++ [bit])) → ∃ acc, G3 D = some (.lst acc) ∧ acc.length < sizeLine ∧ Same H' (upd G3 D (.lst (acc ++ [v]))) ∧ SqT K (upd G3 D (.lst (acc ++ [v]))) b ((sts i)[j].map .int) ∧ SqT K (upd G3 D (.lst (acc ++ [v]))) q [.int 0, .int 1] ∧
              ∃ zs, (upd G3 D (.lst (acc ++ [v]))) D = some (.lst zs) ∧ zs.length ≤ 2 * j + (c + 1) ∧ DeA K (upd G3 D (.lst (acc ++ [v]))) zs ((((sts i).take j).flatMap (fun s => [s ++ [0], s ++ [1]]) ++ (([0, 1] : List Int).take (c + 1)).map fun b => (sts i)[j] ++ [b]).map eS) := by
            intro v G3 s3 dv
            have xu : Xt G3 (upd G3 D (.lst (zs ++ [v]))) := xt_upd (s3 _ _ hzs) trivial
            refine ⟨zs, s3 _ _ hzs, line' _ (by omega), same_mut (sG1.trans s3) hD, sqT_xt xu (sqT_xt (xt_same s3) hb1), sqT_xt xu (sqT_xt (xt_same s3) hq1), zs ++ [v], upd_same, by simp; omega, ?_⟩
            rw [take_of hbit, List.map_append, List.map_append, List.map_append, ← List.append_assoc, ← List.map_append]
            exact ((dzs.up s3).snoc dv).xt xu
          refine ⟨b, r, _, _, rfl, rfl, sqT_xt (xt_same sr) hb1, .inl (.inl upd_same), (by rw [l1]; exact line _ (by simp; omega)), fun e0 => ?_, fun _ z => absurd z (by simp), fun _ _ p hp => ?_⟩
          · refine fin (.ref r) _ sr ?_
            have e1 : (sts i)[j] = [] := by simpa using e0
            rw [e1]
            exact de_new hr2 (.one (.int _))
          · refine fin (.ref p) _ (sr.trans (same_new hp)) (de_new hp ?_)
            rw [List.map_append]
            exact (DeA.ints _).app (.one (.int _))
        · have ec : c = 2 := by omega
          subst ec
          refine .inl ⟨⟨_, hq1, by simp⟩, sG1, zs, hzs, ?_⟩
          rw [take_of ej, List.flatMap_append]
          exact dzs
      · have e : j = (sts i).length := by omega
        subst e
        rw [List.take_length] at dys
        exact .inl ⟨⟨xs, sG.seq hx, by omega⟩, D, _, _, _, rfl, s1.trans sG, s1.free hD, ys, .inl (.inl hys), dys⟩
    · obtain ⟨a, y1, y2, y3, rfl, s1, na, hl⟩ := hp
      refine ⟨.ref a, rfl, k a H' s1 na ?_⟩
      have e : (n : Int).toNat = n := by omega
      rw [e] at hl
      exact hl
end
end K49
namespace K49
open PySem PySem.Spec PyProof.Rows L2
def eE (es : List (Nat × Nat × Int)) : PyData := .tuple (es.map fun e => .tuple [.int e.1, .int e.2.1, .int e.2.2])
abbrev spF (f e : Addr) : List (Str × V) := [("fields", .ref f), ("edges", .ref e)]
theorem spF_f (f e : Addr) : List.lookup ("fields" : Str) (spF f e) = some (V.ref f) := rfl
theorem spF_e (f e : Addr) : List.lookup ("edges" : Str) (spF f e) = some (V.ref e) := rfl
/-- spins stand at a -/
structure SpR (K : PySem.W.Frag) (C : Addr) (H : Hp) (a : Addr) (fs : List Int) (es : List (Nat × Nat × Int)) : Prop where
  ex : ∃ dx f e, H a = some (.ins C dx (spF f e)) ∧ SqT K H f (fs.map .int) ∧ De K H (.ref e) (eE es)
section
variable {P : Program} {w : World} {K : PySem.W.Frag} {mg : Str → Option Value} {base : Heap}
theorem eE_of {H : Hp} {e : Addr} {es : List (Nat × Nat × Int)} (h : De K H (.ref e) (eE es)) : ∃ xs, SqT K H e xs ∧ DeA K H xs (es.map fun e => .tuple [.int e.1, .int e.2.1, .int e.2.2]) := by
  obtain ⟨c, xs, q1, q2, q3⟩ := h.tup_of
  cases q1
  exact ⟨xs, q2, q3⟩
theorem dec_int (a b : Int) : decide (V.int a = V.int b) = decide (a = b) := by
  by_cases h : a = b
  · subst h
    rw [decide_eq_true rfl, decide_eq_true rfl]
  · rw [decide_eq_false h, decide_eq_false fun z => h (V.int.inj z)]
theorem bls_of {H : Hp} : ∀ {bs : List Bool} {vs : List V}, DeA K H vs (bs.map .bool) → vs = bs.map .bl
  | [], _, h => by cases h; rfl
  | b :: bs, _, h => by
    cases h with
    | cons h1 h2 =>
      cases h1
      rw [bls_of h2]
      rfl
theorem SpR.xt {C a : Addr} {H H' : Hp} {fs : List Int} {es : List (Nat × Nat × Int)} (x : Xt H H') (h : SpR K C H a fs es) : SpR K C H' a fs es := by
  obtain ⟨dx, f, e, h1, h2, h3⟩ := h.ex
  exact ⟨dx, f, e, x _ _ h1 (fun z => z), sqT_xt x h2, h3.xt x⟩
theorem SpR.up {C a : Addr} {H H' : Hp} {fs : List Int} {es : List (Nat × Nat × Int)} (x : Same H H') (h : SpR K C H a fs es) : SpR K C H' a fs es := h.xt (xt_same x)
theorem at_st {st : List Int} {j : Nat} (hj : j < st.length) : atI (st.map V.int) (j : Int) = some (.int (st.getD j 0)) := atI_nat (by rw [List.getElem?_map, List.getD, List.getElem?_eq_getElem hj]; rfl)
def sp_all_states (K : PySem.W.Frag) (C : Addr) : Sp := fun vs H Q _ => ∃ (a : Addr) (fs : List Int) (es : List (Nat × Nat × Int)), vs = [.ref a] ∧ SpR K C H a fs es ∧ fs.length ≤ 6 ∧ ∀ p H', Same H H' → H p = none → Ls K H' p ((sts fs.length).map eS) → Q (.ref p) H'
theorem ok_all_states (T : Txt K mg) : FnOk P w K mg base CX0 2 T.d_all_states.f T.d_all_states.d ["spins"] (sp_all_states K T.C) := by
  refine T.d_all_states.F.ok sc_all_states (fun vs H Q E h => ?_) (fun cdv A outer s H vs Q E hr h => ?_)
  · obtain ⟨a, fs, es, rfl, _⟩ := h
    rfl
  · obtain ⟨a, fs, es, rfl, hs, hn, k⟩ := h
    refine ⟨_, (pss_one
        (ps_ret (pe_call (ok_states_of T) hr (by rfl) T.d_states_of.g T.d_states_of.F.kp T.d_states_of.b .nil pass0 (pa_cons (pe_callB call_len_seq (by rfl) T.m_len PySem.boot_len (pa_cons (pe_fld (pv 0) rfl) pa_nil)) pa_nil)))), ?_⟩
    obtain ⟨dx, f, e, h1, h2, h3⟩ := hs.ex
    refine ⟨_, rfl, a, T.C, dx, _, _, rfl, h1, T.cl, T.nF, spF_f f e, f, _, rfl, .inr h2, ?_⟩
    refine ⟨fs.length, (by rw [List.length_map]; rfl), hn, k⟩
def sp_cost (K : PySem.W.Frag) (C : Addr) : Sp := fun vs H Q _ => ∃ (a : Addr) (fs : List Int) (es : List (Nat × Nat × Int)) (u : V) (s : List Int), vs = [.ref a, u] ∧ SpR K C H a fs es ∧ De K H u (eS s) ∧ fs.length ≤ 1000 ∧ es.length ≤ 1000 ∧ (∀ e ∈ es, e.1 < s.length ∧ e.2.1 < s.length) ∧ ∀ H', Same H H' → Q (.int (costI fs es s)) H'
theorem ok_cost (T : Txt K mg) : FnOk P w K mg base CX0 1 T.d_cost.f T.d_cost.d ["spins", "state"] (sp_cost K T.C) := by
  refine T.d_cost.F.ok sc_cost (fun vs H Q E h => ?_) (fun cdv A outer s H vs Q E hr h => ?_)
  · obtain ⟨a, fs, es, u, s, rfl, _⟩ := h
    rfl
  · obtain ⟨a, fs, es, u, st, rfl, hs, hu, hn, hm, hv, k⟩ := h
    obtain ⟨b, rfl, hb⟩ := eS_of hu
    refine ⟨_, (pss_cons
        (ps_set (i := 2) sc_cost.nd rfl (.inl rfl) (pe_callB (cr_sum rfl) (by rfl) T.m_sum (by decide +kernel) (pa_cons (pe_lc (own := [("field", 3), ("spin", 4)]) rfl sc_cost.nd (RZ.pi_zipA (by rfl) T.m_zip (pa_cons (pe_fld (pv 0) rfl) (pa_cons (pv 1) pa_nil))) (blkOk_by (N := ["spins", "state", "paid", "field", "spin", "u", "v", "coupling"]) (sc := defScope s_cost) (own := [("field", 3), ("spin", 4)]) (by decide +kernel)) (fun _ _ _ _ _ => (pg_tupK (K := K) (n := 2) rfl rfl (pgs_cons (pg_name (i := 3) sc_cost.nd rfl (by first | exact .inl rfl | exact .inr rfl)) (pgs_cons (pg_name (i := 4) sc_cost.nd rfl (by first | exact .inl rfl | exact .inr rfl)) pgs_nil)))) (fun _ _ _ _ _ => (pts_one (pt_cmpR op_eq (pv 4) pe_int (nomark _)))) (fun _ _ _ _ _ => (pv 3))) pa_nil)))
        (pss_one
        (ps_ret (pe_op op_add (pv 2) (pe_callB (cr_sum rfl) (by rfl) T.m_sum (by decide +kernel) (pa_cons (pe_lc (own := [("u", 5), ("v", 6), ("coupling", 7)]) rfl sc_cost.nd (pi_tup (pe_fld (pv 0) rfl)) (blkOk_by (N := ["spins", "state", "paid", "field", "spin", "u", "v", "coupling"]) (sc := defScope s_cost) (own := [("u", 5), ("v", 6), ("coupling", 7)]) (by decide +kernel)) (fun _ _ _ _ _ => (pg_tupK (K := K) (n := 3) rfl rfl (pgs_cons (pg_name (i := 5) sc_cost.nd rfl (by first | exact .inl rfl | exact .inr rfl)) (pgs_cons (pg_name (i := 6) sc_cost.nd rfl (by first | exact .inl rfl | exact .inr rfl)) (pgs_cons (pg_name (i := 7) sc_cost.nd rfl (by first | exact .inl rfl | exact .inr rfl)) pgs_nil))))) (fun _ _ _ _ _ => (pts_one (pt_cmpR op_ne (pe_ix (ix_tupK (K := K) rfl) (pv 1) (pv 5) (fun _ _ => rfl)) (pe_ix (ix_tupK (K := K) rfl) (pv 1) (pv 6) (fun _ _ => rfl)) (nomark _)))) (fun _ _ _ _ _ => (pv 7))) pa_nil)))))), ?_⟩
    obtain ⟨dx, f, e, h1, h2, h3⟩ := hs.ex
    refine ⟨_, rfl, a, T.C, dx, _, _, rfl, h1, T.cl, T.nF, spF_f f e, _, rfl, f, b, fs.map .int, st.map .int, rfl, .inr ⟨h2, hb, fun D hD => ?_⟩⟩
    refine lc_data (K := K) (l := fs.zip st) (walk_zipT (xs := fs.map .int) (ys := st.map .int) (by simp)) .int (fun p => if p.2 = 1 then some p.1 else none) (fun G sG => ⟨sqT_xt (xt_same sG) h2, sqT_xt (xt_same sG) hb⟩) hD (line' _ (by simp; omega)) (fun i p x G G' ei sG y Ky Kn ky kn => ?_) (fun G ys sG hys hyl hd => ?_)
    · obtain ⟨t, x1, x2, rfl, ht, rfl, e1, e2⟩ := y
      have st1 : Same G (upd G t (.tup [x1, x2])) := same_new ht
      have ep : x1 = .int p.1 ∧ x2 = .int p.2 := by
        rw [List.getElem?_zip_eq_some] at ei
        simp only [List.getElem?_map, ei.1, ei.2, Option.map_some, Option.some.injEq] at e1 e2
        exact ⟨e1.symm, e2.symm⟩
      obtain ⟨rfl, rfl⟩ := ep
      refine ⟨t, _, rfl, .inl (.inl upd_same), rfl, _, _, rfl, _, _, rfl, rfl, rfl, _, rfl, rfl, _, rfl, ite2 (fun hc => ?_) (fun hc => ?_)⟩
      · have hp : p.2 = 1 := V.int.inj (of_decide_eq_true hc)
        exact ⟨_, rfl, ky _ _ p.1 (by rw [if_pos hp]) st1 (.int _)⟩
      · have hp : ¬ p.2 = 1 := fun z => hc (decide_eq_true (congrArg V.int z))
        exact kn _ (by rw [if_neg hp]) st1
    · have ey := DeA.ints_of hd
      subst ey
      refine ⟨D, _, rfl, .inl (.inl hys), ?_⟩
      -- the edges
      have hs2 := hs.up sG
      refine ⟨_, rfl, _, rfl, a, T.C, dx, _, _, rfl, sG _ _ h1, T.cl, T.nE, spF_e f e, e, rfl, ?_⟩
      obtain ⟨xs, ht, hd2⟩ := eE_of (h3.up sG)
      have hlen : xs.length = es.length := hd2.len
      refine ⟨⟨xs, ht⟩, fun D2 hD2 => ?_⟩
      refine lc_data (K := K) (l := es) (by rw [← hlen]; exact walk_tup) .int (fun e => if st.getD e.1 0 = st.getD e.2.1 0 then none else some e.2.2) (fun G2 s2 => sqT_xt (xt_same s2) ht) hD2 (line' _ (by omega)) (fun i p x G2 G3 ei s2 y Ky Kn ky kn => ?_) (fun G2 ys s2 hys2 hyl2 hd3 => ?_)
      · obtain ⟨rfl, ex⟩ := y
        have dx2 := (hd2.at_ ex ei).up s2
        obtain ⟨t, zs, rfl, q2, q3⟩ := dx2.tup_of
        have ez := DeA.ints_of (ns := [(p.1 : Int), p.2.1, p.2.2]) q3
        subst ez
        have hpv := hv p (List.mem_of_getElem? ei)
        have g : ∀ j : Nat, j < st.length → atI (st.map V.int) (j : Int) = some (.int (st.getD j 0)) := fun j hj => at_st hj
        have hb2 : SqT K _ b (st.map .int) := sqT_xt (xt_same s2) (sqT_xt (xt_same sG) hb)
        refine ⟨t, _, rfl, q2, rfl, _, _, rfl, _, _, rfl, _, _, rfl, rfl, rfl, _, rfl, _, rfl, b, _, _, _, rfl, rfl, hb2, g _ hpv.1, _, rfl, _, rfl, b, _, _, _, rfl, rfl, hb2, g _ hpv.2, rfl, _, rfl, ?_⟩
        by_cases hc : st.getD p.1 0 = st.getD p.2.1 0
        · rw [hc, decide_eq_true rfl]
          exact kn _ (by rw [if_pos hc]) (Same.refl _)
        · rw [decide_eq_false (fun z => hc (V.int.inj z))]
          exact ⟨_, rfl, ky _ _ p.2.2 (by rw [if_neg hc]) (Same.refl _) (.int _)⟩
      · have ey := DeA.ints_of hd3
        subst ey
        exact ⟨D2, _, rfl, .inl (.inl hys2), _, _, rfl, rfl, k G2 (sG.trans s2)⟩
def sp_ups (K : PySem.W.Frag) : Sp := fun vs H Q _ => ∃ (u : V) (s : List Int), vs = [u] ∧ De K H u (eS s) ∧ Q (.int s.sum) H
theorem ok_ups (T : Txt K mg) : FnOk P w K mg base CX0 1 T.d_ups.f T.d_ups.d ["state"] (sp_ups K) := by
  refine T.d_ups.F.ok sc_ups (fun vs H Q E h => ?_) (fun cdv A outer s H vs Q E hr h => ?_)
  · obtain ⟨u, s, rfl, _⟩ := h
    rfl
  · obtain ⟨u, s, rfl, hu, k⟩ := h
    obtain ⟨b, rfl, hb⟩ := eS_of hu
    refine ⟨_, (pss_one
        (ps_ret (pe_callB (cr_sumT rfl) (by rfl) T.m_sum (by decide +kernel) (pa_cons (pv 0) pa_nil)))), ?_⟩
    exact ⟨_, rfl, b, s, rfl, hb, k⟩
def sp_check_point (K : PySem.W.Frag) : Sp := fun vs H Q _ => ∃ (u v : V) (p q : Rat), vs = [u, v] ∧ De K H u (eF p) ∧ De K H v (eF q) ∧ 0 < p ∧ 0 < q ∧ Q .non H
theorem ok_check_point (T : Txt K mg) : FnOk P w K mg base CX0 1 T.d_check_point.f T.d_check_point.d ["x", "y"] (sp_check_point K) := by
  refine T.d_check_point.F.ok sc_check_point (fun vs H Q E h => ?_) (fun cdv A outer s H vs Q E hr h => ?_)
  · obtain ⟨u, v, p, q, rfl, _⟩ := h
    rfl
  · obtain ⟨u, v, p, q, rfl, hu, hv, hp, hq, k⟩ := h
    obtain ⟨a, rfl, ha⟩ := eF_of hu
    obtain ⟨b, rfl, hb⟩ := eF_of hv
    refine ⟨_, (pss_one
        (ps_if (PW.pt (pw_or (pt_cmpR op_le (pe_ix ix_tup (pv 0) pe_int (fun _ _ => rfl)) pe_int (nomark _)) (pw_or1 (pt_cmpR op_le (pe_ix ix_tup (pv 1) pe_int (fun _ _ => rfl)) pe_int (nomark _))))) (pss_one
        ps_never) pss_nil)), ?_⟩
    have h1 := num_pos' hp
    have h2 := num_pos' hq
    refine ⟨_, rfl, a, _, 0, _, rfl, rfl, ha, rfl, _, _, rfl, rfl, _, rfl, ?_⟩
    rw [decide_eq_false (by omega)]
    refine ⟨_, rfl, b, _, 0, _, rfl, rfl, hb, rfl, _, _, rfl, rfl, _, rfl, ?_⟩
    rw [decide_eq_false (by omega)]
    exact k
def sp_check_size (K : PySem.W.Frag) (C : Addr) : Sp := fun vs H Q _ => ∃ (a : Addr) (fs : List Int) (es : List (Nat × Nat × Int)) (u v : V) (p q : Rat), vs = [.ref a, u, v] ∧ SpR K C H a fs es ∧ fs.length ≤ 6 ∧ De K H u (eF p) ∧ De K H v (eF q) ∧ 0 < p ∧ 0 < q ∧ Q .non H
theorem ok_check_size (T : Txt K mg) : FnOk P w K mg base CX0 2 T.d_check_size.f T.d_check_size.d ["spins", "x", "y"] (sp_check_size K T.C) := by
  refine T.d_check_size.F.ok sc_check_size (fun vs H Q E h => ?_) (fun cdv A outer s H vs Q E hr h => ?_)
  · obtain ⟨a, fs, es, u, v, p, q, rfl, _⟩ := h
    rfl
  · obtain ⟨a, fs, es, u, v, p, q, rfl, hs, hn, hu, hv, hp, hq, k⟩ := h
    refine ⟨_, (pss_cons
        (ps_expr (pe_call (ok_check_point T) hr (by rfl) T.d_check_point.g T.d_check_point.F.kp T.d_check_point.b .nil pass0 (pa_cons (pv 1) (pa_cons (pv 2) pa_nil))))
        (pss_one
        (ps_if (pt_cmpR op_gt (pe_callB call_len_seq (by rfl) T.m_len PySem.boot_len (pa_cons (pe_fld (pv 0) rfl) pa_nil)) (pe_glob (v := .int 6) (by rfl) T.i_MOST_VERTICES_distributions.g ⟨_, rfl⟩) (nomark _)) (pss_one
        ps_never) pss_nil))), ?_⟩
    obtain ⟨dx, f, e, h1, h2, h3⟩ := hs.ex
    refine ⟨_, rfl, _, rfl, u, v, p, q, rfl, hu, hv, hp, hq, ?_⟩
    refine ⟨_, rfl, a, T.C, dx, _, _, rfl, h1, T.cl, T.nF, spF_f f e, f, _, rfl, .inr h2, _, _, rfl, rfl, _, rfl, ?_⟩
    rw [decide_eq_false (by rw [List.length_map]; omega)]
    exact k
def sp_check_no_field (K : PySem.W.Frag) (C : Addr) : Sp := fun vs H Q _ => ∃ (a : Addr) (fs : List Int) (es : List (Nat × Nat × Int)), vs = [.ref a] ∧ SpR K C H a fs es ∧ fs.length ≤ 1000 ∧ (∀ f ∈ fs, f = 0) ∧ ∀ H', Same H H' → Q .non H'
theorem ok_check_no_field (T : Txt K mg) : FnOk P w K mg base CX0 1 T.d_check_no_field.f T.d_check_no_field.d ["spins"] (sp_check_no_field K T.C) := by
  refine T.d_check_no_field.F.ok sc_check_no_field (fun vs H Q E h => ?_) (fun cdv A outer s H vs Q E hr h => ?_)
  · obtain ⟨a, fs, es, rfl, _⟩ := h
    rfl
  · obtain ⟨a, fs, es, rfl, hs, hn, h0, k⟩ := h
    refine ⟨_, (pss_one
        (ps_if (pt_val (pe_callB (cr_any rfl) (by rfl) T.m_any (by decide +kernel) (pa_cons (pe_lc (own := [("field", 1)]) rfl sc_check_no_field.nd (pi_tup (pe_fld (pv 0) rfl)) (blkOk_by (N := ["spins", "field"]) (sc := defScope s_check_no_field) (own := [("field", 1)]) (by decide +kernel)) (fun _ _ _ _ _ => (pg_name (i := 1) sc_check_no_field.nd rfl (by first | exact .inl rfl | exact .inr rfl))) (fun _ _ _ _ _ => pts_nil) (fun _ _ _ _ _ => (pe_cmpR op_ne (pv 1) pe_int (nomark _)))) pa_nil))) (pss_one
        ps_never) pss_nil)), ?_⟩
    obtain ⟨dx, f, e, h1, h2, h3⟩ := hs.ex
    refine ⟨_, rfl, a, T.C, dx, _, _, rfl, h1, T.cl, T.nF, spF_f f e, f, rfl, ⟨_, h2⟩, fun D hD => ?_⟩
    refine lc_data (K := K) (l := fs) (by rw [← List.length_map (f := V.int)]; exact walk_tup) .bool (fun f => some (decide (f ≠ 0))) (fun G sG => sqT_xt (xt_same sG) h2) hD (line' _ (by omega)) (fun i p x G G' ei sG y Ky Kn ky kn => ?_) (fun G ys sG hys hyl hd => ?_)
    · obtain ⟨rfl, ex⟩ := y
      have ex : x = .int p := by
        rw [List.getElem?_map, ei] at ex
        exact (Option.some.inj ex).symm
      subst ex
      refine ⟨rfl, _, rfl, rfl, ky _ _ _ rfl (Same.refl _) ?_⟩
      have e1 : (!decide (V.int p = V.int 0)) = decide (p ≠ 0) := by
        rw [dec_int]
        simp
      rw [e1]
      exact .bl _
    · have ey := bls_of hd
      refine ⟨D, _, rfl, .inl (.inl (by rw [hys, ey])), ?_⟩
      have e2 : ((fs.filterMap fun f => some (decide (f ≠ 0))).any id) = false := by
        rw [List.any_eq_false]
        intro b hb
        obtain ⟨f, hf, e⟩ := List.mem_filterMap.mp hb
        cases e
        simp [h0 f hf]
      rw [e2]
      exact ⟨_, rfl, k G sG⟩
def sp_check_ferro (K : PySem.W.Frag) (C : Addr) : Sp := fun vs H Q _ => ∃ (a : Addr) (fs : List Int) (es : List (Nat × Nat × Int)), vs = [.ref a] ∧ SpR K C H a fs es ∧ es.length ≤ 1000 ∧ (∀ e ∈ es, 0 ≤ e.2.2) ∧ ∀ H', Same H H' → Q .non H'
theorem ok_check_ferro (T : Txt K mg) : FnOk P w K mg base CX0 1 T.d_check_ferro.f T.d_check_ferro.d ["spins"] (sp_check_ferro K T.C) := by
  refine T.d_check_ferro.F.ok sc_check_ferro (fun vs H Q E h => ?_) (fun cdv A outer s H vs Q E hr h => ?_)
  · obtain ⟨a, fs, es, rfl, _⟩ := h
    rfl
  · obtain ⟨a, fs, es, rfl, hs, hn, h0, k⟩ := h
    refine ⟨_, (pss_one
        (ps_if (pt_val (pe_callB (cr_any rfl) (by rfl) T.m_any (by decide +kernel) (pa_cons (pe_lc (own := [("_", 1), ("coupling", 2)]) rfl sc_check_ferro.nd (pi_tup (pe_fld (pv 0) rfl)) (blkOk_by (N := ["spins", "_", "coupling"]) (sc := defScope s_check_ferro) (own := [("_", 1), ("coupling", 2)]) (by decide +kernel)) (fun _ _ _ _ _ => (pg_tupK (K := K) (n := 3) rfl rfl (pgs_cons (pg_name (i := 1) sc_check_ferro.nd rfl (by first | exact .inl rfl | exact .inr rfl)) (pgs_cons (pg_name (i := 1) sc_check_ferro.nd rfl (by first | exact .inl rfl | exact .inr rfl)) (pgs_cons (pg_name (i := 2) sc_check_ferro.nd rfl (by first | exact .inl rfl | exact .inr rfl)) pgs_nil))))) (fun _ _ _ _ _ => pts_nil) (fun _ _ _ _ _ => (pe_cmpR op_lt (pv 2) pe_int (nomark _)))) pa_nil))) (pss_one
        ps_never) pss_nil)), ?_⟩
    obtain ⟨dx, f, e, h1, h2, h3⟩ := hs.ex
    obtain ⟨xs, ht, hd2⟩ := eE_of h3
    have hlen : xs.length = es.length := hd2.len
    refine ⟨_, rfl, a, T.C, dx, _, _, rfl, h1, T.cl, T.nE, spF_e f e, e, rfl, ⟨_, ht⟩, fun D hD => ?_⟩
    refine lc_data (K := K) (l := es) (by rw [← hlen]; exact walk_tup) .bool (fun e => some (decide (e.2.2 < 0))) (fun G sG => sqT_xt (xt_same sG) ht) hD (line' _ (by omega)) (fun i p x G G' ei sG y Ky Kn ky kn => ?_) (fun G ys sG hys hyl hd => ?_)
    · obtain ⟨rfl, ex⟩ := y
      obtain ⟨t, zs, rfl, q2, q3⟩ := ((hd2.at_ ex ei).up sG).tup_of
      have ez := DeA.ints_of (ns := [(p.1 : Int), p.2.1, p.2.2]) q3
      subst ez
      exact ⟨t, _, rfl, q2, rfl, _, _, rfl, _, _, rfl, _, _, rfl, rfl, rfl, _, rfl, _, _, rfl, rfl, ky _ _ _ rfl (Same.refl _) (.bl _)⟩
    · have ey := bls_of hd
      refine ⟨D, _, rfl, .inl (.inl (by rw [hys, ey])), ?_⟩
      have e2 : ((es.filterMap fun e => some (decide (e.2.2 < 0))).any id) = false := by
        rw [List.any_eq_false]
        intro b hb
        obtain ⟨f, hf, e⟩ := List.mem_filterMap.mp hb
        cases e
        have := h0 f hf
        simp
        omega
      rw [e2]
      exact ⟨_, rfl, k G sG⟩
end
end K49
namespace K49
open PySem PySem.Spec PyProof.Rows L2
def eR (r : List (Nat × Rat)) : PyData := .tuple (r.map fun p => .tuple [.int p.1, eF p.2])
def eT (t : List (List (Nat × Rat))) : PyData := .tuple (t.map eR)
def eD (l : List Rat) : PyData := .tuple (l.map eF)
section
variable {P : Program} {w : World} {K : PySem.W.Frag} {mg : Str → Option Value} {base : Heap}
/-! ### weights -/
def sp_weights_of (K : PySem.W.Frag) (C : Addr) : Sp := fun vs H Q _ => ∃ (a : Addr) (fs : List Int) (es : List (Nat × Nat × Int)) (u v : V) (x y : Rat), vs = [.ref a, u, v] ∧ SpR K C H a fs es ∧ De K H u (eF x) ∧ De K H v (eF y) ∧ Good fs es x y ∧
  ∀ p H', Same H H' → H p = none → Ls K H' p ((wts fs es x y).map eF) → Q (.ref p) H'
theorem ok_weights_of (T : Txt K mg) : FnOk P w K mg base CX0 4 T.d_weights_of.f T.d_weights_of.d ["spins", "x", "y"] (sp_weights_of K T.C) := by
  refine T.d_weights_of.F.ok sc_weights_of (fun vs H Q E h => ?_) (fun cdv A outer s H vs Q E hr h => ?_)
  · obtain ⟨a, fs, es, u, v, x, y, rfl, _⟩ := h
    rfl
  · obtain ⟨a, fs, es, u, v, x, y, rfl, hs, hu, hv, G, k⟩ := h
    refine ⟨_, (pss_one
        (ps_ret (pe_lc (own := [("state", 3)]) rfl sc_weights_of.nd (pi_list (pe_call (ok_all_states T) (hr.mono (by decide)) (by rfl) T.d_all_states.g T.d_all_states.F.kp T.d_all_states.b .nil pass0 (pa_cons (pv 0) pa_nil))) (blkOk_by (N := ["spins", "x", "y", "state"]) (sc := defScope s_weights_of) (own := [("state", 3)]) (by decide +kernel)) (fun _ _ _ _ _ => (pg_name (i := 3) sc_weights_of.nd rfl (by first | exact .inl rfl | exact .inr rfl))) (fun _ _ _ _ _ => pts_nil) (fun _ _ _ _ _ => (pe_call (ok_multiply T) (hr.mono (by decide)) (by rfl) T.d_multiply.g T.d_multiply.F.kp T.d_multiply.b .nil pass0 (pa_cons (pe_call (ok_raised T) hr (by rfl) T.d_raised.g T.d_raised.F.kp T.d_raised.b .nil pass0 (pa_cons (pv 1) (pa_cons (pe_call (ok_cost T) (hr.mono (by decide)) (by rfl) T.d_cost.g T.d_cost.F.kp T.d_cost.b .nil pass0 (pa_cons (pv 0) (pa_cons (pv 3) pa_nil))) pa_nil))) (pa_cons (pe_call (ok_raised T) hr (by rfl) T.d_raised.g T.d_raised.F.kp T.d_raised.b .nil pass0 (pa_cons (pv 2) (pa_cons (pe_call (ok_ups T) (hr.mono (by decide)) (by rfl) T.d_ups.g T.d_ups.F.kp T.d_ups.b .nil pass0 (pa_cons (pv 3) pa_nil)) pa_nil))) pa_nil))))))), ?_⟩
    have h5 := G.n5
    refine ⟨.ref a, rfl, a, fs, es, rfl, hs, by omega, fun p H1 s1 hp hl => ⟨p, rfl, ?_⟩⟩
    obtain ⟨xs, hx, hd⟩ := hl
    have hlen : xs.length = (sts fs.length).length := hd.len
    have h32 : (sts fs.length).length ≤ 64 := by
      rw [sts_len]
      exact pow64 (by omega)
    refine ⟨⟨xs, hx⟩, fun D hD => ?_⟩
    refine lc_data (K := K) (l := sts fs.length) (by rw [← hlen]; exact walk_list) eF (fun s => some (wt fs es x y s)) (fun G2 s2 => s2.seq hx) hD (line' _ (by omega)) (fun i st z G2 G3 ei s2 yy Ky Kn ky kn => ?_) (fun G2 ys s2 hys hyl hd2 => ?_)
    · obtain ⟨rfl, ex⟩ := yy
      have dz := (hd.at_ ex ei).up s2
      have hm := List.mem_of_getElem? ei
      have hst := (sts_mem _ _ hm).1
      have sA := s1.trans s2
      refine ⟨rfl, _, rfl, _, rfl, _, rfl, a, fs, es, z, st, rfl, hs.up sA, dz, by omega, (by have := G.el; omega), (fun e he => by have := G.ed e he; omega), fun H2 e2 => ?_⟩
      refine ⟨u, x, _, rfl, hu.up (sA.trans e2), G.bx, G.c40 hm, fun z1 H3 e3 d1 => ?_⟩
      refine ⟨_, rfl, _, rfl, z, st, rfl, dz.up (e2.trans e3), ?_⟩
      refine ⟨v, y, _, rfl, hv.up ((sA.trans e2).trans e3), G.by_, G.u40 hm, fun z2 H4 e4 d2 => ?_⟩
      refine ⟨z1, z2, _, _, rfl, d1.up e4, d2, G.szx hm, G.szy hm, trivial, fun z3 H5 e5 d3 => ?_⟩
      exact ky z3 H5 _ rfl (((e2.trans e3).trans e4).trans e5) d3
    · refine k D G2 (s1.trans s2) (s1.free hD) ⟨ys, .inl (.inl hys), ?_⟩
      have e1 : ((sts fs.length).filterMap fun s => some (wt fs es x y s)) = wts fs es x y := by
        unfold wts
        rw [List.filterMap_eq_map']
      rw [← e1]
      exact hd2
/-! ### the distribution -/
def dist (l : List Rat) : List Rat := l.map fun q => q / l.sum
def sp_distribution_of (K : PySem.W.Frag) (C : Addr) : Sp := fun vs H Q _ => ∃ (a : Addr) (fs : List Int) (es : List (Nat × Nat × Int)) (u v : V) (x y : Rat), vs = [.ref a, u, v] ∧ SpR K C H a fs es ∧ De K H u (eF x) ∧ De K H v (eF y) ∧ Good fs es x y ∧
  ∀ z H', Same H H' → De K H' z (eD (dist (wts fs es x y))) → Q z H'
theorem ok_distribution_of (T : Txt K mg) : FnOk P w K mg base CX0 5 T.d_distribution_of.f T.d_distribution_of.d ["spins", "x", "y"] (sp_distribution_of K T.C) := by
  refine T.d_distribution_of.F.ok sc_distribution_of (fun vs H Q E h => ?_) (fun cdv A outer s H vs Q E hr h => ?_)
  · obtain ⟨a, fs, es, u, v, x, y, rfl, _⟩ := h
    rfl
  · obtain ⟨a, fs, es, u, v, x, y, rfl, hs, hu, hv, G, k⟩ := h
    refine ⟨_, (pss_cons
        (ps_expr (pe_call (ok_check_size T) (hr.mono (by decide)) (by rfl) T.d_check_size.g T.d_check_size.F.kp T.d_check_size.b .nil pass0 (pa_cons (pv 0) (pa_cons (pv 1) (pa_cons (pv 2) pa_nil)))))
        (pss_cons
        (ps_set (i := 3) sc_distribution_of.nd rfl (.inl rfl) (pe_call (ok_weights_of T) hr (by rfl) T.d_weights_of.g T.d_weights_of.F.kp T.d_weights_of.b .nil pass0 (pa_cons (pv 0) (pa_cons (pv 1) (pa_cons (pv 2) pa_nil)))))
        (pss_cons
        (ps_set (i := 4) sc_distribution_of.nd rfl (.inr rfl) (pe_call (ok_add_all T) (hr.mono (by decide)) (by rfl) T.d_add_all.g T.d_add_all.F.kp T.d_add_all.b .nil pass0 (pa_cons (pv 3) pa_nil)))
        (pss_one
        (ps_ret (pe_callTy call_tuple_of (by rfl) T.m_tuple (by decide +kernel) (pa_cons (pe_lc (own := [("weight", 5)]) rfl sc_distribution_of.nd (pi_list (pv 3)) (blkOk_by (N := ["spins", "x", "y", "weights", "whole", "weight"]) (sc := defScope s_distribution_of) (own := [("weight", 5)]) (by decide +kernel)) (fun _ _ _ _ _ => (pg_name (i := 5) sc_distribution_of.nd rfl (by first | exact .inl rfl | exact .inr rfl))) (fun _ _ _ _ _ => pts_nil) (fun _ _ _ _ _ => (pe_call (ok_divide T) (hr.mono (by decide)) (by rfl) T.d_divide.g T.d_divide.F.kp T.d_divide.b .nil pass0 (pa_cons (pv 5) (pa_cons (pv 4) pa_nil))))) pa_nil))))))), ?_⟩
    have h5 := G.n5
    refine ⟨_, rfl, _, rfl, _, rfl, a, fs, es, u, v, x, y, rfl, hs, by omega, hu, hv, G.x0, G.y0, ?_⟩
    refine ⟨_, rfl, _, rfl, _, rfl, a, fs, es, u, v, x, y, rfl, hs, hu, hv, G, fun p H1 s1 hp hl => ?_⟩
    refine ⟨_, rfl, p, wts fs es x y, rfl, hl, G.sums, fun z H2 s2 dz => ?_⟩
    obtain ⟨xs, hx, hd⟩ := hl.up s2
    have hlen : xs.length = (wts fs es x y).length := hd.len
    have h32 := G.len
    refine ⟨_, rfl, p, rfl, ⟨xs, hx⟩, fun D hD => ?_⟩
    refine lc_data (K := K) (l := wts fs es x y) (by rw [← hlen]; exact walk_list) eF (fun q => some (q / (wts fs es x y).sum)) (fun G2 s2 => s2.seq hx) hD (line' _ (by omega)) (fun i q c G2 G3 ei s3 yy Ky Kn ky kn => ?_) (fun G2 ys s3 hys hyl hd2 => ?_)
    · obtain ⟨rfl, ex⟩ := yy
      have dc := (hd.at_ ex ei).up s3
      have hm := List.mem_of_getElem? ei
      have hz : Sz (wts fs es x y).sum := by
        have := G.sums.1 (wts fs es x y).length
        rw [List.take_length] at this
        exact this
      exact ⟨rfl, _, rfl, _, rfl, c, z, q, _, rfl, dc, dz.up s3, G.sums.2 q hm, hz, G.tot0, fun z3 H5 e5 d3 => ky z3 H5 _ rfl e5 d3⟩
    · refine ⟨D, ys, rfl, .inl ⟨.inl (.inl hys), fun t ht => k _ _ (((s1.trans s2).trans s3).trans (same_new ht)) (de_new ht ?_)⟩⟩
      have e1 : ((wts fs es x y).filterMap fun q => some (q / (wts fs es x y).sum)) = dist (wts fs es x y) := by
        unfold dist
        rw [List.filterMap_eq_map']
      rw [← e1]
      exact hd2
end
end K49
namespace K49
open PySem PySem.Spec PyProof.Rows L2
/-! ### == of fractions and of tuples of them -/
theorem eqv_eF (p q : Rat) : PyData.eqv (eF p) (eF q) = decide (p = q) := by
  show ((p.num == q.num) && (((p.den : Int) == (q.den : Int)) && true)) = decide (p = q)
  by_cases h : p = q
  · subst h
    simp
  · rw [decide_eq_false h]
    cases h1 : (p.num == q.num) with
    | false => rfl
    | true =>
      cases h2 : ((p.den : Int) == (q.den : Int)) with
      | false => rfl
      | true => exact absurd (Rat.ext (by simpa using h1) (by have := beq_iff_eq.mp h2; omega)) h
theorem shaped_eF (q : Rat) : SeqAt.shaped (eF q) = true := rfl
theorem depth_eD : ∀ l : List Rat, PyData.depthAll (l.map eF) ≤ 1
  | [] => Nat.zero_le _
  | a :: l => by
    show max (PyData.depth (eF a)) (PyData.depthAll (l.map eF)) ≤ 1
    have := depth_eD l
    have e : PyData.depth (eF a) = 1 := rfl
    omega
theorem lay_eD : ∀ l : List Rat, PyData.canLayAll0 (l.map eF) = true
  | [] => rfl
  | a :: l => by
    show (PyData.canLay0 (eF a) && PyData.canLayAll0 (l.map eF)) = true
    rw [lay_eD l]
    rfl
theorem shaped_eD (l : List Rat) : SeqAt.shaped (eD l) = true := by
  show (PyData.canLayAll0 (l.map eF) && decide (PyData.depthAll (l.map eF) + 1 ≤ 64)) = true
  rw [lay_eD, decide_eq_true (by have := depth_eD l; omega)]
  rfl
theorem eqv_eD (l : List Rat) : PyData.eqv (eD l) (eD l) = true := by
  show PyData.eqvAll (l.map eF) (l.map eF) = true
  induction l with
  | nil => rfl
  | cons a l ih =>
    show (PyData.eqv (eF a) (eF a) && PyData.eqvAll (l.map eF) (l.map eF)) = true
    rw [ih, eqv_eF, decide_eq_true rfl]
    rfl
section
variable {P : Program} {w : World} {K : PySem.W.Frag} {mg : Str → Option Value} {base : Heap}
/-! ### a dict of chances: c tells what stands at an index, 0 where none does -/
structure DR (K : PySem.W.Frag) (H : Hp) (kvs : List (Key × V)) (N : Nat) (c : Nat → Rat) : Prop where
  ex : ∃ ks : List Nat, kvs.map (·.1) = ks.map (fun (i : Nat) => (Sum.inl (i : Int) : Key)) ∧ ks.Nodup ∧ (∀ i ∈ ks, i < N) ∧ (∀ i ∈ ks, ∃ v, valV kvs (.inl (i : Int)) = some v ∧ De K H v (eF (c i))) ∧ ∀ i : Nat, i ∉ ks → valV kvs (.inl (i : Int)) = none ∧ c i = 0
theorem nodup_len {N : Nat} {ks : List Nat} (nd : ks.Nodup) (lt : ∀ i ∈ ks, i < N) : ks.length ≤ N := by
  have h := List.Nodup.length_le_of_subset (l₂ := List.range N) nd fun i hi => List.mem_range.mpr (lt i hi)
  rw [List.length_range] at h
  exact h
theorem DR.len {H : Hp} {kvs : List (Key × V)} {N : Nat} {c : Nat → Rat} (h : DR K H kvs N c) : kvs.length ≤ N := by
  obtain ⟨ks, e, nd, lt, _⟩ := h.ex
  have := congrArg List.length e
  rw [List.length_map, List.length_map] at this
  rw [this]
  exact nodup_len nd lt
theorem DR.xt {H H' : Hp} {kvs : List (Key × V)} {N : Nat} {c : Nat → Rat} (x : Xt H H') (h : DR K H kvs N c) : DR K H' kvs N c := by
  obtain ⟨ks, e, nd, lt, h1, h2⟩ := h.ex
  exact ⟨ks, e, nd, lt, fun i hi => let ⟨v, a, b⟩ := h1 i hi; ⟨v, a, b.xt x⟩, h2⟩
theorem DR.nil {H : Hp} {N : Nat} : DR K H [] N (fun _ => 0) := by
  refine ⟨[], rfl, .nil, fun i h => ?_, fun i h => ?_, fun _ _ => ⟨rfl, rfl⟩⟩
  · cases h
  · cases h
theorem DR.get (T : Txt K mg) {H : Hp} {kvs : List (Key × V)} {N : Nat} {c : Nat → Rat} (h : DR K H kvs N c) (i : Nat) : De K H ((valV kvs (.inl (i : Int))).getD (.ref T.a_ZERO)) (eF (c i)) := by
  obtain ⟨ks, e, nd, lt, h1, h2⟩ := h.ex
  by_cases hi : i ∈ ks
  · obtain ⟨v, a, b⟩ := h1 i hi
    rw [a]
    exact b
  · obtain ⟨a, b⟩ := h2 i hi
    rw [a, b]
    exact de_zero T H
theorem keys_put {kvs : List (Key × V)} {k : Key} {v : V} : (putK kvs k v).map (·.1) = if (valV kvs k).isSome = true then kvs.map (·.1) else kvs.map (·.1) ++ [k] := by
  unfold putK
  rw [valV_any]
  cases valV kvs k with
  | none =>
    show (kvs ++ [(k, v)]).map (·.1) = kvs.map (·.1) ++ [k]
    rw [List.map_append]
    rfl
  | some u =>
    show (kvs.map fun kv => if kv.1 = k then (kv.1, v) else kv).map (·.1) = kvs.map (·.1)
    rw [List.map_map]
    apply List.map_congr_left
    intro p hp
    show (if p.1 = k then (p.1, v) else p).1 = p.1
    split <;> rfl
theorem DR.put {H : Hp} {kvs : List (Key × V)} {N : Nat} {c : Nat → Rat} (h : DR K H kvs N c) {i : Nat} {v : V} {q : Rat} (hi : i < N) (hv : De K H v (eF q)) : DR K H (putK kvs (.inl (i : Int)) v) N (fun k => if i = k then q else c k) := by
  obtain ⟨ks, e, nd, lt, h1, h2⟩ := h.ex
  have hin : (valV kvs (.inl (i : Int))).isSome = true ↔ i ∈ ks := by
    constructor
    · intro hs
      exact Classical.byContradiction fun hn => by
        rw [(h2 i hn).1] at hs
        cases hs
    · intro hj
      obtain ⟨u, a, _⟩ := h1 i hj
      rw [a]
      rfl
  have vv : ∀ j : Nat, valV (putK kvs (.inl (i : Int)) v) (.inl (j : Int)) = if i = j then some v else valV kvs (.inl (j : Int)) := fun j => by
    rw [valV_put]
    by_cases ej : i = j
    · subst ej
      rw [if_pos rfl, if_pos rfl]
    · rw [if_neg ej, if_neg fun z => ej (by have := Sum.inl.inj z; omega)]
  refine ⟨if i ∈ ks then ks else ks ++ [i], ?_, ?_, fun j hj => ?_, fun j hj => ?_, fun j hj => ?_⟩
  · rw [keys_put]
    by_cases hk : i ∈ ks
    · rw [if_pos (hin.mpr hk), if_pos hk, e]
    · rw [if_neg (fun z => hk (hin.mp z)), if_neg hk, e, List.map_append]
      rfl
  · split
    · exact nd
    · rename_i hk
      rw [List.nodup_append]
      exact ⟨nd, by simp, fun a ha b hb => by simp at hb; subst hb; exact fun z => hk (z ▸ ha)⟩
  · split at hj
    · exact lt j hj
    · rcases List.mem_append.mp hj with hj | hj
      · exact lt j hj
      · rw [List.mem_singleton.mp hj]
        exact hi
  · rw [vv]
    by_cases ej : i = j
    · subst ej
      exact ⟨v, if_pos rfl, by rw [if_pos rfl]; exact hv⟩
    · have hj2 : j ∈ ks := by
        split at hj
        · exact hj
        · rcases List.mem_append.mp hj with hj | hj
          · exact hj
          · exact absurd (List.mem_singleton.mp hj).symm ej
      obtain ⟨u, a, b⟩ := h1 j hj2
      exact ⟨u, by rw [if_neg ej]; exact a, by rw [if_neg ej]; exact b⟩
  · have hj1 : j ∉ ks := fun z => hj (by split; exact z; exact List.mem_append_left _ z)
    have ej : i ≠ j := fun z => by
      subst z
      rw [if_neg hj1] at hj
      exact hj (List.mem_append_right _ (by simp))
    rw [vv, if_neg ej, if_neg ej]
    exact h2 j hj1
def sp_table_row (K : PySem.W.Frag) : Sp := fun vs H Q _ => ∃ (d : Addr) (kvs : List (Key × V)) (N : Nat) (c : Nat → Rat), vs = [.ref d] ∧ H d = some (.dK kvs) ∧ DR K H kvs N c ∧ N ≤ 32 ∧ ∀ z H', Same H H' → De K H' z (eR (rowOf N c)) → Q z H'
theorem ok_table_row (T : Txt K mg) : FnOk P w K mg base CX0 1 T.d_table_row.f T.d_table_row.d ["chances"] (sp_table_row K) := by
  refine T.d_table_row.F.ok sc_table_row (fun vs H Q E h => ?_) (fun cdv A outer s H vs Q E hr h => ?_)
  · obtain ⟨d, kvs, N, c, rfl, _⟩ := h
    rfl
  · obtain ⟨d, kvs, N, c, rfl, hd, hr1, hN, k⟩ := h
    refine ⟨_, (pss_one
        (ps_ret (pe_callTy call_tuple_of (by rfl) T.m_tuple (by decide +kernel) (pa_cons (pe_lc (own := [("index", 1)]) rfl sc_table_row.nd (pi_list (pe_callB (call_sortedDI rfl) (by rfl) T.m_sorted (by decide +kernel) (pa_cons (pv 0) pa_nil))) (blkOk_by (N := ["chances", "index"]) (sc := defScope s_table_row) (own := [("index", 1)]) (by decide +kernel)) (fun _ _ _ _ _ => (pg_name (i := 1) sc_table_row.nd rfl (by first | exact .inl rfl | exact .inr rfl))) (fun _ _ _ _ _ => (pts_one (pt_cmpR (op_neDK (K := K) rfl hr.units) (pe_dget (hu_of hr) (pv 0) (pv 1) (fun _ _ => rfl)) (pe_glob (v := .ref T.a_ZERO) (by rfl) T.g_ZERO rfl) (nomark _)))) (fun _ _ _ _ _ => (pe_tup (pa_cons (pv 1) (pa_cons (pe_dget (hu_of hr) (pv 0) (pv 1) (fun _ _ => rfl)) pa_nil))))) pa_nil)))), ?_⟩
    obtain ⟨ks, e, nd, lt, h1, h2⟩ := hr1.ex
    have hks : ks.length ≤ N := nodup_len nd lt
    refine ⟨_, rfl, d, kvs, ks.map (fun (i : Nat) => (i : Int)), rfl, .inl hd, (by rw [e, List.map_map]; rfl), (by rw [List.length_map]; omega), fun ys p perm inc hp => ⟨p, rfl, ⟨_, .inl (.inl upd_same)⟩, fun D hD => ?_⟩⟩
    have sp : Same H (upd H p (.lst (ys.map V.int))) := same_new hp
    have hyl : ys.length = ks.length := by rw [perm.length_eq, List.length_map]
    refine lc_data (K := K) (l := ys) (by rw [← List.length_map (f := V.int)]; exact walk_list) (fun p : Nat × Rat => .tuple [.int p.1, eF p.2]) (fun z => if c z.toNat = 0 then none else some (z.toNat, c z.toNat)) (fun G s => s.seq (.inl (.inl upd_same))) hD (line' _ (by omega)) (fun i z x G G' ei sG y Ky Kn ky kn => ?_) (fun G zs sG hzs hzl hdz => ?_)
    · obtain ⟨rfl, ex⟩ := y
      have ex : x = .int z := by
        rw [List.getElem?_map, ei] at ex
        exact (Option.some.inj ex).symm
      subst ex
      obtain ⟨j, hj, ej⟩ := List.mem_map.mp (perm.mem_iff.mp (List.mem_of_getElem? ei))
      subst ej
      obtain ⟨v, e1, e2⟩ := h1 j hj
      have sA := sp.trans sG
      have get : DGet G' d (.int (j : Int)) (some v) := by
        have := DGet.k (k := Sum.inl (j : Int)) (sA _ _ hd)
        rw [e1] at this
        exact this
      have dv := e2.up sA
      have ez : ((j : Int)).toNat = j := by omega
      refine ⟨rfl, _, rfl, _, rfl, d, v, rfl, get, _, _, dv.dp, (de_zero T G').dp, shaped_eF _, shaped_eF _, _, rfl, ?_⟩
      rw [eqv_eF]
      by_cases h0 : c j = 0
      · rw [decide_eq_true h0]
        exact kn _ (by rw [ez, if_pos h0]) (Same.refl _)
      · rw [decide_eq_false h0]
        refine ⟨_, rfl, _, rfl, _, rfl, d, v, rfl, get, (by show 2 ≤ sizeLine; decide), fun t ht => ky _ _ (j, c j) (by rw [ez, if_neg h0]) (same_new ht) (de_new ht (.two (.int _) dv))⟩
    · refine ⟨D, zs, rfl, .inl ⟨.inl (.inl hzs), fun t ht => k _ _ ((sp.trans sG).trans (same_new ht)) (de_new ht ?_)⟩⟩
      rw [row_of_keys nd lt (fun i _ h => (h2 i h).2) perm inc] at hdz
      exact hdz
end
end K49
namespace K49
open PySem PySem.Spec PyProof.Rows L2
section
variable {P : Program} {w : World} {K : PySem.W.Frag} {mg : Str → Option Value} {base : Heap}
theorem ixN_nat {n j : Nat} (h : j < n) : ixN n (j : Int) = some j := by
  unfold ixN
  rw [if_pos (by omega), if_pos (by omega)]
  simp
theorem eD_of {H : Hp} {v : V} {l : List Rat} (h : De K H v (eD l)) : ∃ a xs, v = .ref a ∧ SqT K H a xs ∧ DeA K H xs (l.map eF) := h.tup_of
theorem eT_of {H : Hp} {v : V} {t : List (List (Nat × Rat))} (h : De K H v (eT t)) : ∃ a xs, v = .ref a ∧ SqT K H a xs ∧ DeA K H xs (t.map eR) := h.tup_of
theorem eR_of {H : Hp} {v : V} {r : List (Nat × Rat)} (h : De K H v (eR r)) : ∃ a xs, v = .ref a ∧ SqT K H a xs ∧ DeA K H xs (r.map fun p => .tuple [.int p.1, eF p.2]) := h.tup_of
theorem pair_of {H : Hp} {v : V} {i : Int} {d : PyData} (h : De K H v (.tuple [.int i, d])) : ∃ t z, v = .ref t ∧ SqT K H t [.int i, z] ∧ De K H z d := by
  obtain ⟨t, xs, rfl, hs, ha⟩ := h.tup_of
  cases ha with
  | cons h1 h2 =>
    cases h2 with
    | cons h3 h4 =>
      cases h4
      cases h1
      exact ⟨t, _, rfl, hs, h3⟩
def sp_after (K : PySem.W.Frag) : Sp := fun vs H Q _ => ∃ (u t : V) (N : Nat) (e : Nat → Rat) (R : Nat → Nat → Rat), vs = [u, t] ∧ De K H u (eD ((List.range N).map e)) ∧ De K H t (eT (tab N R)) ∧ FlOk N e R ∧
  ∀ z H', Same H H' → De K H' z (eD ((List.range N).map fun k => acc k (flow N e R (List.range N)))) → Q z H'
theorem ok_after (T : Txt K mg) : FnOk P w K mg base CX0 3 T.d_after.f T.d_after.d ["entries", "table"] (sp_after K) := by
  refine T.d_after.F.ok sc_after (fun vs H Q E h => ?_) (fun cdv A outer s H vs Q E hr h => ?_)
  · obtain ⟨u, t, N, e, R, rfl, _⟩ := h
    rfl
  · obtain ⟨u, t, N, e, R, rfl, hu, ht, F, k⟩ := h
    refine ⟨_, (pss_cons
        (ps_set (i := 2) sc_after.nd rfl (.inl rfl) (pe_op op_rep (pe_lst (pa_cons (pe_glob (v := .ref T.a_ZERO) (by rfl) T.g_ZERO rfl) pa_nil)) (pe_callB call_len_seq (by rfl) T.m_len PySem.boot_len (pa_cons (pv 0) pa_nil))))
        (pss_cons
        (ps_for PassesOwn.never rfl (RZ.pi_zipA (by rfl) T.m_zip (pa_cons (pv 0) (pa_cons (pv 1) pa_nil))) (pg_tup rfl (pgs_cons (pg_name (i := 3) sc_after.nd rfl (.inl rfl)) (pgs_cons (pg_name (i := 4) sc_after.nd rfl (.inl rfl)) pgs_nil))) (pss_one
        (ps_for PassesOwn.never rfl (pi_tup (pv 4)) (pg_tup rfl (pgs_cons (pg_name (i := 5) sc_after.nd rfl (.inl rfl)) (pgs_cons (pg_name (i := 6) sc_after.nd rfl (.inl rfl)) pgs_nil))) (pss_one
        (ps_asg (pe_call (ok_add T) hr (by rfl) T.d_add.g T.d_add.F.kp T.d_add.b .nil pass0 (pa_cons (pe_ix ix_list (pv 2) (pv 5) (fun _ _ => rfl)) (pa_cons (pe_call (ok_multiply T) hr (by rfl) T.d_multiply.g T.d_multiply.F.kp T.d_multiply.b .nil pass0 (pa_cons (pv 3) (pa_cons (pv 6) pa_nil))) pa_nil))) (pg_sub (pv 2) (pv 5) set_list))))))
        (pss_one
        (ps_ret (pe_callTy call_tuple_of (by rfl) T.m_tuple (by decide +kernel) (pa_cons (pv 2) pa_nil)))))), ?_⟩
    obtain ⟨ua, us, rfl, hus, dus⟩ := eD_of hu
    obtain ⟨ta, ts, rfl, hts, dts⟩ := eT_of ht
    have lu : us.length = N := by rw [dus.len, List.length_map, List.length_range]
    have lt : ts.length = N := by rw [dts.len]; unfold tab; rw [List.length_map, List.length_range]
    have hN := F.n
    refine ⟨by show 1 ≤ sizeLine; decide, fun f0 hf0 => ⟨_, rfl, ua, us, rfl, .inr (sqT_xt (xt_same (same_new hf0)) hus), f0, _, _, rfl, rfl, upd_same, by omega, by omega, (by rw [List.length_singleton]; exact line _ (by omega)), fun f hf => ?_⟩⟩
    have s0 : Same H (upd (upd H f0 (.lst [.ref T.a_ZERO])) f (.lst (List.replicate ((us.length : Int)).toNat [V.ref T.a_ZERO]).flatten)) := (same_new hf0).trans (same_new hf)
    have nf : H f = none := (same_new hf0).free hf
    have e0 : (List.replicate ((us.length : Int)).toNat [V.ref T.a_ZERO]).flatten = List.replicate N (V.ref T.a_ZERO) := by
      rw [List.flatten_replicate_singleton]
      congr 1
    have z0 : List.replicate N (eF 0) = ((List.range N).map fun k => acc k (flow N e R [])).map eF := by
      rw [List.map_map]
      apply List.ext_getElem?
      intro j
      rw [List.getElem?_replicate, List.getElem?_map]
      by_cases hj : j < N
      · rw [if_pos hj, List.getElem?_range hj]
        rfl
      · have : (List.range N)[j]? = none := List.getElem?_eq_none (by rw [List.length_range]; omega)
        rw [if_neg hj, this]
        rfl
    refine ⟨_, rfl, _, rfl, ua, ta, us, ts, rfl, .inr ⟨sqT_xt (xt_same s0) hus, sqT_xt (xt_same s0) hts, ?_⟩⟩
    refine for_data (l := List.range N) (by rw [List.length_range]; exact walk_zipT (K := K) (xs := us) (ys := ts) (by omega)) (fun pre σ H' => ∃ y3 y4 y5 y6 ys, σ = [some (.ref ua), some (.ref ta), some (.ref f), y3, y4, y5, y6] ∧ Same H H' ∧ H' f = some (.lst ys) ∧ DeA K H' ys (((List.range N).map fun k => acc k (flow N e R pre)).map eF))
      ⟨none, none, none, none, _, rfl, s0, upd_same, by rw [e0, ← z0]; exact DeA.rep (de_zero T _) N⟩ (fun pre σ H' p => ?_) (fun pre i post x σ H' H2 el ei p y => ?_) (fun σ H' p => ?_)
    · obtain ⟨y3, y4, y5, y6, ys, rfl, s1, hys, dys⟩ := p
      exact ⟨sqT_xt (xt_same s1) hus, sqT_xt (xt_same s1) hts⟩
    · obtain ⟨y3, y4, y5, y6, ys, rfl, s1, hys, dys⟩ := p
      obtain ⟨hip, hiN, hpre, hpl⟩ := range_split el
      obtain ⟨t, x1, x2, rfl, ht, rfl, ex1, ex2⟩ := y
      have st : Same H' (upd H' t (.tup [x1, x2])) := same_new ht
      have d1 : De K H' x1 (eF (e i)) := (dus.at_ (l := (List.range N).map e) ex1 (by rw [← hip, List.getElem?_map, List.getElem?_range hiN]; rfl)).up s1
      have d2 : De K H' x2 (eR (rowOf N (R i))) := (dts.at_ (l := tab N R) ex2 (by unfold tab; rw [← hip, List.getElem?_map, List.getElem?_range hiN]; rfl)).up s1
      obtain ⟨ra, rs, rfl, hrs, drs⟩ := eR_of d2
      have lr : rs.length = (rowOf N (R i)).length := drs.len
      refine ⟨t, _, rfl, .inl (.inl upd_same), rfl, _, _, rfl, _, _, rfl, rfl, ?_⟩
      refine ⟨_, rfl, ra, rfl, ⟨rs, sqT_xt (xt_same st) hrs⟩, ?_⟩
      refine for_data (l := rowOf N (R i)) (by rw [← lr]; exact walk_tup (K := K) (xs := rs)) (fun pr σ H3 => ∃ y5 y6 ys, σ = [some (.ref ua), some (.ref ta), some (.ref f), some x1, some (.ref ra), y5, y6] ∧ Same H H3 ∧ Xt H' H3 ∧ H3 f = some (.lst ys) ∧ DeA K H3 ys (((List.range N).map fun k => acc k (flow N e R pre ++ pr.map fun p => (p.1, e i * p.2))).map eF))
        ⟨y5, y6, ys, rfl, s1.trans st, xt_same st, st _ _ hys, by simpa using dys.up st⟩ (fun pr σ H3 p => ?_) (fun pr q po x σ H3 H4 el2 ei2 p y => ?_) (fun σ H3 p => ?_)
      · obtain ⟨y5, y6, ys, rfl, s3, x3, hys, dys⟩ := p
        exact sqT_xt x3 hrs
      · obtain ⟨y5, y6, ys, rfl, s3, x3, hys, dys⟩ := p
        obtain ⟨rfl, ex⟩ := y
        obtain ⟨tt, z, rfl, htt, dz⟩ := pair_of ((drs.at_ ex ei2).xt x3)
        have hq : q ∈ rowOf N (R i) := List.mem_of_getElem? ei2
        obtain ⟨hq1, hq2, hq3⟩ := mem_row.mp hq
        have lys : ys.length = N := by rw [dys.len, List.length_map, List.length_range]
        have hpr : ∀ p ∈ pr, p ∈ rowOf N (R i) := fun p hp => by rw [el2]; exact List.mem_append_left _ hp
        have hprl : pr.length ≤ N := by
          have h1 := row_len N (R i)
          have h2 := congrArg List.length el2
          rw [List.length_append] at h2
          omega
        have sacc := F.sa q.1 hpre hpl hiN hpr hprl
        have hnow : (((List.range N).map fun k => acc k (flow N e R pre ++ pr.map fun p => (p.1, e i * p.2))).map eF)[q.1]? = some (eF (acc q.1 (flow N e R pre ++ pr.map fun p => (p.1, e i * p.2)))) := by
          rw [List.getElem?_map, List.getElem?_map, List.getElem?_range hq1]
          rfl
        obtain ⟨v, ev, dv⟩ := dys.get hnow
        refine ⟨tt, _, rfl, htt, rfl, _, _, rfl, _, _, rfl, rfl, ?_⟩
        have dd1 : De K _ x1 (eF (e i)) := d1.xt x3
        have szq : Sz q.2 := by rw [hq3]; exact F.sp i q.1 hiN hq1
        have szp : Sz (e i * q.2) := by rw [hq3]; exact F.st hiN hq1
        refine ⟨_, rfl, _, rfl, f, ys, _, v, rfl, rfl, .inl (.inl hys), atI_nat ev, _, rfl, _, rfl, x1, z, e i, q.2, rfl, dd1, dz, F.se i hiN, szq, trivial, fun z1 H5 e5 dz1 => ?_⟩
        refine ⟨v, z1, _, _, rfl, dv.up e5, dz1, sacc, szp, trivial, fun z2 H6 e6 dz2 => ?_⟩
        have hys6 := e6 _ _ (e5 _ _ hys)
        refine ⟨_, rfl, _, rfl, f, ys, q.1, q.1, rfl, rfl, hys6, (by rw [lys]; exact ixN_nat hq1), ?_⟩
        have xu : Xt H6 (upd H6 f (.lst (ys.set q.1 z2))) := xt_upd hys6 trivial
        refine ⟨_, _, _, rfl, same_mut ((s3.trans e5).trans e6) nf, (x3.trans (xt_same (e5.trans e6))).trans xu, upd_same, ?_⟩
        have ed : (((List.range N).map fun k => acc k (flow N e R pre ++ (pr ++ [q]).map fun p => (p.1, e i * p.2))).map eF) = (((List.range N).map fun k => acc k (flow N e R pre ++ pr.map fun p => (p.1, e i * p.2))).map eF).set q.1 (eF (acc q.1 (flow N e R pre ++ pr.map fun p => (p.1, e i * p.2)) + e i * q.2)) := by
          rw [← List.map_set, range_set]
          congr 1
          apply List.map_congr_left
          intro k _
          rw [List.map_append, ← List.append_assoc, List.map_singleton, acc_snoc]
          by_cases hk : q.1 = k
          · subst hk
            rfl
          · rw [if_neg hk, if_neg hk]
        rw [ed]
        exact (((dys.up e5).up e6).set dz2).xt xu
      · obtain ⟨y5, y6, ys, rfl, s3, x3, hys, dys⟩ := p
        refine ⟨_, _, _, _, ys, rfl, s3, hys, ?_⟩
        rw [flow_snoc]
        exact dys
    · obtain ⟨y3, y4, y5, y6, ys, rfl, s1, hys, dys⟩ := p
      exact ⟨_, rfl, f, ys, rfl, .inl ⟨.inl (.inl hys), fun r hr2 => k _ _ (s1.trans (same_new hr2)) (de_new hr2 dys)⟩⟩
def sp_keeps (K : PySem.W.Frag) : Sp := fun vs H Q _ => ∃ (u t : V) (N : Nat) (e : Nat → Rat) (R : Nat → Nat → Rat), vs = [u, t] ∧ De K H u (eD ((List.range N).map e)) ∧ De K H t (eT (tab N R)) ∧ FlOk N e R ∧
  (∀ k, k < N → acc k (flow N e R (List.range N)) = e k) ∧ ∀ H', Same H H' → Q (.bl true) H'
theorem ok_keeps (T : Txt K mg) : FnOk P w K mg base CX0 4 T.d_keeps.f T.d_keeps.d ["entries", "table"] (sp_keeps K) := by
  refine T.d_keeps.F.ok sc_keeps (fun vs H Q E h => ?_) (fun cdv A outer s H vs Q E hr h => ?_)
  · obtain ⟨u, t, N, e, R, rfl, _⟩ := h
    rfl
  · obtain ⟨u, t, N, e, R, rfl, hu, ht, F, hk, k⟩ := h
    refine ⟨_, (pss_one
        (ps_ret (pe_cmpR (op_eqD hr.units) (pe_call (ok_after T) hr (by rfl) T.d_after.g T.d_after.F.kp T.d_after.b .nil pass0 (pa_cons (pv 0) (pa_cons (pv 1) pa_nil))) (pe_callTy call_tuple_of (by rfl) T.m_tuple (by decide +kernel) (pa_cons (pv 0) pa_nil)) (nomark _)))), ?_⟩
    obtain ⟨ua, us, rfl, hus, dus⟩ := eD_of hu
    refine ⟨_, rfl, _, rfl, .ref ua, t, N, e, R, rfl, hu, ht, F, fun z H1 s1 dz => ?_⟩
    have ee : ((List.range N).map fun k => acc k (flow N e R (List.range N))) = (List.range N).map e := List.map_congr_left fun j hj => hk j (List.mem_range.mp hj)
    rw [ee] at dz
    refine ⟨_, rfl, ua, us, rfl, .inr ⟨sqT_xt (xt_same s1) hus, ?_⟩⟩
    refine ⟨_, _, dz.dp, (hu.up s1).dp, shaped_eD _, shaped_eD _, ?_⟩
    rw [eqv_eD]
    exact k H1 s1
end
end K49
namespace K49
open PySem PySem.Spec PyProof.Rows L2
section
variable {P : Program} {w : World} {K : PySem.W.Frag} {mg : Str → Option Value} {base : Heap}
theorem dr_acc {H : Hp} {kvs : List (Key × V)} {N : Nat} {l : List (Nat × Rat)} {i : Nat} {q : Rat} {v : V} (h : DR K H kvs N fun k => acc k l) (hi : i < N) (hv : De K H v (eF (acc i l + q))) : DR K H (putK kvs (.inl (i : Int)) v) N fun k => acc k (l ++ [(i, q)]) := by
  have e : (fun k => acc k (l ++ [(i, q)])) = fun k => if i = k then acc i l + q else acc k l := by
    funext k
    rw [acc_snoc]
    by_cases hk : i = k
    · subst hk
      rfl
    · rw [if_neg hk, if_neg hk]
  rw [e]
  exact h.put hi hv
def sp_followed (K : PySem.W.Frag) : Sp := fun vs H Q _ => ∃ (u t : V) (N : Nat) (A B : Nat → Nat → Rat), vs = [u, t] ∧ De K H u (eT (tab N A)) ∧ De K H t (eT (tab N B)) ∧ (∀ i, i < N → FlOk N (A i) B) ∧ N ≤ 32 ∧
  ∀ z H', Same H H' → De K H' z (eT (tab N (comp N A B))) → Q z H'
/-- the flow over the rest of a row that is there -/
theorem flow_row (N : Nat) (e : Nat → Rat) (B : Nat → Nat → Rat) (k : Nat) : ∀ is : List Nat, acc k ((is.filterMap fun i => if e i = 0 then none else some (i, e i)).flatMap fun p => (rowOf N (B p.1)).map fun q => (q.1, p.2 * q.2)) = acc k (flow N e B is)
  | [] => rfl
  | i :: is => by
    have ih := flow_row N e B k is
    rw [List.filterMap_cons]
    have e2 : flow N e B (i :: is) = ((rowOf N (B i)).map fun p => (p.1, e i * p.2)) ++ flow N e B is := rfl
    rw [e2, acc_append]
    by_cases h : e i = 0
    · simp only [if_pos h]
      rw [ih, acc_map (α := Nat), h, Rat.zero_mul, Rat.zero_add]
    · simp only [if_neg h]
      rw [List.flatMap_cons, acc_append, ih]
/-- the flow over the row itself -/
def flowR (N : Nat) (B : Nat → Nat → Rat) (r : List (Nat × Rat)) : List (Nat × Rat) := r.flatMap fun p => (rowOf N (B p.1)).map fun q => (q.1, p.2 * q.2)
theorem flowR_snoc (N : Nat) (B : Nat → Nat → Rat) (r : List (Nat × Rat)) (p : Nat × Rat) : flowR N B (r ++ [p]) = flowR N B r ++ (rowOf N (B p.1)).map fun q => (q.1, p.2 * q.2) := by
  unfold flowR
  rw [List.flatMap_append, List.flatMap_singleton]
theorem flowR_row (N : Nat) (e : Nat → Rat) (B : Nat → Nat → Rat) (k : Nat) : acc k (flowR N B (rowOf N e)) = acc k (flow N e B (List.range N)) := flow_row N e B k (List.range N)
theorem flowR_len (N : Nat) (B : Nat → Nat → Rat) (r : List (Nat × Rat)) : (flowR N B r).length ≤ r.length * N := by
  unfold flowR
  induction r with
  | nil => simp
  | cons a l ih =>
    rw [List.flatMap_cons, List.length_append, List.length_map, List.length_cons, Nat.succ_mul]
    have := row_len N (B a.1)
    omega
theorem flowR_sz {N : Nat} {e : Nat → Rat} {B : Nat → Nat → Rat} (F : FlOk N e B) {r s : List (Nat × Rat)} {p : Nat × Rat} (k : Nat) (hr : ∀ q ∈ r, q ∈ rowOf N e) (hp : p ∈ rowOf N e) (hs : ∀ q ∈ s, q ∈ rowOf N (B p.1)) (lr : r.length ≤ N) (ls : s.length ≤ N) :
    Sz (acc k (flowR N B r ++ s.map fun q => (q.1, p.2 * q.2))) := by
  obtain ⟨D, h0, h1, h2⟩ := F.tm
  have one : ∀ p q, p ∈ rowOf N e → q ∈ rowOf N (B p.1) → Tm D (p.2 * q.2) := fun p q hp hq => by
    obtain ⟨a1, _, a3⟩ := mem_row.mp hp
    obtain ⟨b1, _, b3⟩ := mem_row.mp hq
    rw [a3, b3]
    exact h2 p.1 q.1 a1 b1
  refine acc_sz (D := D) k (fun t ht => ?_) ?_ h0 h1
  · rcases List.mem_append.mp ht with ht | ht
    · obtain ⟨p', hp', ht⟩ := List.mem_flatMap.mp ht
      obtain ⟨q, hq, rfl⟩ := List.mem_map.mp ht
      exact one p' q (hr p' hp') hq
    · obtain ⟨q, hq, rfl⟩ := List.mem_map.mp ht
      exact one p q hp (hs q hq)
  · rw [List.length_append, List.length_map]
    have h3 := flowR_len N B r
    have hn := F.n
    have : r.length * N ≤ 32 * 32 := Nat.mul_le_mul (by omega) hn
    omega
theorem ok_followed (T : Txt K mg) : FnOk P w K mg base CX0 3 T.d_followed.f T.d_followed.d ["first", "second"] (sp_followed K) := by
  refine T.d_followed.F.ok sc_followed (fun vs H Q E h => ?_) (fun cdv A outer s H vs Q E hr h => ?_)
  · obtain ⟨u, t, N, A, B, rfl, _⟩ := h
    rfl
  · obtain ⟨u, t, N, A, B, rfl, hu, ht, F, hN, k⟩ := h
    refine ⟨_, (pss_cons
        (ps_set (i := 2) sc_followed.nd rfl (.inl rfl) (pe_lst pa_nil))
        (pss_cons
        (ps_for PassesOwn.never rfl (pi_tup (pv 0)) (pg_name (i := 3) sc_followed.nd rfl (.inl rfl)) (pss_cons
        (ps_set (i := 4) sc_followed.nd rfl (.inl rfl) pe_dnewK)
        (pss_cons
        (ps_for PassesOwn.never rfl (pi_tup (pv 3)) (pg_tup rfl (pgs_cons (pg_name (i := 5) sc_followed.nd rfl (.inl rfl)) (pgs_cons (pg_name (i := 6) sc_followed.nd rfl (.inl rfl)) pgs_nil))) (pss_one
        (ps_for PassesOwn.never rfl (pi_tup (pe_ix ix_tup (pv 1) (pv 5) (fun _ _ => rfl))) (pg_tup rfl (pgs_cons (pg_name (i := 7) sc_followed.nd rfl (.inl rfl)) (pgs_cons (pg_name (i := 8) sc_followed.nd rfl (.inl rfl)) pgs_nil))) (pss_one
        (ps_dput (hu_of hr) (pv 4) (pv 7) (pe_call (ok_add T) hr (by rfl) T.d_add.g T.d_add.F.kp T.d_add.b .nil pass0 (pa_cons (pe_dget2 (hu_of hr) (pv 4) (pv 7) (pe_glob (v := .ref T.a_ZERO) (by rfl) T.g_ZERO rfl) ⟨rfl, rfl, rfl, rfl⟩) (pa_cons (pe_call (ok_multiply T) hr (by rfl) T.d_multiply.g T.d_multiply.F.kp T.d_multiply.b .nil pass0 (pa_cons (pv 6) (pa_cons (pv 8) pa_nil))) pa_nil))) rfl)))))
        (pss_one
        (ps_expr (pe_bm PySem.F.plainAttrs_list PySem.F.slot_list_append PySem.F.type_list_append mt_append (pv 2) (pa_cons (pe_call (ok_table_row T) (hr.mono (by decide)) (by rfl) T.d_table_row.g T.d_table_row.F.kp T.d_table_row.b .nil pass0 (pa_cons (pv 4) pa_nil)) pa_nil)))))))
        (pss_one
        (ps_ret (pe_callTy call_tuple_of (by rfl) T.m_tuple (by decide +kernel) (pa_cons (pv 2) pa_nil)))))), ?_⟩
    obtain ⟨ua, us, rfl, hus, dus⟩ := eT_of hu
    obtain ⟨ta, ts, rfl, hts, dts⟩ := eT_of ht
    have lu : us.length = N := by rw [dus.len]; unfold tab; rw [List.length_map, List.length_range]
    refine ⟨by show 0 ≤ sizeLine; exact Nat.zero_le _, fun f hf => ?_⟩
    have s0 : Same H (upd H f (.lst [])) := same_new hf
    refine ⟨_, rfl, ua, rfl, ⟨us, sqT_xt (xt_same s0) hus⟩, ?_⟩
    refine for_data (l := List.range N) (by rw [List.length_range, ← lu]; exact walk_tup (K := K) (xs := us)) (fun pre σ H' => ∃ y3 y4 y5 y6 y7 y8 ys, σ = [some (.ref ua), some (.ref ta), some (.ref f), y3, y4, y5, y6, y7, y8] ∧ Same H H' ∧ H' f = some (.lst ys) ∧ ys.length ≤ pre.length ∧ DeA K H' ys ((pre.map fun i => rowOf N (comp N A B i)).map eR))
      ⟨none, none, none, none, none, none, [], rfl, s0, upd_same, Nat.le_refl _, .nil⟩ (fun pre σ H' p => ?_) (fun pre i post x σ H' H2 el ei p y => ?_) (fun σ H' p => ?_)
    · obtain ⟨y3, y4, y5, y6, y7, y8, ys, rfl, s1, _⟩ := p
      exact sqT_xt (xt_same s1) hus
    · obtain ⟨y3, y4, y5, y6, y7, y8, ys, rfl, s1, hys, lys, dys⟩ := p
      obtain ⟨hip, hiN, hpre, hpl⟩ := range_split el
      obtain ⟨rfl, ex⟩ := y
      have d2 : De K H2 x (eR (rowOf N (A i))) := (dus.at_ (l := tab N A) ex (by unfold tab; rw [← hip, List.getElem?_map, List.getElem?_range hiN]; rfl)).up s1
      obtain ⟨ra, rs, rfl, hrs, drs⟩ := eR_of d2
      have lr : rs.length = (rowOf N (A i)).length := drs.len
      have Fi := F i hiN
      intro d hd
      have sd : Same H2 (upd H2 d (.dK [])) := same_new hd
      have nd : H d = none := s1.free hd
      have ndf : f ≠ d := ne_of_none hys hd
      refine ⟨_, rfl, ra, rfl, ⟨rs, sqT_xt (xt_same sd) hrs⟩, ?_⟩
      -- the middles
      refine for_data (l := rowOf N (A i)) (by rw [← lr]; exact walk_tup (K := K) (xs := rs)) (fun pr σ H3 => ∃ y5 y6 y7 y8 kvs, σ = [some (.ref ua), some (.ref ta), some (.ref f), some (.ref ra), some (.ref d), y5, y6, y7, y8] ∧ Same H H3 ∧ Xt H2 H3 ∧ H3 f = some (.lst ys) ∧ H3 d = some (.dK kvs) ∧ DR K H3 kvs N fun k => acc k (flowR N B pr))
        ⟨_, _, _, _, [], rfl, s1.trans sd, xt_same sd, sd _ _ hys, upd_same, DR.nil⟩ (fun pr σ H3 p => ?_) (fun pr q po x σ H3 H4 el2 ei2 p y => ?_) (fun σ H3 p => ?_)
      · obtain ⟨y5, y6, y7, y8, kvs, rfl, s3, x3, _⟩ := p
        exact sqT_xt x3 hrs
      · obtain ⟨y5, y6, y7, y8, kvs, rfl, s3, x3, hf3, hd3, dr3⟩ := p
        obtain ⟨rfl, ex⟩ := y
        obtain ⟨tt, z, rfl, htt, dz⟩ := pair_of ((drs.at_ ex ei2).xt x3)
        have hq : q ∈ rowOf N (A i) := List.mem_of_getElem? ei2
        obtain ⟨hq1, hq2, hq3⟩ := mem_row.mp hq
        have hpr : ∀ p ∈ pr, p ∈ rowOf N (A i) := fun p hp => by rw [el2]; exact List.mem_append_left _ hp
        have hprl : pr.length ≤ N := by
          have h1 := row_len N (A i)
          have h2 := congrArg List.length el2
          rw [List.length_append] at h2
          omega
        have etq : (tab N B).map eR = (tab N B).map eR := rfl
        obtain ⟨tv, etv, dtv⟩ := dts.get (i := q.1) (d := eR (rowOf N (B q.1))) (by unfold tab; rw [List.getElem?_map, List.getElem?_map, List.getElem?_range hq1]; rfl)
        obtain ⟨ba, bs, rfl, hbs, dbs⟩ := eR_of dtv
        have lb : bs.length = (rowOf N (B q.1)).length := dbs.len
        refine ⟨tt, _, rfl, htt, rfl, _, _, rfl, _, _, rfl, rfl, ?_⟩
        have s3b : SqT K H4 ba bs := sqT_xt (xt_same s3) hbs
        refine ⟨_, rfl, _, rfl, ta, ts, q.1, _, rfl, rfl, sqT_xt (xt_same s3) hts, atI_nat etv, ba, rfl, ⟨bs, s3b⟩, ?_⟩
        -- the ends
        refine for_data (l := rowOf N (B q.1)) (by rw [← lb]; exact walk_tup (K := K) (xs := bs)) (fun ps σ H5 => ∃ y7 y8 kvs, σ = [some (.ref ua), some (.ref ta), some (.ref f), some (.ref ra), some (.ref d), some (.int q.1), some z, y7, y8] ∧ Same H H5 ∧ Xt H2 H5 ∧ Xt H4 H5 ∧ H5 f = some (.lst ys) ∧ H5 d = some (.dK kvs) ∧ DR K H5 kvs N fun k => acc k (flowR N B pr ++ ps.map fun r => (r.1, q.2 * r.2)))
          ⟨_, _, kvs, rfl, s3, x3, Xt.refl _, hf3, hd3, by simpa using dr3⟩ (fun ps σ H5 p => ?_) (fun ps r pt x σ H5 H6 el3 ei3 p y => ?_) (fun σ H5 p => ?_)
        · obtain ⟨y7, y8, kvs, rfl, s5, x5, x45, _⟩ := p
          exact sqT_xt x45 s3b
        · obtain ⟨y7, y8, kvs, rfl, s5, x5, x45, hf5, hd5, dr5⟩ := p
          obtain ⟨rfl, ex⟩ := y
          obtain ⟨t3, z3, rfl, ht3, dz3⟩ := pair_of ((dbs.at_ ex ei3).up s5)
          have hr3 : r ∈ rowOf N (B q.1) := List.mem_of_getElem? ei3
          obtain ⟨hr1, hr2, hr4⟩ := mem_row.mp hr3
          have hps : ∀ p ∈ ps, p ∈ rowOf N (B q.1) := fun p hp => by rw [el3]; exact List.mem_append_left _ hp
          have hpsl : ps.length ≤ N := by
            have h1 := row_len N (B q.1)
            have h2 := congrArg List.length el3
            rw [List.length_append] at h2
            omega
          have sacc := flowR_sz Fi r.1 hpr hq hps hprl hpsl
          have dq : De K H6 z (eF q.2) := dz.xt x45
          have szq : Sz q.2 := by rw [hq3]; exact Fi.se _ hq1
          have szr : Sz r.2 := by rw [hr4]; exact Fi.sp _ _ hq1 hr1
          have szp : Sz (q.2 * r.2) := by rw [hq3, hr4]; exact Fi.st hq1 hr1
          refine ⟨t3, _, rfl, ht3, rfl, _, _, rfl, _, _, rfl, rfl, ?_⟩
          refine ⟨_, rfl, d, rfl, .inl ⟨kvs, .inl hd5⟩, _, rfl, _, DGet.k (k := Sum.inl (r.1 : Int)) hd5, ?_⟩
          refine ⟨_, rfl, _, rfl, z, z3, q.2, r.2, rfl, dq, dz3, szq, szr, trivial, fun z1 H7 e7 dz1 => ?_⟩
          refine ⟨_, z1, _, _, rfl, (dr5.get T r.1).up e7, dz1, sacc, szp, trivial, fun z2 H8 e8 dz2 => ?_⟩
          have hd8 := e8 _ _ (e7 _ _ hd5)
          have drl := dr5.len
          refine ⟨_, rfl, _, rfl, d, _, rfl, DPut.k (k := Sum.inl (r.1 : Int)) hd8 (line' _ (by omega)), ?_⟩
          have xu : Xt H8 (upd H8 d (.dK (putK kvs (Sum.inl (r.1 : Int)) z2))) := xt_upd hd8 trivial
          have x68 := xt_same (e7.trans e8)
          refine ⟨_, _, _, rfl, same_mut ((s5.trans e7).trans e8) nd, (x5.trans x68).trans xu, (x45.trans x68).trans xu, by rw [upd_ne ndf]; exact e8 _ _ (e7 _ _ hf5), upd_same, ?_⟩
          rw [List.map_append, ← List.append_assoc, List.map_singleton]
          exact (dr_acc (dr5.xt x68) hr1 dz2).xt xu
        · obtain ⟨y7, y8, kvs, rfl, s5, x5, x45, hf5, hd5, dr5⟩ := p
          refine ⟨_, _, _, _, kvs, rfl, s5, x5, hf5, hd5, ?_⟩
          rw [flowR_snoc]
          exact dr5
      · obtain ⟨y5, y6, y7, y8, kvs, rfl, s3, x3, hf3, hd3, dr3⟩ := p
        refine ⟨_, rfl, .inl ⟨rfl, _, .inl (.inl hf3)⟩, _, rfl, d, kvs, N, _, rfl, hd3, dr3, hN, fun z H4 e4 dz => ?_⟩
        have hf4 := e4 _ _ hf3
        refine ⟨f, ys, z, rfl, rfl, hf4, line' _ (by omega), ?_⟩
        have xu : Xt H4 (upd H4 f (.lst (ys ++ [z]))) := xt_upd hf4 trivial
        refine ⟨_, _, _, _, _, _, _, rfl, same_mut (s3.trans e4) hf, upd_same, by simp; omega, ?_⟩
        have er : (fun k => acc k (flowR N B (rowOf N (A i)))) = comp N A B i := by
          funext k
          exact flowR_row N (A i) B k
        rw [er] at dz
        rw [List.map_append, List.map_append]
        exact (((dys.xt x3).up e4).snoc dz).xt xu
    · obtain ⟨y3, y4, y5, y6, y7, y8, ys, rfl, s1, hys, lys, dys⟩ := p
      exact ⟨_, rfl, f, ys, rfl, .inl ⟨.inl (.inl hys), fun r hr2 => k _ _ (s1.trans (same_new hr2)) (de_new hr2 dys)⟩⟩
end
end K49
namespace K49
open PySem PySem.Spec PyProof.Rows L2
/-- the flows, in the order in which they are laid -/
def flows (N : Nat) (e : Nat → Rat) (R : Nat → Nat → Rat) (is : List Nat) : List ((Nat × Nat) × Rat) := is.flatMap fun i => (rowOf N (R i)).map fun p => ((i, p.1), e i * p.2)
theorem flows_snoc (N : Nat) (e : Nat → Rat) (R : Nat → Nat → Rat) (is : List Nat) (i : Nat) : flows N e R (is ++ [i]) = flows N e R is ++ (rowOf N (R i)).map fun p => ((i, p.1), e i * p.2) := by
  unfold flows
  rw [List.flatMap_append, List.flatMap_singleton]
theorem mem_flows {N : Nat} {e : Nat → Rat} {R : Nat → Nat → Rat} {is : List Nat} {p : (Nat × Nat) × Rat} : p ∈ flows N e R is ↔ p.1.1 ∈ is ∧ p.1.2 < N ∧ R p.1.1 p.1.2 ≠ 0 ∧ p.2 = e p.1.1 * R p.1.1 p.1.2 := by
  unfold flows
  rw [List.mem_flatMap]
  constructor
  · rintro ⟨i, hi, hp⟩
    obtain ⟨r, hr, rfl⟩ := List.mem_map.mp hp
    obtain ⟨h1, h2, h3⟩ := mem_row.mp hr
    exact ⟨hi, h1, h2, by rw [h3]⟩
  · rintro ⟨h1, h2, h3, h4⟩
    refine ⟨p.1.1, h1, List.mem_map.mpr ⟨(p.1.2, R p.1.1 p.1.2), mem_row.mpr ⟨h2, h3, rfl⟩, ?_⟩⟩
    rw [← h4]
theorem flows_len (N : Nat) (e : Nat → Rat) (R : Nat → Nat → Rat) (is : List Nat) : (flows N e R is).length ≤ is.length * N := by
  unfold flows
  induction is with
  | nil => simp
  | cons a l ih =>
    rw [List.flatMap_cons, List.length_append, List.length_map, List.length_cons, Nat.succ_mul]
    have := row_len N (R a)
    omega
def key2 (p : Nat × Nat) : List Key := [.inl (p.1 : Int), .inl (p.2 : Int)]
theorem key2_inj {p q : Nat × Nat} (h : key2 p = key2 q) : p = q := by
  unfold key2 at h
  injection h with h1 h2
  injection h2 with h2 _
  have a := Sum.inl.inj h1
  have b := Sum.inl.inj h2
  exact Prod.ext (by omega) (by omega)
section
variable {P : Program} {w : World} {K : PySem.W.Frag} {mg : Str → Option Value} {base : Heap}
structure FR (K : PySem.W.Frag) (H : Hp) (kvs : List (List Key × V)) (L : List ((Nat × Nat) × Rat)) : Prop where
  ks : kvs.map (·.1) = L.map fun p => key2 p.1
  vs : DeA K H (kvs.map (·.2)) (L.map fun p => eF p.2)
theorem FR.xt {H H' : Hp} {kvs : List (List Key × V)} {L : List ((Nat × Nat) × Rat)} (x : Xt H H') (h : FR K H kvs L) : FR K H' kvs L := ⟨h.ks, h.vs.xt x⟩
theorem FR.len {H : Hp} {kvs : List (List Key × V)} {L : List ((Nat × Nat) × Rat)} (h : FR K H kvs L) : kvs.length = L.length := by
  have := congrArg List.length h.ks
  simpa using this
theorem FR.at_ {H : Hp} {kvs : List (List Key × V)} {L : List ((Nat × Nat) × Rat)} (h : FR K H kvs L) {i : Nat} {k : List Key} {v : V} {p : (Nat × Nat) × Rat} (e : kvs[i]? = some (k, v)) (ep : L[i]? = some p) : k = key2 p.1 ∧ De K H v (eF p.2) := by
  constructor
  · have h1 : (kvs.map (·.1))[i]? = some k := by rw [List.getElem?_map, e]; rfl
    rw [h.ks, List.getElem?_map, ep] at h1
    exact (Option.some.inj h1).symm
  · exact h.vs.at_ (by rw [List.getElem?_map, e]; rfl) ep
theorem valT_none {kvs : List (List Key × V)} {k : List Key} (h : k ∉ kvs.map (·.1)) : valV kvs k = none := by
  cases e : valV kvs k with
  | none => rfl
  | some v => exact absurd (valV_in e) h
/-- what the dict gives for a pair -/
theorem FR.get (T : Txt K mg) {H : Hp} {kvs : List (List Key × V)} {L : List ((Nat × Nat) × Rat)} (h : FR K H kvs L) (nd : (L.map (·.1)).Nodup) (a : Nat × Nat) : ∃ q, De K H ((valV kvs (key2 a)).getD (.ref T.a_ZERO)) (eF q) ∧ ((a, q) ∈ L ∨ (q = 0 ∧ ∀ r, (a, r) ∉ L)) := by
  have ndk : (kvs.map (·.1)).Nodup := by
    rw [h.ks, show (fun p : (Nat × Nat) × Rat => key2 p.1) = key2 ∘ (·.1) from rfl, ← List.map_map]
    rw [List.Nodup, List.pairwise_map]
    exact nd.imp fun h z => h (key2_inj z)
  by_cases hin : key2 a ∈ kvs.map (·.1)
  · obtain ⟨p, hp, ep⟩ := List.mem_map.mp hin
    obtain ⟨i, hi⟩ := List.getElem?_of_mem hp
    have hlen := h.len
    have hil : i < L.length := by
      have := (List.getElem?_eq_some_iff.mp hi).1
      omega
    obtain ⟨e1, e2⟩ := h.at_ (k := p.1) (v := p.2) hi (List.getElem?_eq_getElem hil)
    have ea : a = L[i].1 := key2_inj (ep.symm.trans e1)
    have ev := val_nodup ndk p hp
    rw [ep] at ev
    rw [ev]
    refine ⟨L[i].2, e2, .inl ?_⟩
    rw [ea]
    exact List.getElem_mem hil
  · rw [valT_none hin]
    refine ⟨0, de_zero T H, .inr ⟨rfl, fun r hr => hin ?_⟩⟩
    rw [h.ks]
    exact List.mem_map.mpr ⟨(a, r), hr, rfl⟩
theorem FR.put {H : Hp} {kvs : List (List Key × V)} {L : List ((Nat × Nat) × Rat)} (h : FR K H kvs L) {a : Nat × Nat} {q : Rat} {v : V} (new : ∀ p ∈ L, p.1 ≠ a) (hv : De K H v (eF q)) : FR K H (putK kvs (key2 a) v) (L ++ [(a, q)]) := by
  have hn : valV kvs (key2 a) = none := valT_none fun hin => by
    rw [h.ks] at hin
    obtain ⟨p, hp, ep⟩ := List.mem_map.mp hin
    exact new p hp (key2_inj ep)
  rw [putK_new v hn]
  refine ⟨?_, ?_⟩
  · rw [List.map_append, List.map_append, h.ks]
    rfl
  · rw [List.map_append, List.map_append]
    exact h.vs.snoc hv
theorem flows_nodup (N : Nat) (e : Nat → Rat) (R : Nat → Nat → Rat) {is : List Nat} (hi : is.Nodup) : ((flows N e R is).map (·.1)).Nodup := by
  unfold flows
  induction is with
  | nil => exact .nil
  | cons i is ih =>
    obtain ⟨h1, h2⟩ := List.nodup_cons.mp hi
    rw [List.flatMap_cons, List.map_append, List.nodup_append]
    refine ⟨?_, ih h2, fun a ha b hb => ?_⟩
    · rw [List.map_map, List.Nodup, List.pairwise_map]
      exact (row_inc N (R i)).imp fun {p q} hpq z => by
        have := congrArg Prod.snd z
        have e2 : p.1 = q.1 := this
        omega
    · obtain ⟨p, hp, rfl⟩ := List.mem_map.mp ha
      obtain ⟨q, hq, rfl⟩ := List.mem_map.mp hb
      obtain ⟨r, hr, rfl⟩ := List.mem_map.mp hp
      have hq2 := (mem_flows (N := N) (e := e) (R := R)).mp hq
      intro z
      have : i = q.1.1 := congrArg Prod.fst z
      exact h1 (this ▸ hq2.1)
def sp_is_balanced (K : PySem.W.Frag) : Sp := fun vs H Q _ => ∃ (u t : V) (N : Nat) (e : Nat → Rat) (R : Nat → Nat → Rat), vs = [u, t] ∧ De K H u (eD ((List.range N).map e)) ∧ De K H t (eT (tab N R)) ∧ FlOk N e R ∧
  (∀ a b, a < N → b < N → e a * R a b = e b * R b a) ∧ ∀ H', Same H H' → Q (.bl true) H'
theorem ok_is_balanced (T : Txt K mg) : FnOk P w K mg base CX0 3 T.d_is_balanced.f T.d_is_balanced.d ["entries", "table"] (sp_is_balanced K) := by
  refine T.d_is_balanced.F.ok sc_is_balanced (fun vs H Q E h => ?_) (fun cdv A outer s H vs Q E hr h => ?_)
  · obtain ⟨u, t, N, e, R, rfl, _⟩ := h
    rfl
  · obtain ⟨u, t, N, e, R, rfl, hu, ht, F, bal, k⟩ := h
    refine ⟨_, (pss_cons
        (ps_set (i := 2) sc_is_balanced.nd rfl (.inr rfl) pe_dnewT)
        (pss_cons
        (ps_for PassesOwn.never rfl (pi_enumT (by rfl) T.m_enumerate (pa_cons (pv 1) pa_nil)) (pg_tup rfl (pgs_cons (pg_name (i := 3) sc_is_balanced.nd rfl (.inl rfl)) (pgs_cons (pg_name (i := 4) sc_is_balanced.nd rfl (.inl rfl)) pgs_nil))) (pss_one
        (ps_for PassesOwn.never rfl (pi_tup (pv 4)) (pg_tup rfl (pgs_cons (pg_name (i := 5) sc_is_balanced.nd rfl (.inl rfl)) (pgs_cons (pg_name (i := 6) sc_is_balanced.nd rfl (.inl rfl)) pgs_nil))) (pss_one
        (ps_dput (hu_of hr) (pv 2) (pe_tup (pa_cons (pv 3) (pa_cons (pv 5) pa_nil))) (pe_call (ok_multiply T) hr (by rfl) T.d_multiply.g T.d_multiply.F.kp T.d_multiply.b .nil pass0 (pa_cons (pe_ix ix_tup (pv 0) (pv 3) (fun _ _ => rfl)) (pa_cons (pv 6) pa_nil))) rfl)))))
        (pss_one
        (ps_ret (pe_callB (cr_all rfl) (by rfl) T.m_all (by decide +kernel) (pa_cons (pe_lc (own := [("start", 3), ("end", 5), ("flow", 7)]) rfl sc_is_balanced.nd (pi_itemsT (pe_frzT (pv 2))) (blkOk_by (N := ["entries", "table", "flows", "start", "row", "end", "chance", "flow"]) (sc := defScope s_is_balanced) (own := [("start", 3), ("end", 5), ("flow", 7)]) (by decide +kernel)) (fun _ _ _ _ _ => (pg_tupK (K := K) (n := 2) rfl rfl (pgs_cons (pg_tupK (K := K) (n := 2) rfl rfl (pgs_cons (pg_name (i := 3) sc_is_balanced.nd rfl (by first | exact .inl rfl | exact .inr rfl)) (pgs_cons (pg_name (i := 5) sc_is_balanced.nd rfl (by first | exact .inl rfl | exact .inr rfl)) pgs_nil))) (pgs_cons (pg_name (i := 7) sc_is_balanced.nd rfl (by first | exact .inl rfl | exact .inr rfl)) pgs_nil)))) (fun _ _ _ _ _ => pts_nil) (fun _ _ _ _ _ => (pe_cmpR (op_eqDK (K := K) rfl hr.units) (pv 7) (pe_dget2 (hu_of hr) (pv 2) (pe_tup (pa_cons (pv 5) (pa_cons (pv 3) pa_nil))) (pe_glob (v := .ref T.a_ZERO) (by rfl) T.g_ZERO rfl) ⟨rfl, rfl, rfl, rfl⟩) (nomark _)))) pa_nil)))))), ?_⟩
    obtain ⟨ua, us, rfl, hus, dus⟩ := eD_of hu
    obtain ⟨ta, ts, rfl, hts, dts⟩ := eT_of ht
    have lu : us.length = N := by rw [dus.len, List.length_map, List.length_range]
    have lt : ts.length = N := by rw [dts.len]; unfold tab; rw [List.length_map, List.length_range]
    have hN := F.n
    intro d hd
    have s0 : Same H (upd H d (.dT [])) := same_new hd
    refine ⟨_, rfl, ta, ts, rfl, sqT_xt (xt_same s0) hts, ?_⟩
    refine for_data (l := List.range N) (by rw [List.length_range, ← lt]; exact walk_enumT (K := K) (xs := ts)) (fun pre σ H' => ∃ y3 y4 y5 y6 y7 kvs, σ = [some (.ref ua), some (.ref ta), some (.ref d), y3, y4, y5, y6, y7] ∧ Same H H' ∧ H' d = some (.dT kvs) ∧ FR K H' kvs (flows N e R pre))
      ⟨none, none, none, none, none, [], rfl, s0, upd_same, ⟨rfl, .nil⟩⟩ (fun pre σ H' p => ?_) (fun pre i post x σ H' H2 el ei p y => ?_) (fun σ H' p => ?_)
    · obtain ⟨y3, y4, y5, y6, y7, kvs, rfl, s1, _⟩ := p
      exact sqT_xt (xt_same s1) hts
    · obtain ⟨y3, y4, y5, y6, y7, kvs, rfl, s1, hkv, fr⟩ := p
      obtain ⟨hip, hiN, hpre, hpl⟩ := range_split el
      obtain ⟨t, x1, x2, rfl, ht, rfl, ex1, ex2⟩ := y
      have ex1 : x1 = .int (i : Int) := by rw [hip]; exact (Option.some.inj ex1).symm
      subst ex1
      have st : Same H' (upd H' t (.tup [.int (i : Int), x2])) := same_new ht
      have d2 : De K H' x2 (eR (rowOf N (R i))) := (dts.at_ (l := tab N R) ex2 (by unfold tab; rw [← hip, List.getElem?_map, List.getElem?_range hiN]; rfl)).up s1
      obtain ⟨ra, rs, rfl, hrs, drs⟩ := eR_of d2
      have lr : rs.length = (rowOf N (R i)).length := drs.len
      refine ⟨t, _, rfl, .inl (.inl upd_same), rfl, _, _, rfl, _, _, rfl, rfl, ?_⟩
      refine ⟨_, rfl, ra, rfl, ⟨rs, sqT_xt (xt_same st) hrs⟩, ?_⟩
      refine for_data (l := rowOf N (R i)) (by rw [← lr]; exact walk_tup (K := K) (xs := rs)) (fun pr σ H3 => ∃ y5 y6 y7 kvs, σ = [some (.ref ua), some (.ref ta), some (.ref d), some (.int i), some (.ref ra), y5, y6, y7] ∧ Same H H3 ∧ Xt H' H3 ∧ H3 d = some (.dT kvs) ∧ FR K H3 kvs (flows N e R pre ++ pr.map fun p => ((i, p.1), e i * p.2)))
        ⟨y5, y6, y7, kvs, rfl, s1.trans st, xt_same st, st _ _ hkv, by simpa using fr.xt (xt_same st)⟩ (fun pr σ H3 p => ?_) (fun pr q po x σ H3 H4 el2 ei2 p y => ?_) (fun σ H3 p => ?_)
      · obtain ⟨y5, y6, y7, kvs, rfl, s3, x3, _⟩ := p
        exact sqT_xt x3 hrs
      · obtain ⟨y5, y6, y7, kvs, rfl, s3, x3, hkv3, fr3⟩ := p
        obtain ⟨rfl, ex⟩ := y
        obtain ⟨tt, z, rfl, htt, dz⟩ := pair_of ((drs.at_ ex ei2).xt x3)
        have hq : q ∈ rowOf N (R i) := List.mem_of_getElem? ei2
        obtain ⟨hq1, hq2, hq3⟩ := mem_row.mp hq
        obtain ⟨v, ev, dv⟩ := dus.get (i := i) (d := eF (e i)) (by rw [List.getElem?_map, List.getElem?_map, List.getElem?_range hiN]; rfl)
        have szq : Sz q.2 := by rw [hq3]; exact F.sp i q.1 hiN hq1
        refine ⟨tt, _, rfl, htt, rfl, _, _, rfl, _, _, rfl, rfl, ?_⟩
        refine ⟨_, rfl, _, rfl, ua, us, i, v, rfl, rfl, sqT_xt (xt_same s3) hus, atI_nat ev, _, rfl, v, z, e i, q.2, rfl, dv.up s3, dz, F.se i hiN, szq, trivial, fun z1 H5 e5 dz1 => ?_⟩
        have hkv5 := e5 _ _ hkv3
        have hpl2 : pr.length ≤ N := by
          have h1 := row_len N (R i)
          have h2 := congrArg List.length el2
          rw [List.length_append] at h2
          omega
        have hfl : kvs.length < sizeLine := by
          have h1 := fr3.len
          have h2 := flows_len N e R pre
          rw [List.length_append, List.length_map] at h1
          have : pre.length * N ≤ 32 * 32 := Nat.mul_le_mul (by omega) hN
          exact line' _ (by omega)
        refine ⟨_, rfl, _, rfl, _, rfl, (by show 2 ≤ sizeLine; decide), fun b hb => ?_⟩
        have sb : Same H5 (upd H5 b (.tup [.int i, .int q.1])) := same_new hb
        refine ⟨d, _, rfl, DPut.t (k := key2 (i, q.1)) (sb _ _ hkv5) (by rw [upd_same]; rfl) hfl, ?_⟩
        have xu : Xt (upd H5 b (.tup [.int i, .int q.1])) (upd (upd H5 b (.tup [.int i, .int q.1])) d (.dT (putK kvs (key2 (i, q.1)) z1))) := xt_upd (sb _ _ hkv5) trivial
        have xa := xt_same (e5.trans sb)
        refine ⟨_, _, _, _, rfl, same_mut ((s3.trans e5).trans sb) hd, (x3.trans xa).trans xu, upd_same, ?_⟩
        rw [List.map_append, ← List.append_assoc]
        refine ((fr3.xt xa).put (a := (i, q.1)) (q := e i * q.2) (fun p hp => ?_) (dz1.up sb)).xt xu
        rcases List.mem_append.mp hp with hp | hp
        · have hm := (mem_flows (N := N) (e := e) (R := R)).mp hp
          intro z
          rw [z] at hm
          have hnd : (List.range N).Nodup := List.nodup_range
          rw [el] at hnd
          exact (List.nodup_append.mp hnd).2.2 i hm.1 i List.mem_cons_self rfl
        · obtain ⟨r, hr3, rfl⟩ := List.mem_map.mp hp
          intro z
          have e1 : r.1 = q.1 := congrArg Prod.snd z
          have hinc := row_inc N (R i)
          rw [el2] at hinc
          have := (List.pairwise_append.mp hinc).2.2 r hr3 q List.mem_cons_self
          omega
      · obtain ⟨y5, y6, y7, kvs, rfl, s3, x3, hkv3, fr3⟩ := p
        refine ⟨_, _, _, _, _, kvs, rfl, s3, hkv3, ?_⟩
        rw [flows_snoc]
        exact fr3
    · obtain ⟨y3, y4, y5, y6, y7, kvs, rfl, s1, hkv, fr⟩ := p
      refine ⟨_, rfl, d, kvs, rfl, hkv, fun od => ⟨d, od, kvs, rfl, upd_same, fun D hD => ?_⟩⟩
      have xl : Xt H' (upd H' d (.frz od (.dT kvs))) := xt_upd hkv trivial
      have frl := fr.xt xl
      have hkl := fr.len
      have nd := flows_nodup N e R (List.nodup_range (n := N))
      have hfl := flows_len N e R (List.range N)
      rw [List.length_range] at hfl
      have hNN : N * N ≤ 32 * 32 := Nat.mul_le_mul hN hN
      refine lc_data (K := K) (J := ItiT d od kvs) (l := flows N e R (List.range N)) (G := fun G => G d = some (.frz od (.dT kvs))) (Y := fun i G x G' => (ItiT d od kvs).yld i G x G') ⟨fun i G hi q => ⟨q, by omega⟩, fun G q => ⟨q, by omega⟩, fun i G x G' _ _ y => y⟩ .bool (fun p => some true) (fun G s => s _ _ upd_same) hD (line' _ (by omega)) (fun i p x G G' ei sG y Ky Kn ky kn => ?_) (fun G ys sG hys hyl hdd => ?_)
      · obtain ⟨t, kk, v, q, e1, rfl, nt, hq, rfl⟩ := y
        obtain ⟨rfl, dv⟩ := (frl.xt (xt_same sG)).at_ e1 ei
        have st : Same G (upd G t (.tup [.ref q, v])) := same_new nt
        obtain ⟨hp1, hp2, hp3, hp4⟩ := (mem_flows (N := N) (e := e) (R := R)).mp (List.mem_of_getElem? ei)
        have hp1 := List.mem_range.mp hp1
        refine ⟨t, _, rfl, .inl (.inl upd_same), rfl, _, _, rfl, ⟨q, [.int p.1.1, .int p.1.2], rfl, .inl (.inl (st _ _ hq)), rfl, _, _, rfl, _, _, rfl, rfl, _, _, rfl, rfl, rfl, ?_⟩⟩
        have hk2 : (upd G t (.tup [.ref q, v])) d = some (.frz od (.dT kvs)) := st _ _ (sG _ _ upd_same)
        refine ⟨_, rfl, _, rfl, d, rfl, .inr ⟨kvs, .inr ⟨od, hk2⟩⟩, _, rfl, _, rfl, (by show 2 ≤ sizeLine; decide), fun b hb => ?_⟩
        have sb := same_new (o := .tup [.int p.1.2, .int p.1.1]) hb
        have hk3 := sb _ _ hk2
        refine ⟨_, .inr ⟨kvs, key2 (p.1.2, p.1.1), b, .inr ⟨od, hk3⟩, rfl, by rw [upd_same]; rfl, rfl⟩, ?_⟩
        obtain ⟨r, dr, hr⟩ := (frl.xt (xt_same ((sG.trans st).trans sb))).get T nd (p.1.2, p.1.1)
        refine ⟨_, _, (dv.up (st.trans sb)).dp, dr.dp, shaped_eF _, shaped_eF _, ky _ _ true rfl (st.trans sb) ?_⟩
        have eq : p.2 = r := by
          rw [hp4, bal p.1.1 p.1.2 hp1 hp2]
          rcases hr with hr | ⟨hr, hno⟩
          · exact ((mem_flows (N := N) (e := e) (R := R)).mp hr).2.2.2.symm
          · have hz : R p.1.2 p.1.1 = 0 := Classical.byContradiction fun hne => hno (e p.1.2 * R p.1.2 p.1.1) ((mem_flows (N := N) (e := e) (R := R)).mpr ⟨List.mem_range.mpr hp2, hp1, hne, rfl⟩)
            rw [hz, Rat.mul_zero, hr]
        rw [eqv_eF, decide_eq_true eq]
        exact .bl true
      · have ey := bls_of hdd
        refine ⟨D, _, rfl, .inl (.inl (by rw [hys, ey])), ?_⟩
        have e2 : (((flows N e R (List.range N)).filterMap fun p => some true).all id) = true := by
          rw [List.all_eq_true]
          intro b hb
          obtain ⟨f, hf, e⟩ := List.mem_filterMap.mp hb
          cases e
          rfl
        rw [e2]
        exact k G ((same_mut s1 hd).trans sG)
end
end K49
namespace K49
open PySem PySem.Spec PyProof.Rows L2
section
variable {P : Program} {w : World} {K : PySem.W.Frag} {mg : Str → Option Value} {base : Heap}
/-- a dict comprehension over things a: what is put -/
theorem dc_dr {α : Type} {J : It} {l : List α} {G : Hp → Prop} {Y : Nat → Hp → V → Hp → Prop} (wk : Walk J l.length G Y) {g : TG} {tk tv : TE} {vs : List Nat} {σ : L2.St} {H1 : Hp} {D : Addr} {Qd : Hp → Prop} {N : Nat} (f : α → Nat × Rat)
    (hG : ∀ H, Same H1 H → G H) (hD : H1 D = none) (hN : N ≤ 1000) (hf : ∀ a ∈ l, (f a).1 < N)
    (turn : ∀ i a x H H', l[i]? = some a → Same H1 H → Y i H x H' → ∀ (Kz : V → V → Hp → Prop), (∀ z H5, Same H H5 → De K H5 z (eF (f a).2) → Kz (.int (f a).1) z H5) →
      g x (wipe σ vs) H' fun σ2 H2 => wipe σ2 vs = wipe σ vs ∧ tk σ2 H2 fun y H4 => tv σ2 H4 fun z H5 => Kz y z H5)
    (fin : ∀ H kvs, Same H1 H → H D = some (.dK kvs) → DR K H kvs N (putL (l.map f)) → Qd H) :
    ∃ W : Nat → Nat → Hp → Prop, (∃ m, W 0 m (upd H1 D (.dK []))) ∧ ∀ i m H, W i m H →
      (J.stop i H ∧ Qd H) ∨ (J.go i H ∧ ∃ Nx : Hp → Prop, (∀ H', Nx H' → ∃ m', m' < m ∧ W (i + 1) m' H') ∧ ∀ x H', J.yld i H x H' → g x (wipe σ vs) H' fun σ2 H2 => wipe σ2 vs = wipe σ vs ∧ tYes σ2 H2 fun b H3 =>
        if b = true then tk σ2 H3 fun y H4 => tv σ2 H4 fun z H5 => ∃ kvs k, y = kV k ∧ H5 D = some (.dK kvs) ∧ kvs.length < sizeLine ∧ Nx (upd H5 D (.dK (putK kvs k z))) else Nx H3) := by
  refine ⟨fun i m H => m = l.length - i ∧ i ≤ l.length ∧ Same H1 H ∧ ∃ kvs, H D = some (.dK kvs) ∧ DR K H kvs N (putL ((l.take i).map f)), ⟨l.length, by simp, Nat.zero_le _, same_new hD, [], upd_same, DR.nil⟩, fun i m H hW => ?_⟩
  obtain ⟨rfl, hi, s, kvs, hk, dr⟩ := hW
  by_cases hlt : i < l.length
  · have ea : l[i]? = some l[i] := List.getElem?_eq_getElem hlt
    refine .inr ⟨wk.goes i H hlt (hG H s), fun H' => Same H1 H' ∧ ∃ kvs, H' D = some (.dK kvs) ∧ DR K H' kvs N (putL ((l.take (i + 1)).map f)), fun H' p => ⟨l.length - (i + 1), by omega, rfl, hlt, p⟩, fun x H' y => ?_⟩
    have hlen := dr.len
    refine turn i l[i] x H H' ea s (wk.yields i H x H' hlt (hG H s) y) _ fun z H5 e5 dz => ?_
    have hk5 := e5 _ _ hk
    have hb := hf l[i] (List.getElem_mem hlt)
    refine ⟨kvs, Sum.inl ((f l[i]).1 : Int), rfl, hk5, line' _ (by omega), same_mut (s.trans e5) hD, _, upd_same, ?_⟩
    rw [take_of ea, List.map_append, List.map_singleton, putL_snoc]
    exact ((dr.xt (xt_same e5)).put hb dz).xt (xt_upd hk5 trivial)
  · have e : i = l.length := by omega
    subst e
    rw [List.take_length] at dr
    exact .inl ⟨wk.stops H (hG H s), fin H kvs s hk dr⟩
def sp_turned (K : PySem.W.Frag) : Sp := fun vs H Q _ => ∃ n i v : Nat, vs = [.int n, .int i, .int v] ∧ v < n ∧ n ≤ 100 ∧ Q (.int (turnN n i v)) H
theorem ok_turned (T : Txt K mg) : FnOk P w K mg base CX0 1 T.d_turned.f T.d_turned.d ["count", "index", "vertex"] (sp_turned K) := by
  refine T.d_turned.F.ok sc_turned (fun vs H Q E h => ?_) (fun cdv A outer s H vs Q E hr h => ?_)
  · obtain ⟨n, i, v, rfl, _⟩ := h
    rfl
  · obtain ⟨n, i, v, rfl, hv, hn, k⟩ := h
    refine ⟨_, (pss_one
        (ps_ret (pe_op op_xor (pv 1) (pe_op op_shl pe_int (pe_op op_sub (pe_op op_sub (pv 0) pe_int) (pv 2)))))), ?_⟩
    refine ⟨_, rfl, _, rfl, _, _, rfl, rfl, _, rfl, _, _, rfl, rfl, _, _, rfl, rfl, ⟨by omega, by omega, by decide⟩, _, _, rfl, rfl, ?_⟩
    have e1 : (1 : Int) * 2 ^ ((n : Int) - 1 - (v : Int)).toNat = ((2 ^ (n - 1 - v) : Nat) : Int) := by
      have e2 : ((n : Int) - 1 - (v : Int)).toNat = n - 1 - v := by omega
      rw [e2, Int.one_mul, Int.natCast_pow]
      rfl
    have e3 : Builtin.bitXor (i : Int) ((2 ^ (n - 1 - v) : Nat) : Int) = ((turnN n i v : Nat) : Int) := by
      rw [Bits.bitXor_pp (by omega) (Int.natCast_nonneg _)]
      rfl
    show Q (.int (Builtin.bitXor (i : Int) ((1 : Int) * 2 ^ ((n : Int) - 1 - (v : Int)).toNat))) H
    rw [e1, e3]
    exact k
/-- the moves of a vertex -/
def sp_move (K : PySem.W.Frag) (C : Addr) (M : (Nat → Rat) → Nat → Nat → Nat → Nat → Rat) : Sp := fun vs H Q _ => ∃ (a : Addr) (fs : List Int) (es : List (Nat × Nat × Int)) (v : Nat) (p q : V) (x y : Rat), vs = [.ref a, .int v, p, q] ∧ SpR K C H a fs es ∧ v < fs.length ∧ De K H p (eF x) ∧ De K H q (eF y) ∧ Good fs es x y ∧
  ∀ z H', Same H H' → De K H' z (eT (tab (2 ^ fs.length) (M (wN fs es x y) fs.length v))) → Q z H'
abbrev sp_heat_bath (K : PySem.W.Frag) (C : Addr) : Sp := sp_move K C hbP
abbrev sp_trial (K : PySem.W.Frag) (C : Addr) : Sp := sp_move K C trP
theorem tab_snoc (M : Nat → List (Nat × Rat)) (i : Nat) : (List.range (i + 1)).map M = (List.range i).map M ++ [M i] := by
  rw [List.range_succ, List.map_append]
  rfl
theorem ok_heat_bath (T : Txt K mg) : FnOk P w K mg base CX0 5 T.d_heat_bath.f T.d_heat_bath.d ["spins", "vertex", "x", "y"] (sp_heat_bath K T.C) := by
  refine T.d_heat_bath.F.ok sc_heat_bath (fun vs H Q E h => ?_) (fun cdv A outer s H vs Q E hr h => ?_)
  · obtain ⟨a, fs, es, v, p, q, x, y, rfl, _⟩ := h
    rfl
  · obtain ⟨a, fs, es, v, p, q, x, y, rfl, hs, hv, hp, hq, G, k⟩ := h
    refine ⟨_, (pss_cons
        (ps_expr (pe_call (ok_check_size T) (hr.mono (by decide)) (by rfl) T.d_check_size.g T.d_check_size.F.kp T.d_check_size.b .nil pass0 (pa_cons (pv 0) (pa_cons (pv 2) (pa_cons (pv 3) pa_nil)))))
        (pss_cons
        (ps_set (i := 4) sc_heat_bath.nd rfl (.inr rfl) (pe_call (ok_weights_of T) hr (by rfl) T.d_weights_of.g T.d_weights_of.F.kp T.d_weights_of.b .nil pass0 (pa_cons (pv 0) (pa_cons (pv 2) (pa_cons (pv 3) pa_nil)))))
        (pss_cons
        (ps_set (i := 5) sc_heat_bath.nd rfl (.inl rfl) (pe_lst pa_nil))
        (pss_cons
        (ps_for PassesOwn.never rfl (pi_range1 (by rfl) T.m_range (pa_cons (pe_callB call_len_seq (by rfl) T.m_len PySem.boot_len (pa_cons (pv 4) pa_nil)) pa_nil)) (pg_name (i := 6) sc_heat_bath.nd rfl (.inl rfl)) (pss_cons
        (ps_set (i := 7) sc_heat_bath.nd rfl (.inl rfl) (pe_call (ok_turned T) (hr.mono (by decide)) (by rfl) T.d_turned.g T.d_turned.F.kp T.d_turned.b .nil pass0 (pa_cons (pe_callB call_len_seq (by rfl) T.m_len PySem.boot_len (pa_cons (pe_fld (pv 0) rfl) pa_nil)) (pa_cons (pv 6) (pa_cons (pv 1) pa_nil)))))
        (pss_cons
        (ps_set (i := 8) sc_heat_bath.nd rfl (.inr rfl) (pe_call (ok_add T) (hr.mono (by decide)) (by rfl) T.d_add.g T.d_add.F.kp T.d_add.b .nil pass0 (pa_cons (pe_ix ix_list (pv 4) (pv 6) (fun _ _ => rfl)) (pa_cons (pe_ix ix_list (pv 4) (pv 7) (fun _ _ => rfl)) pa_nil))))
        (pss_one
        (ps_expr (pe_bm PySem.F.plainAttrs_list PySem.F.slot_list_append PySem.F.type_list_append mt_append (pv 5) (pa_cons (pe_call (ok_table_row T) (hr.mono (by decide)) (by rfl) T.d_table_row.g T.d_table_row.F.kp T.d_table_row.b .nil pass0 (pa_cons (pe_dc (own := [("at", 9)]) rfl sc_heat_bath.nd (pi_tup (pe_tup (pa_cons (pv 6) (pa_cons (pv 7) pa_nil)))) (blkOk_by (N := ["spins", "vertex", "x", "y", "weights", "table", "index", "other", "whole", "at"]) (sc := defScope s_heat_bath) (own := [("at", 9)]) (by decide +kernel)) (fun _ _ _ _ _ => (pg_name (i := 9) sc_heat_bath.nd rfl (by first | exact .inl rfl | exact .inr rfl))) (fun _ _ _ _ _ => pts_nil) (fun _ _ _ _ _ => (pv 9)) (fun _ _ _ _ _ => (pe_call (ok_divide T) (hr.mono (by decide)) (by rfl) T.d_divide.g T.d_divide.F.kp T.d_divide.b .nil pass0 (pa_cons (pe_ix (ix_listK (K := K) rfl) (pv 4) (pv 9) (fun _ _ => rfl)) (pa_cons (pv 8) pa_nil))))) pa_nil)) pa_nil)))))))
        (pss_one
        (ps_ret (pe_callTy call_tuple_of (by rfl) T.m_tuple (by decide +kernel) (pa_cons (pv 5) pa_nil)))))))), ?_⟩
    have h5 := G.n5
    have h32 : 2 ^ fs.length ≤ 32 := Nat.pow_le_pow_right (n := 2) (by decide) h5
    refine ⟨_, rfl, _, rfl, _, rfl, a, fs, es, p, q, x, y, rfl, hs, by omega, hp, hq, G.x0, G.y0, ?_⟩
    refine ⟨_, rfl, _, rfl, _, rfl, a, fs, es, p, q, x, y, rfl, hs, hp, hq, G, fun wl H1 s1 nw hl => ?_⟩
    refine ⟨by show 0 ≤ sizeLine; exact Nat.zero_le _, fun t ht => ?_⟩
    have s2 : Same H1 (upd H1 t (.lst [])) := same_new ht
    have hl2 := hl.up s2
    obtain ⟨wx, hwx, dwx⟩ := hl
    have lw : wx.length = 2 ^ fs.length := by rw [dwx.len]; exact wts_len
    refine ⟨_, rfl, wl, wx, rfl, .inl (s2.seq hwx), _, rfl, by omega, by omega, ?_⟩
    refine for_range (lo := 0) (n := (wx.length : Int).toNat) (fun i σ H' => ∃ y6 y7 y8 y9 ys, σ = [some (.ref a), some (.int v), some p, some q, some (.ref wl), some (.ref t), y6, y7, y8, y9] ∧ Same H1 H' ∧ H' t = some (.lst ys) ∧ ys.length ≤ i ∧ DeA K H' ys (((List.range i).map fun i => rowOf (2 ^ fs.length) (hbP (wN fs es x y) fs.length v i)).map eR))
      ⟨none, none, none, none, [], rfl, s2, upd_same, Nat.le_refl _, .nil⟩ (fun i σ H' hi pp => ?_) (fun σ H' pp => ?_)
    · obtain ⟨y6, y7, y8, y9, ys, rfl, s3, hys, lys, dys⟩ := pp
      have hi2 : i < 2 ^ fs.length := by omega
      have ho : turnN fs.length i v < 2 ^ fs.length := turnN_lt hi2 (by omega)
      have hwx3 := s3.seq hwx
      obtain ⟨dx, fa, ea, h1, h2, h3⟩ := (hs.up (s1.trans s3)).ex
      obtain ⟨wi, ewi, dwi⟩ := dwx.get (i := i) (d := eF (wN fs es x y i)) (by rw [List.getElem?_map, wts_at hi2]; rfl)
      obtain ⟨wo, ewo, dwo⟩ := dwx.get (i := turnN fs.length i v) (d := eF (wN fs es x y (turnN fs.length i v))) (by rw [List.getElem?_map, wts_at ho]; rfl)
      have e0 : (0 : Int) + (i : Int) = (i : Int) := Int.zero_add _
      rw [e0]
      refine ⟨_, rfl, a, T.C, dx, _, _, rfl, h1, T.cl, T.nF, spF_f fa ea, fa, _, rfl, .inr h2, _, rfl, _, rfl, fs.length, i, v, (by rw [List.length_map]; rfl), hv, by omega, ?_⟩
      refine ⟨_, rfl, _, rfl, wl, wx, i, wi, rfl, rfl, hwx3, atI_nat ewi, _, rfl, _, rfl, wl, wx, turnN fs.length i v, wo, rfl, rfl, hwx3, atI_nat ewo, wi, wo, _, _, rfl, dwi.up s3, dwo.up s3, G.sz1 hi2, G.sz1 ho, trivial, fun zs H4 s4 dzs => ?_⟩
      refine ⟨_, rfl, .inl ⟨rfl, ys, .inl (.inl (s4 _ _ hys))⟩, _, rfl, _, rfl, by show 2 ≤ sizeLine; decide, fun tt htt => ⟨tt, rfl, ⟨_, .inl (.inl upd_same)⟩, fun D hD => ?_⟩⟩
      have s5 : Same H4 (upd H4 tt (.tup [.int i, .int (turnN fs.length i v)])) := same_new htt
      have hsum : 0 < wN fs es x y i + wN fs es x y (turnN fs.length i v) := by
        have a1 := G.pos hi2
        have a2 := G.pos ho
        grind
      refine dc_dr (K := K) (l := [i, turnN fs.length i v]) (walk_tup (K := K) (a := tt) (xs := [.int i, .int (turnN fs.length i v)])) (N := 2 ^ fs.length) (fun j => (j, wN fs es x y j / (wN fs es x y i + wN fs es x y (turnN fs.length i v)))) (fun G s => sqT_xt (xt_same s) (.inl (.inl upd_same))) hD (by omega) (fun j hj => ?_) (fun j b x G1 G2 ej sG yy Kz kz => ?_) (fun G1 kvs sG hkv dr => ?_)
      · rcases List.mem_cons.mp hj with rfl | hj
        · exact hi2
        · rw [List.mem_singleton.mp hj]
          exact ho
      · obtain ⟨rfl, ex⟩ := yy
        have eb : x = .int (b : Int) ∧ b < 2 ^ fs.length := by
          match j, ej, ex with
          | 0, ej, ex =>
            have e1 : i = b := Option.some.inj ej
            have e2 : V.int (i : Int) = x := Option.some.inj ex
            subst e1
            exact ⟨e2.symm, hi2⟩
          | 1, ej, ex =>
            have e1 : turnN fs.length i v = b := Option.some.inj ej
            have e2 : V.int (turnN fs.length i v : Int) = x := Option.some.inj ex
            subst e1
            exact ⟨e2.symm, ho⟩
          | j + 2, ej, _ => exact nomatch ej
        obtain ⟨rfl, hb⟩ := eb
        obtain ⟨wb, ewb, dwb⟩ := dwx.get (i := b) (d := eF (wN fs es x y b)) (by rw [List.getElem?_map, wts_at hb]; rfl)
        have sA := (s3.trans s4).trans (s5.trans sG)
        exact ⟨rfl, _, rfl, _, rfl, _, rfl, wl, wx, b, wb, rfl, rfl, sA.seq hwx, atI_nat ewb, _, rfl, wb, zs, _, _, rfl, dwb.up sA, (dzs.up s5).up sG, G.sz1 hb, G.szadd hi2 ho, hsum, fun z H6 e6 dz => kz z H6 e6 dz⟩
      · have ec : putL ([i, turnN fs.length i v].map fun j => (j, wN fs es x y j / (wN fs es x y i + wN fs es x y (turnN fs.length i v)))) = hbP (wN fs es x y) fs.length v i := rfl
        rw [ec] at dr
        refine ⟨D, kvs, _, _, rfl, hkv, dr, h32, fun z H6 e6 dz => ?_⟩
        have sB := (s4.trans s5).trans (sG.trans e6)
        have hys6 := sB _ _ hys
        refine ⟨t, ys, z, rfl, rfl, hys6, line' _ (by omega), _, _, _, _, _, rfl, ?_, upd_same, by simp; omega, ?_⟩
        · exact same_mut (s3.trans sB) ht
        · rw [tab_snoc, List.map_append]
          exact ((dys.up sB).snoc dz).xt (xt_upd hys6 trivial)
    · obtain ⟨y6, y7, y8, y9, ys, rfl, s3, hys, lys, dys⟩ := pp
      have en : (wx.length : Int).toNat = 2 ^ fs.length := by omega
      rw [en] at dys
      exact ⟨_, rfl, t, ys, rfl, .inl ⟨.inl (.inl hys), fun r hr2 => k _ _ ((s1.trans s3).trans (same_new hr2)) (de_new hr2 dys)⟩⟩
theorem cap_sz {r : Rat} (h : Sz r) : Sz (cap r) := by
  unfold cap
  split
  · exact Sz_one
  · exact h
theorem putK_nil {k : Key} {v : V} : putK [] k v = [(k, v)] := rfl
theorem ok_trial (T : Txt K mg) : FnOk P w K mg base CX0 5 T.d_trial.f T.d_trial.d ["spins", "vertex", "x", "y"] (sp_trial K T.C) := by
  refine T.d_trial.F.ok sc_trial (fun vs H Q E h => ?_) (fun cdv A outer s H vs Q E hr h => ?_)
  · obtain ⟨a, fs, es, v, p, q, x, y, rfl, _⟩ := h
    rfl
  · obtain ⟨a, fs, es, v, p, q, x, y, rfl, hs, hv, hp, hq, G, k⟩ := h
    refine ⟨_, (pss_cons
        (ps_expr (pe_call (ok_check_size T) (hr.mono (by decide)) (by rfl) T.d_check_size.g T.d_check_size.F.kp T.d_check_size.b .nil pass0 (pa_cons (pv 0) (pa_cons (pv 2) (pa_cons (pv 3) pa_nil)))))
        (pss_cons
        (ps_set (i := 4) sc_trial.nd rfl (.inl rfl) (pe_call (ok_weights_of T) hr (by rfl) T.d_weights_of.g T.d_weights_of.F.kp T.d_weights_of.b .nil pass0 (pa_cons (pv 0) (pa_cons (pv 2) (pa_cons (pv 3) pa_nil)))))
        (pss_cons
        (ps_set (i := 5) sc_trial.nd rfl (.inl rfl) (pe_lst pa_nil))
        (pss_cons
        (ps_for PassesOwn.never rfl (pi_range1 (by rfl) T.m_range (pa_cons (pe_callB call_len_seq (by rfl) T.m_len PySem.boot_len (pa_cons (pv 4) pa_nil)) pa_nil)) (pg_name (i := 6) sc_trial.nd rfl (.inl rfl)) (pss_cons
        (ps_set (i := 7) sc_trial.nd rfl (.inl rfl) (pe_call (ok_turned T) (hr.mono (by decide)) (by rfl) T.d_turned.g T.d_turned.F.kp T.d_turned.b .nil pass0 (pa_cons (pe_callB call_len_seq (by rfl) T.m_len PySem.boot_len (pa_cons (pe_fld (pv 0) rfl) pa_nil)) (pa_cons (pv 6) (pa_cons (pv 1) pa_nil)))))
        (pss_cons
        (ps_set (i := 8) sc_trial.nd rfl (.inl rfl) (pe_call (ok_divide T) (hr.mono (by decide)) (by rfl) T.d_divide.g T.d_divide.F.kp T.d_divide.b .nil pass0 (pa_cons (pe_ix ix_list (pv 4) (pv 7) (fun _ _ => rfl)) (pa_cons (pe_ix ix_list (pv 4) (pv 6) (fun _ _ => rfl)) pa_nil))))
        (pss_cons
        (ps_if (pt_cmpR op_gt (pe_call (ok_compare T) (hr.mono (by decide)) (by rfl) T.d_compare.g T.d_compare.F.kp T.d_compare.b .nil pass0 (pa_cons (pv 8) (pa_cons (pe_glob (v := .ref T.a_ONE) (by rfl) T.g_ONE rfl) pa_nil))) pe_int (nomark _)) (pss_one
        (ps_set (i := 8) sc_trial.nd rfl (.inl rfl) (pe_glob (v := .ref T.a_ONE) (by rfl) T.g_ONE rfl))) pss_nil)
        (pss_one
        (ps_expr (pe_bm PySem.F.plainAttrs_list PySem.F.slot_list_append PySem.F.type_list_append mt_append (pv 5) (pa_cons (pe_call (ok_table_row T) (hr.mono (by decide)) (by rfl) T.d_table_row.g T.d_table_row.F.kp T.d_table_row.b .nil pass0 (pa_cons (pe_disp (pps_cons (pv 6) (pe_call (ok_subtract T) (hr.mono (by decide)) (by rfl) T.d_subtract.g T.d_subtract.F.kp T.d_subtract.b .nil pass0 (pa_cons (pe_glob (v := .ref T.a_ONE) (by rfl) T.g_ONE rfl) (pa_cons (pv 8) pa_nil))) (pps_cons (pv 7) (pv 8) pps_nil)) (by rfl) (by rfl) (fun z => by cases z) (by decide)) pa_nil)) pa_nil))))))))
        (pss_one
        (ps_ret (pe_callTy call_tuple_of (by rfl) T.m_tuple (by decide +kernel) (pa_cons (pv 5) pa_nil)))))))), ?_⟩
    have h5 := G.n5
    have h32 : 2 ^ fs.length ≤ 32 := Nat.pow_le_pow_right (n := 2) (by decide) h5
    refine ⟨_, rfl, _, rfl, _, rfl, a, fs, es, p, q, x, y, rfl, hs, by omega, hp, hq, G.x0, G.y0, ?_⟩
    refine ⟨_, rfl, _, rfl, _, rfl, a, fs, es, p, q, x, y, rfl, hs, hp, hq, G, fun wl H1 s1 nw hl => ?_⟩
    refine ⟨by show 0 ≤ sizeLine; exact Nat.zero_le _, fun t ht => ?_⟩
    have s2 : Same H1 (upd H1 t (.lst [])) := same_new ht
    obtain ⟨wx, hwx, dwx⟩ := hl
    have lw : wx.length = 2 ^ fs.length := by rw [dwx.len]; exact wts_len
    refine ⟨_, rfl, wl, wx, rfl, .inl (s2.seq hwx), _, rfl, by omega, by omega, ?_⟩
    refine for_range (lo := 0) (n := (wx.length : Int).toNat) (fun i σ H' => ∃ y6 y7 y8 ys, σ = [some (.ref a), some (.int v), some p, some q, some (.ref wl), some (.ref t), y6, y7, y8] ∧ Same H1 H' ∧ H' t = some (.lst ys) ∧ ys.length ≤ i ∧ DeA K H' ys (((List.range i).map fun i => rowOf (2 ^ fs.length) (trP (wN fs es x y) fs.length v i)).map eR))
      ⟨none, none, none, [], rfl, s2, upd_same, Nat.le_refl _, .nil⟩ (fun i σ H' hi pp => ?_) (fun σ H' pp => ?_)
    · obtain ⟨y6, y7, y8, ys, rfl, s3, hys, lys, dys⟩ := pp
      have hi2 : i < 2 ^ fs.length := by omega
      have ho : turnN fs.length i v < 2 ^ fs.length := turnN_lt hi2 (by omega)
      have hwx3 := s3.seq hwx
      obtain ⟨dx, fa, ea, h1, h2, h3⟩ := (hs.up (s1.trans s3)).ex
      obtain ⟨wi, ewi, dwi⟩ := dwx.get (i := i) (d := eF (wN fs es x y i)) (by rw [List.getElem?_map, wts_at hi2]; rfl)
      obtain ⟨wo, ewo, dwo⟩ := dwx.get (i := turnN fs.length i v) (d := eF (wN fs es x y (turnN fs.length i v))) (by rw [List.getElem?_map, wts_at ho]; rfl)
      have e0 : (0 : Int) + (i : Int) = (i : Int) := Int.zero_add _
      rw [e0]
      refine ⟨_, rfl, a, T.C, dx, _, _, rfl, h1, T.cl, T.nF, spF_f fa ea, fa, _, rfl, .inr h2, _, rfl, _, rfl, fs.length, i, v, (by rw [List.length_map]; rfl), hv, by omega, ?_⟩
      refine ⟨_, rfl, _, rfl, wl, wx, turnN fs.length i v, wo, rfl, rfl, hwx3, atI_nat ewo, _, rfl, _, rfl, wl, wx, i, wi, rfl, rfl, hwx3, atI_nat ewi, wo, wi, _, _, rfl, dwo.up s3, dwi.up s3, G.sz1 ho, G.sz1 hi2, G.pos hi2, fun zs H4 s4 dzs => ?_⟩
      have szc := G.szdiv hi2 ho
      refine ⟨_, rfl, zs, .ref T.a_ONE, _, 1, rfl, dzs, de_one T H4, szc, Sz_one, fun c hc => ⟨_, _, rfl, rfl, _, rfl, ?_⟩⟩
      -- the chance is capped; the row
      have row : ∀ zc, De K H4 zc (eF (cap (wN fs es x y (turnN fs.length i v) / wN fs es x y i))) → (tDrop (tBM K "list" rAppend (tVar 5) (tCons (tCall (sp_table_row K) [] E0 (tCons (tDisp [(tVar 6, tCall (sp_subtract K) [] E0 (tCons (tC (.ref T.a_ONE)) (tCons (tVar 8) tNil))), (tVar 7, tVar 8)]) tNil)) tNil))) { nx := (fun σ H' => ∃ y6 y7 y8 ys, σ = [some (.ref a), some (.int v), some p, some q, some (.ref wl), some (.ref t), y6, y7, y8] ∧ Same H1 H' ∧ H' t = some (.lst ys) ∧ ys.length ≤ i + 1 ∧ DeA K H' ys (((List.range (i + 1)).map fun i => rowOf (2 ^ fs.length) (trP (wN fs es x y) fs.length v i)).map eR)), rt := Q }
          [some (.ref a), some (.int v), some p, some q, some (.ref wl), some (.ref t), some (.int i), some (.int (turnN fs.length i v)), some zc] H4 := by
        intro zc dzc
        refine ⟨_, rfl, .inl ⟨rfl, ys, .inl (.inl (s4 _ _ hys))⟩, fun D hD => ?_⟩
        have s5 : Same H4 (upd H4 D (.dK [])) := same_new hD
        refine ⟨_, rfl, _, rfl, _, _, _, _, rfl, de_one T _, dzc.up s5, Sz_one, cap_sz szc, trivial, fun z1 H6 s6 dz1 => ⟨_, rfl, _, rfl, s6 _ _ upd_same, [(Sum.inl (i : Int), z1), (Sum.inl (turnN fs.length i v : Int), zc)], rfl, by show 2 ≤ 15; decide, ?_⟩⟩
        have hd6 := s6 _ _ (upd_same (H := H4) (a := D) (o := .dK []))
        have dr : DR K H6 (mergeK [] [(Sum.inl (i : Int), z1), (Sum.inl (turnN fs.length i v : Int), zc)]) (2 ^ fs.length) (trP (wN fs es x y) fs.length v i) :=
          ((DR.nil (K := K) (H := H6) (N := 2 ^ fs.length)).put hi2 dz1).put ho (dzc.up (s5.trans s6))
        refine ⟨D, _, _, _, rfl, upd_same, dr.xt (xt_upd hd6 trivial), h32, fun z H7 e7 dz => ?_⟩
        have sB : Same H4 (upd H6 D (.dK (mergeK [] [(Sum.inl (i : Int), z1), (Sum.inl (turnN fs.length i v : Int), zc)]))) := same_mut (s5.trans s6) hD
        have sC := (s4.trans sB).trans e7
        have hys7 := sC _ _ hys
        refine ⟨t, ys, z, rfl, rfl, hys7, line' _ (by omega), _, _, _, _, rfl, same_mut (s3.trans sC) ht, upd_same, by simp; omega, ?_⟩
        rw [tab_snoc, List.map_append]
        exact ((dys.up sC).snoc dz).xt (xt_upd hys7 trivial)
      by_cases h1c : 1 < wN fs es x y (turnN fs.length i v) / wN fs es x y i
      · rw [decide_eq_true (hc.mpr h1c)]
        refine row (.ref T.a_ONE) ?_
        rw [show cap (wN fs es x y (turnN fs.length i v) / wN fs es x y i) = 1 from if_pos h1c]
        exact de_one T H4
      · rw [decide_eq_false fun z => h1c (hc.mp z)]
        refine row zs ?_
        rw [show cap (wN fs es x y (turnN fs.length i v) / wN fs es x y i) = wN fs es x y (turnN fs.length i v) / wN fs es x y i from if_neg h1c]
        exact dzs
    · obtain ⟨y6, y7, y8, ys, rfl, s3, hys, lys, dys⟩ := pp
      have en : (wx.length : Int).toNat = 2 ^ fs.length := by omega
      rw [en] at dys
      exact ⟨_, rfl, t, ys, rfl, .inl ⟨.inl (.inl hys), fun r hr2 => k _ _ ((s1.trans s3).trans (same_new hr2)) (de_new hr2 dys)⟩⟩
end
end K49
namespace K49
open PySem PySem.Spec PyProof.Rows L2
section
variable {P : Program} {w : World} {K : PySem.W.Frag} {mg : Str → Option Value} {base : Heap}
def sp_check_clusters (K : PySem.W.Frag) (C : Addr) : Sp := fun vs H Q _ => ∃ (a : Addr) (fs : List Int) (es : List (Nat × Nat × Int)) (u v : V) (x y : Rat), vs = [.ref a, u, v] ∧ SpR K C H a fs es ∧ De K H u (eF x) ∧ De K H v (eF y) ∧ Good fs es x y ∧ (∀ e ∈ es, 0 ≤ e.2.2) ∧ x ≤ 1 ∧ ∀ H', Same H H' → Q .non H'
theorem ok_check_clusters (T : Txt K mg) : FnOk P w K mg base CX0 3 T.d_check_clusters.f T.d_check_clusters.d ["spins", "x", "y"] (sp_check_clusters K T.C) := by
  refine T.d_check_clusters.F.ok sc_check_clusters (fun vs H Q E h => ?_) (fun cdv A outer s H vs Q E hr h => ?_)
  · obtain ⟨a, fs, es, u, v, x, y, rfl, _⟩ := h
    rfl
  · obtain ⟨a, fs, es, u, v, x, y, rfl, hs, hu, hv, G, hc, hx, k⟩ := h
    refine ⟨_, (pss_cons
        (ps_expr (pe_call (ok_check_size T) hr (by rfl) T.d_check_size.g T.d_check_size.F.kp T.d_check_size.b .nil pass0 (pa_cons (pv 0) (pa_cons (pv 1) (pa_cons (pv 2) pa_nil)))))
        (pss_cons
        (ps_expr (pe_call (ok_check_ferro T) (hr.mono (by decide)) (by rfl) T.d_check_ferro.g T.d_check_ferro.F.kp T.d_check_ferro.b .nil pass0 (pa_cons (pv 0) pa_nil)))
        (pss_cons
        (ps_if (pt_cmpR op_gt (pe_call (ok_compare T) (hr.mono (by decide)) (by rfl) T.d_compare.g T.d_compare.F.kp T.d_compare.b .nil pass0 (pa_cons (pv 1) (pa_cons (pe_glob (v := .ref T.a_ONE) (by rfl) T.g_ONE rfl) pa_nil))) pe_int (nomark _)) (pss_one
        ps_never) pss_nil)
        (pss_one
        (ps_if (pt_cmpR op_gt (pe_callB call_len_seq (by rfl) T.m_len PySem.boot_len (pa_cons (pe_fld (pv 0) rfl) pa_nil)) (pe_glob (v := .int 10) (by rfl) T.i_MOST_EDGES_moves.g ⟨_, rfl⟩) (nomark _)) (pss_one
        ps_never) pss_nil))))), ?_⟩
    have h5 := G.n5
    have h10 := G.el
    refine ⟨_, rfl, _, rfl, _, rfl, a, fs, es, u, v, x, y, rfl, hs, by omega, hu, hv, G.x0, G.y0, ?_⟩
    refine ⟨_, rfl, a, fs, es, rfl, hs, by omega, hc, fun H1 s1 => ?_⟩
    refine ⟨_, rfl, u, .ref T.a_ONE, x, 1, rfl, hu.up s1, de_one T H1, Sb_sz G.bx, Sz_one, fun c hc1 => ⟨_, _, rfl, rfl, _, rfl, ?_⟩⟩
    rw [decide_eq_false (fun z => by have := hc1.mp z; grind)]
    obtain ⟨dx, f, e, h1, h2, h3⟩ := (hs.up s1).ex
    obtain ⟨xs, ht, hd2⟩ := eE_of h3
    have hlen : xs.length = es.length := hd2.len
    refine ⟨_, rfl, a, T.C, dx, _, _, rfl, h1, T.cl, T.nE, spF_e f e, e, xs, rfl, .inr ht, _, _, rfl, rfl, _, rfl, ?_⟩
    rw [decide_eq_false (by omega)]
    exact k H1 s1
def sp_index (K : PySem.W.Frag) : Sp := fun vs H Q _ => ∃ (a : Addr) (s : List Int), vs = [.ref a] ∧ SqL K H a (s.map .int) ∧ s.length ≤ 60 ∧ (∀ b ∈ s, b = 0 ∨ b = 1) ∧ Q (.int (idx s : Nat)) H
theorem ok_index (T : Txt K mg) : FnOk P w K mg base CX0 1 T.d_index.f T.d_index.d ["state"] (sp_index K) := by
  refine T.d_index.F.ok sc_index (fun vs H Q E h => ?_) (fun cdv A outer s H vs Q E hr h => ?_)
  · obtain ⟨a, s, rfl, _⟩ := h
    rfl
  · obtain ⟨a, s, rfl, hs, hl, hb, k⟩ := h
    refine ⟨_, (pss_cons
        (ps_set (i := 1) sc_index.nd rfl (.inl rfl) pe_int)
        (pss_cons
        (ps_for PassesOwn.never rfl (pi_list (pv 0)) (pg_name (i := 2) sc_index.nd rfl (.inl rfl)) (pss_one
        (ps_set (i := 1) sc_index.nd rfl (.inl rfl) (pe_op op_add (pe_op op_mulW pe_int (pv 1)) (pv 2)))))
        (pss_one
        (ps_ret (pv 1))))), ?_⟩
    refine ⟨_, rfl, a, rfl, ⟨_, hs⟩, ?_⟩
    refine for_data (l := s) (by rw [← List.length_map (f := V.int)]; exact walk_list (K := K) (xs := s.map V.int)) (fun pre σ H' => ∃ y, σ = [some (.ref a), some (.int (idx pre : Nat)), y] ∧ H' = H) ⟨none, rfl, rfl⟩ (fun pre σ H' p => ?_) (fun pre b post x σ H' H2 el ei p y => ?_) (fun σ H' p => ?_)
    · obtain ⟨y, rfl, rfl⟩ := p
      exact hs
    · obtain ⟨y0, rfl, rfl⟩ := p
      obtain ⟨rfl, ex⟩ := y
      have ex : x = .int b := by
        rw [List.getElem?_map, ei] at ex
        exact (Option.some.inj ex).symm
      subst ex
      have hp : pre.length ≤ 60 := by
        have := congrArg List.length el
        rw [List.length_append] at this
        omega
      have hi := idx_lt pre fun c hc => hb c (by rw [el]; exact List.mem_append_left _ hc)
      have h60 : 2 ^ pre.length ≤ 2 ^ 60 := Nat.pow_le_pow_right (by decide) hp
      have hbb : b = 0 ∨ b = 1 := hb b (by rw [el]; simp)
      refine ⟨_, rfl, _, _, rfl, rfl, wide_mul (a := 3) (b := 62) (by decide) (by omega) (by decide) (by decide) (by decide), _, rfl, _, _, rfl, rfl, some (.int b), ?_, rfl⟩
      have e : 2 * ((idx pre : Nat) : Int) + b = ((idx (pre ++ [b]) : Nat) : Int) := by
        rw [idx_snoc]
        rcases hbb with rfl | rfl
        · show 2 * ((idx pre : Nat) : Int) + 0 = ((2 * idx pre + 0 : Nat) : Int)
          omega
        · show 2 * ((idx pre : Nat) : Int) + 1 = ((2 * idx pre + 1 : Nat) : Int)
          omega
      show [some (V.ref a), some (V.int (2 * ((idx pre : Nat) : Int) + b)), some (V.int b)] = _
      rw [e]
    · obtain ⟨y, rfl, rfl⟩ := p
      exact ⟨_, rfl, k⟩
end
end K49
namespace K49
open PySem PySem.Spec PyProof.Rows L2
abbrev nts (vs : List Nat) : List V := vs.map fun (v : Nat) => V.int (v : Int)
def eP (prs : List (Nat × Nat)) : PyData := .tuple (prs.map fun e => .tuple [.int e.1, .int e.2])
section
variable {P : Program} {w : World} {K : PySem.W.Frag} {mg : Str → Option Value} {base : Heap}
/-- clusters: a list of new lists -/
def CL (K : PySem.W.Frag) (N : Addr → Prop) (H : Hp) (c : Addr) (cs : List (List Nat)) : Prop :=
  N c ∧ ∃ xs, SqL K H c xs ∧ xs.length = cs.length ∧ ∀ (j : Nat) (x : V) (vs : List Nat), xs[j]? = some x → cs[j]? = some vs → ∃ r, x = .ref r ∧ N r ∧ SqL K H r (nts vs)
theorem CL.up {N : Addr → Prop} {H H' : Hp} {c : Addr} {cs : List (List Nat)} (s : Same H H') (h : CL K N H c cs) : CL K N H' c cs := by
  obtain ⟨n, xs, h1, h2, h3⟩ := h
  exact ⟨n, xs, s.seq h1, h2, fun j x vs a b => let ⟨r, e, nr, hr⟩ := h3 j x vs a b; ⟨r, e, nr, s.seq hr⟩⟩
theorem CL.but {N : Addr → Prop} {H H' : Hp} {c d : Addr} {cs : List (List Nat)} (s : But d H H') (hd : ∀ b, N b → b ≠ d) (h : CL K N H c cs) : CL K N H' c cs := by
  obtain ⟨n, xs, h1, h2, h3⟩ := h
  exact ⟨n, xs, sqL_but s (hd _ n) h1, h2, fun j x vs a b => let ⟨r, e, nr, hr⟩ := h3 j x vs a b; ⟨r, e, nr, sqL_but s (hd _ nr) hr⟩⟩
theorem CL.mono {N M : Addr → Prop} {H : Hp} {c : Addr} {cs : List (List Nat)} (m : ∀ b, N b → M b) (h : CL K N H c cs) : CL K M H c cs := by
  obtain ⟨n, xs, h1, h2, h3⟩ := h
  exact ⟨m _ n, xs, h1, h2, fun j x vs a b => let ⟨r, e, nr, hr⟩ := h3 j x vs a b; ⟨r, e, m _ nr, hr⟩⟩
/-- the dict of groups -/
structure GR (N : Addr → Prop) (H : Hp) (kvs : List (Key × V)) (g : List (Nat × List Nat)) : Prop where
  ks : kvs.map (·.1) = g.map fun q => (Sum.inl (q.1 : Int) : Key)
  nd : (g.map (·.1)).Nodup
  ad : ∃ ad : Nat → Addr, (∀ q ∈ g, valV kvs (.inl (q.1 : Int)) = some (.ref (ad q.1)) ∧ N (ad q.1) ∧ H (ad q.1) = some (.lst (nts q.2))) ∧ ∀ q ∈ g, ∀ r ∈ g, ad q.1 = ad r.1 → q.1 = r.1
theorem GR.up {N : Addr → Prop} {H H' : Hp} {kvs : List (Key × V)} {g : List (Nat × List Nat)} (s : Same H H') (h : GR N H kvs g) : GR N H' kvs g := by
  obtain ⟨h1, h2, ad, h3, h4⟩ := h
  exact ⟨h1, h2, ad, fun q hq => ⟨(h3 q hq).1, (h3 q hq).2.1, s _ _ (h3 q hq).2.2⟩, h4⟩
theorem GR.but {N : Addr → Prop} {H H' : Hp} {d : Addr} {kvs : List (Key × V)} {g : List (Nat × List Nat)} (s : But d H H') (hd : ∀ ls, H d ≠ some (.lst ls)) (h : GR N H kvs g) : GR N H' kvs g := by
  obtain ⟨h1, h2, ad, h3, h4⟩ := h
  exact ⟨h1, h2, ad, fun q hq => ⟨(h3 q hq).1, (h3 q hq).2.1, s _ _ (fun z => hd _ (z ▸ (h3 q hq).2.2)) (h3 q hq).2.2⟩, h4⟩
theorem nodup_fst {g : List (Nat × List Nat)} (nd : (g.map (·.1)).Nodup) {q r : Nat × List Nat} (hq : q ∈ g) (hr : r ∈ g) (e : q.1 = r.1) : q = r := by
  induction g with
  | nil => cases hq
  | cons a g ih =>
    rw [List.map_cons, List.nodup_cons] at nd
    rcases List.mem_cons.mp hq with h1 | h1
    · rcases List.mem_cons.mp hr with h2 | h2
      · rw [h1, h2]
      · exact absurd (List.mem_map.mpr ⟨r, h2, by rw [← e, h1]⟩) nd.1
    · rcases List.mem_cons.mp hr with h2 | h2
      · exact absurd (List.mem_map.mpr ⟨q, h1, by rw [e, h2]⟩) nd.1
      · exact ih nd.2 h1 h2
/-- the vertex goes into a group that is there -/
theorem GR.old {N : Addr → Prop} {H : Hp} {kvs : List (Key × V)} {g : List (Nat × List Nat)} (h : GR N H kvs g) {p v : Nat} (hp : p ∈ g.map (·.1)) :
    ∃ r vs, valV kvs (.inl (p : Int)) = some (.ref r) ∧ H r = some (.lst (nts vs)) ∧ N r ∧ (p, vs) ∈ g ∧ GR N (upd H r (.lst (nts vs ++ [.int (v : Int)]))) kvs (gput g p v) := by
  obtain ⟨h1, h2, ad, h3, h4⟩ := h
  obtain ⟨q, hq, e⟩ := List.mem_map.mp hp
  obtain ⟨p', vs⟩ := q
  have e : p' = p := e
  subst e
  obtain ⟨a1, a2, a3⟩ := h3 _ hq
  refine ⟨ad p', vs, a1, a3, a2, hq, ?_, gput_nodup h2, ad, fun r hr => ?_, fun r hr s hs e => ?_⟩
  · rw [h1]
    have := gput_keys g p' v
    rw [if_pos hp] at this
    have e2 := congrArg (List.map fun (k : Nat) => (Sum.inl (k : Int) : Key)) this
    rw [List.map_map, List.map_map] at e2
    exact e2.symm
  · rcases mem_gput hr with ⟨n1, hr⟩ | ⟨n1, _⟩ | ⟨us, hu, rfl⟩
    · obtain ⟨b1, b2, b3⟩ := h3 r hr
      refine ⟨b1, b2, ?_⟩
      rw [upd_ne fun z => n1 (h4 r hr _ hq z)]
      exact b3
    · exact absurd hp n1
    · have e := nodup_fst h2 hu hq rfl
      cases e
      refine ⟨a1, a2, ?_⟩
      rw [upd_same]
      show some (HO.lst (nts vs ++ [V.int (v : Int)])) = some (HO.lst (nts (vs ++ [v])))
      unfold nts
      rw [List.map_append]
      rfl
  · have key : ∀ t ∈ gput g p' v, ∃ t' ∈ g, t'.1 = t.1 := fun t ht => by
      rcases mem_gput ht with ⟨_, ht⟩ | ⟨n1, _⟩ | ⟨us, hu, rfl⟩
      · exact ⟨t, ht, rfl⟩
      · exact absurd hp n1
      · exact ⟨_, hu, rfl⟩
    obtain ⟨r', hr', er⟩ := key r hr
    obtain ⟨s', hs', es⟩ := key s hs
    rw [← er, ← es] at e ⊢
    exact h4 _ hr' _ hs' e
/-- a new group at t -/
theorem GR.new {N : Addr → Prop} {H : Hp} {kvs : List (Key × V)} {g : List (Nat × List Nat)} (h : GR N H kvs g) {p v : Nat} (hp : p ∉ g.map (·.1)) {t d : Addr} (ht : ∀ q ∈ g, ∀ r, valV kvs (.inl (q.1 : Int)) = some (.ref r) → r ≠ t) (nt : N t) {o : HO} (htd : t ≠ d) (hdl : ∀ ls, H d ≠ some (.lst ls)) :
    GR N (upd (upd H d o) t (.lst [.int (v : Int)])) (putK kvs (.inl (p : Int)) (.ref t)) (gput g p v) := by
  obtain ⟨h1, h2, ad, h3, h4⟩ := h
  have hn : valV kvs (.inl (p : Int)) = none := by
    cases e : valV kvs (.inl (p : Int)) with
    | none => rfl
    | some x =>
      have := valV_in e
      rw [h1] at this
      obtain ⟨q, hq, e2⟩ := List.mem_map.mp this
      have e3 := Sum.inl.inj e2
      exact absurd (List.mem_map.mpr ⟨q, hq, by omega⟩) hp
  have eg : gput g p v = g ++ [(p, [v])] := if_neg hp
  have hne : ∀ q ∈ g, q.1 ≠ p := fun q hq z => hp (List.mem_map.mpr ⟨q, hq, z⟩)
  refine ⟨?_, gput_nodup h2, fun k => if k = p then t else ad k, fun r hr => ?_, fun r hr s hs e => ?_⟩
  · rw [putK_new _ hn, eg, List.map_append, List.map_append, h1]
    rfl
  · rw [eg] at hr
    rw [valV_put]
    rcases List.mem_append.mp hr with hr | hr
    · obtain ⟨b1, b2, b3⟩ := h3 r hr
      have n1 := hne r hr
      show (if _ then _ else _) = some (V.ref (if r.1 = p then t else ad r.1)) ∧ N (if r.1 = p then t else ad r.1) ∧ upd (upd H d o) t (.lst [.int (v : Int)]) (if r.1 = p then t else ad r.1) = _
      rw [if_neg n1, if_neg (show ¬ (Sum.inl (r.1 : Int) : Key) = Sum.inl (p : Int) from fun z => n1 (by have := Sum.inl.inj z; omega))]
      refine ⟨b1, b2, ?_⟩
      rw [upd_ne (ht r hr _ b1), upd_ne fun z => hdl _ (z ▸ b3)]
      exact b3
    · have e := List.mem_singleton.mp hr
      subst e
      show (if _ then _ else _) = some (V.ref (if p = p then t else ad p)) ∧ N (if p = p then t else ad p) ∧ upd (upd H d o) t (.lst [.int (v : Int)]) (if p = p then t else ad p) = _
      rw [if_pos rfl, if_pos rfl]
      exact ⟨rfl, nt, upd_same⟩
  · rw [eg] at hr hs
    have e : (if r.1 = p then t else ad r.1) = (if s.1 = p then t else ad s.1) := e
    rcases List.mem_append.mp hr with hr | hr
    · rw [if_neg (hne r hr)] at e
      rcases List.mem_append.mp hs with hs | hs
      · rw [if_neg (hne s hs)] at e
        exact h4 r hr s hs e
      · rw [List.mem_singleton.mp hs] at e
        rw [if_pos rfl] at e
        exact absurd e (ht r hr _ (h3 r hr).1)
    · have er := List.mem_singleton.mp hr
      subst er
      rw [if_pos rfl] at e
      rcases List.mem_append.mp hs with hs | hs
      · rw [if_neg (hne s hs)] at e
        exact absurd e.symm (ht s hs _ (h3 s hs).1)
      · rw [List.mem_singleton.mp hs]
def sp_clusters (K : PySem.W.Frag) : Sp := fun vs H Q _ => ∃ (n : Nat) (u : V) (prs : List (Nat × Nat)), vs = [.int n, u] ∧ De K H u (eP prs) ∧ n ≤ 6 ∧ (∀ e ∈ prs, e.1 < n ∧ e.2 < n) ∧ ∀ p H', Same H H' → CL K (fun b => H b = none) H' p (clus n prs) → Q (.ref p) H'
theorem ok_clusters (T : Txt K mg) : FnOk P w K mg base CX0 1 T.d_clusters.f T.d_clusters.d ["count", "pairs"] (sp_clusters K) := by
  refine T.d_clusters.F.ok sc_clusters (fun vs H Q E h => ?_) (fun cdv A outer s H vs Q E hr h => ?_)
  · obtain ⟨n, u, prs, rfl, _⟩ := h
    rfl
  · obtain ⟨n, u, prs, rfl, hu, hn, hp, k⟩ := h
    refine ⟨_, (pss_cons
        (ps_set (i := 2) sc_clusters.nd rfl (.inr rfl) (pe_listRg rfl (by rfl) T.m_list (prg_1 (by rfl) T.m_range (pv 0))))
        (pss_cons
        (ps_for PassesOwn.never rfl (pi_tup (pv 1)) (pg_tup rfl (pgs_cons (pg_name (i := 3) sc_clusters.nd rfl (.inr rfl)) (pgs_cons (pg_name (i := 4) sc_clusters.nd rfl (.inl rfl)) pgs_nil))) (pss_cons
        (ps_set (i := 5) sc_clusters.nd rfl (.inr rfl) (pe_ix ix_list (pv 2) (pv 4) (fun _ _ => rfl)))
        (pss_one
        (ps_set (i := 2) sc_clusters.nd rfl (.inr rfl) (pe_lc (own := [("part", 6)]) rfl sc_clusters.nd (pi_list (pv 2)) (blkOk_by (N := ["count", "pairs", "parts", "u", "v", "old", "part", "groups", "vertex"]) (sc := defScope s_clusters) (own := [("part", 6)]) (by decide +kernel)) (fun _ _ _ _ _ => (pg_name (i := 6) sc_clusters.nd rfl (by first | exact .inl rfl | exact .inr rfl))) (fun _ _ _ _ _ => pts_nil) (fun _ _ _ _ _ => (pe_ifExp (pt_cmpR op_eq (pv 6) (pv 5) (nomark _)) (pe_ix (ix_listK (K := K) rfl) (pv 2) (pv 3) (fun _ _ => rfl)) (pv 6))))))))
        (pss_cons
        (ps_set (i := 7) sc_clusters.nd rfl (.inl rfl) pe_dnewK)
        (pss_cons
        (ps_for PassesOwn.never rfl (pi_enum (by rfl) T.m_enumerate (pa_cons (pv 2) pa_nil)) (pg_tup rfl (pgs_cons (pg_name (i := 8) sc_clusters.nd rfl (.inl rfl)) (pgs_cons (pg_name (i := 6) sc_clusters.nd rfl (.inl rfl)) pgs_nil))) (pss_one
        (ps_expr (pe_bm PySem.F.plainAttrs_list PySem.F.slot_list_append PySem.F.type_list_append mt_append (pe_dsetd (pv 7) (pv 6) (pe_lst pa_nil) ⟨rfl, rfl, rfl, rfl⟩) (pa_cons (pv 8) pa_nil)))))
        (pss_one
        (ps_ret (pe_listVals rfl (pv 7) (by rfl) T.m_list (by decide +kernel)))))))), ?_⟩
    obtain ⟨ua, us, rfl, hus, dus⟩ := hu.tup_of
    refine ⟨_, rfl, n, rfl, RgOk.of_le (by omega) (by omega) (by omega) (by omega), fun q hq => ?_⟩
    have sq : Same H (upd H q (.lst (rgV 0 (n : Int)))) := same_new hq
    have erg : rgV 0 (n : Int) = nts (List.range n) := by
      unfold rgV nts
      have e1 : ((n : Int) - 0).toNat = n := by omega
      rw [e1]
      apply List.map_congr_left
      intro i _
      rw [Int.zero_add]
    have lus : us.length = prs.length := dus.len
    refine ⟨_, rfl, ua, rfl, ⟨us, sqT_xt (xt_same sq) hus⟩, ?_⟩
    refine for_data (l := prs) (by rw [← lus]; exact walk_tup (K := K) (xs := us)) (fun pre σ H' => ∃ a y3 y4 y5 y6 y7 y8, σ = [some (.int n), some (.ref ua), some (.ref a), y3, y4, y5, y6, y7, y8] ∧ Same H H' ∧ H' a = some (.lst (nts (partsF (List.range n) pre))))
      ⟨q, none, none, none, none, none, none, rfl, sq, by rw [upd_same, erg]; rfl⟩ (fun pre σ H' p => ?_) (fun pre e post x σ H' H2 el ei p y => ?_) (fun σ H' p => ?_)
    · obtain ⟨a, y3, y4, y5, y6, y7, y8, rfl, s1, _⟩ := p
      exact sqT_xt (xt_same s1) hus
    · obtain ⟨a, y3, y4, y5, y6, y7, y8, rfl, s1, ha⟩ := p
      obtain ⟨rfl, ex⟩ := y
      obtain ⟨t, zs, rfl, q2, q3⟩ := ((dus.at_ ex ei).up s1).tup_of
      have ez := DeA.ints_of (ns := [(e.1 : Int), e.2]) q3
      subst ez
      have hpe := hp e (by rw [el]; simp)
      generalize hps : partsF (List.range n) pre = ps at ha
      have lps : ps.length = n := by rw [← hps, partsF_len, List.length_range]
      have at2 : ∀ j : Nat, j < n → atI (nts ps) (j : Int) = some (.int (ps.getD j 0 : Nat)) := fun j hj => atI_nat (by rw [List.getElem?_map, List.getD, List.getElem?_eq_getElem (by omega)]; rfl)
      refine ⟨t, _, rfl, q2, rfl, _, _, rfl, _, _, rfl, rfl, ?_⟩
      refine ⟨_, rfl, _, rfl, a, _, _, _, rfl, rfl, .inl (.inl ha), at2 _ hpe.2, ?_⟩
      have hsl : SqL K H2 a (nts ps) := .inl (.inl ha)
      refine ⟨_, rfl, a, rfl, ⟨_, hsl⟩, fun D hD => ?_⟩
      refine lc_data (K := K) (l := ps) (by rw [← List.length_map (f := fun (v : Nat) => V.int (v : Int))]; exact walk_list (K := K) (xs := nts ps)) (fun (p : Nat) => .int (p : Int)) (fun p => some (if p = ps.getD e.2 0 then ps.getD e.1 0 else p)) (fun G sG => sG.seq hsl) hD (line' _ (by omega)) (fun i p x G G' ei2 sG y Ky Kn ky kn => ?_) (fun G ys sG hys hyl hd => ?_)
      · obtain ⟨rfl, ex⟩ := y
        have ex : x = .int (p : Int) := by
          rw [List.getElem?_map, ei2] at ex
          exact (Option.some.inj ex).symm
        subst ex
        refine ⟨rfl, _, rfl, _, rfl, rfl, _, rfl, ite2 (fun hc => ?_) (fun hc => ?_)⟩
        · have hc2 : (p : Int) = (ps.getD e.2 0 : Nat) := V.int.inj (of_decide_eq_true hc)
          refine ⟨_, rfl, _, rfl, a, _, _, _, rfl, rfl, .inl (.inl (sG _ _ ha)), at2 _ hpe.1, ky _ _ (ps.getD e.1 0) (by rw [if_pos (by omega)]) (Same.refl _) (.int _)⟩
        · have hc2 : ¬ p = ps.getD e.2 0 := fun z => hc (decide_eq_true (by rw [z]))
          exact ⟨_, rfl, ky _ _ p (by rw [if_neg hc2]) (Same.refl _) (.int _)⟩
      · refine ⟨D, _, _, _, _, _, _, rfl, s1.trans sG, ?_⟩
        rw [hys, partsF_snoc, hps]
        have e1 : (ps.filterMap fun p => some (if p = ps.getD e.2 0 then ps.getD e.1 0 else p)) = partU ps e := by
          unfold partU
          rw [List.filterMap_eq_map']
        rw [e1] at hd
        have e2 : ((partU ps e).map fun (p : Nat) => PyData.int (p : Int)) = ((partU ps e).map fun (p : Nat) => (p : Int)).map PyData.int := by rw [List.map_map]; rfl
        rw [e2] at hd
        have ey := DeA.ints_of hd
        rw [ey, List.map_map]
        rfl
    · obtain ⟨a, y3, y4, y5, y6, y7, y8, rfl, s1, ha⟩ := p
      generalize hps : partsF (List.range n) prs = ps at ha
      have lps : ps.length = n := by rw [← hps, partsF_len, List.length_range]
      intro d hd
      have sd : Same H' (upd H' d (.dK [])) := same_new hd
      refine ⟨_, rfl, a, _, rfl, .inl (.inl (sd _ _ ha)), ?_⟩
      refine for_data (l := ps) (by rw [← List.length_map (f := fun (v : Nat) => V.int (v : Int))]; exact walk_enum (K := K) (xs := nts ps)) (fun pre σ G => ∃ y6 y8 kvs, σ = [some (.int n), some (.ref ua), some (.ref a), y3, y4, y5, y6, some (.ref d), y8] ∧ Same H' G ∧ G d = some (.dK kvs) ∧ GR (fun b => H' b = none) G kvs (grp pre))
        ⟨_, _, [], rfl, sd, upd_same, ⟨rfl, .nil, fun _ => 0, (fun q hq => by cases hq), (fun q hq => by cases hq)⟩⟩ (fun pre σ G p => ?_) (fun pre p post x σ G G2 el ei pp y => ?_) (fun σ G p => ?_)
      · obtain ⟨y6, y8, kvs, rfl, s2, _⟩ := p
        exact .inl (.inl (s2 _ _ ha))
      · obtain ⟨y6, y8, kvs, rfl, s2, hk, gr⟩ := pp
        obtain ⟨t, x1, x2, rfl, ht, rfl, ex1, ex2⟩ := y
        have ex1 : x1 = .int (pre.length : Nat) := (Option.some.inj ex1).symm
        have ex2 : x2 = .int (p : Nat) := by
          have ex2 : (nts ps)[pre.length]? = some x2 := ex2
          rw [List.getElem?_map, ei] at ex2
          exact (Option.some.inj ex2).symm
        subst ex1 ex2
        have st : Same G (upd G t (.tup [.int (pre.length : Nat), .int (p : Nat)])) := same_new ht
        have hpl : pre.length ≤ 6 := by
          have := congrArg List.length el
          rw [List.length_append] at this
          omega
        have hkl : kvs.length ≤ 6 := by
          have h1 := congrArg List.length gr.ks
          have h2 := grp_len pre
          rw [List.length_map, List.length_map] at h1
          omega
        refine ⟨t, _, rfl, .inl (.inl upd_same), rfl, _, _, rfl, _, _, rfl, rfl, ?_⟩
        refine ⟨_, rfl, d, rfl, .inl ⟨kvs, .inl (st _ _ hk)⟩, _, rfl, (by show 0 ≤ sizeLine; exact Nat.zero_le _), fun b hb => ?_⟩
        have sb := same_new (o := .lst []) hb
        have gr2 := gr.up (st.trans sb)
        have hk2 := (st.trans sb) _ _ hk
        refine ⟨kvs, .inl (p : Int), hk2, rfl, line' _ (by omega), fun v hv => ?_, fun hv => ?_⟩
        · have hin : p ∈ (grp pre).map (·.1) := by
            have h1 := valV_in hv
            rw [gr.ks] at h1
            obtain ⟨q, hq, e⟩ := List.mem_map.mp h1
            have := Sum.inl.inj e
            exact List.mem_map.mpr ⟨q, hq, by omega⟩
          obtain ⟨r, vs, e1, e2, e3, e4, e5⟩ := gr2.old (v := pre.length) hin
          rw [hv] at e1
          cases e1
          refine ⟨.inl ⟨rfl, _, .inl (.inl e2)⟩, _, rfl, r, _, _, rfl, rfl, e2, ?_, ?_⟩
          · have hvl : vs.length ≤ 100 := by
              have : vs.length ≤ pre.length := grp_size pre (p, vs) e4
              omega
            rw [List.length_map]
            exact line' _ (by omega)
          · refine ⟨_, _, kvs, rfl, same_mut ((s2.trans st).trans sb) e3, ?_, ?_⟩
            · rw [upd_ne fun z => by rw [z, e2] at hk2; cases hk2]
              exact hk2
            · rw [grp_snoc]
              exact e5
        · have hin : p ∉ (grp pre).map (·.1) := fun z => by
            obtain ⟨r, vs, e1, _⟩ := gr2.old (v := 0) z
            rw [hv] at e1
            cases e1
          have hbd : b ≠ d := fun z => by
            subst z
            rw [st _ _ hk] at hb
            cases hb
          refine ⟨.inl ⟨rfl, [], .inl (.inl (by rw [upd_ne hbd]; exact upd_same))⟩, _, rfl, b, [], _, rfl, rfl, (by rw [upd_ne hbd]; exact upd_same), (by show 0 < sizeLine; decide), ?_⟩
          have nb : H' b = none := (s2.trans st).free hb
          refine ⟨_, _, putK kvs (Sum.inl (p : Int)) (.ref b), rfl, same_mut (same_mut ((s2.trans st).trans sb) hd) nb, ?_, ?_⟩
          · rw [upd_ne fun z => hbd z.symm, upd_same]
          · rw [grp_snoc]
            refine gr2.new hin (fun q hq r hr z => ?_) nb hbd (fun ls z => by rw [hk2] at z; cases z)
            subst z
            obtain ⟨_, _, ad, h3, _⟩ := gr
            obtain ⟨c1, c2, c3⟩ := h3 q hq
            rw [hr] at c1
            cases c1
            rw [st _ _ c3] at hb
            cases hb
      · obtain ⟨y6, y8, kvs, rfl, s2, hk, gr⟩ := p
        refine ⟨_, rfl, d, kvs, rfl, hk, fun p hp2 => ?_⟩
        have sp : Same G (upd G p (.lst (kvs.map (·.2)))) := same_new hp2
        refine k p _ (s1.trans (s2.trans sp)) ⟨(s1.trans s2).free hp2, _, .inl (.inl upd_same), ?_, fun j x vs ex ev => ?_⟩
        · have h1 := congrArg List.length gr.ks
          rw [List.length_map, List.length_map] at h1
          unfold clus
          rw [List.length_map, List.length_map, hps, h1]
        · unfold clus at ev
          rw [hps] at ev
          obtain ⟨h1, h2, ad, h3, h4⟩ := gr
          rw [List.getElem?_map] at ex ev
          obtain ⟨kv, e1, rfl⟩ := Option.map_eq_some_iff.mp ex
          obtain ⟨q, e2, rfl⟩ := Option.map_eq_some_iff.mp ev
          have hkey : kv.1 = (.inl (q.1 : Int) : Key) := by
            have := congrArg (fun l => l[j]?) h1
            simp only [List.getElem?_map, e1, e2, Option.map_some] at this
            exact Option.some.inj this
          have ndk : (kvs.map (·.1)).Nodup := by
            rw [h1, show (fun q : Nat × List Nat => (Sum.inl (q.1 : Int) : Key)) = (fun (i : Nat) => (Sum.inl (i : Int) : Key)) ∘ (·.1) from rfl, ← List.map_map]
            rw [List.Nodup, List.pairwise_map]
            exact h2.imp fun h z => h (by have := Sum.inl.inj z; omega)
          have hv := val_nodup ndk kv (List.mem_of_getElem? e1)
          obtain ⟨c1, c2, c3⟩ := h3 q (List.mem_of_getElem? e2)
          rw [hkey, c1] at hv
          exact ⟨ad q.1, (Option.some.inj hv).symm, s1.free c2, .inl (.inl (sp _ _ c3))⟩
end
end K49
namespace K49
open PySem PySem.Spec PyProof.Rows L2
def ePC (p : List (Nat × Nat) × Rat) : PyData := .tuple [eP p.1, eF p.2]
section
variable {P : Program} {w : World} {K : PySem.W.Frag} {mg : Str → Option Value} {base : Heap}
theorem two_of {H : Hp} {v : V} {d1 d2 : PyData} (h : De K H v (.tuple [d1, d2])) : ∃ t z1 z2, v = .ref t ∧ SqT K H t [z1, z2] ∧ De K H z1 d1 ∧ De K H z2 d2 := by
  obtain ⟨t, xs, rfl, hs, ha⟩ := h.tup_of
  cases ha with
  | cons h1 h2 =>
    cases h2 with
    | cons h3 h4 =>
      cases h4
      exact ⟨t, _, _, rfl, hs, h1, h3⟩
def KE (K : PySem.W.Frag) (N : Addr → Prop) (H : Hp) (x : V) (k : List (List Nat) × Rat) : Prop := ∃ t c z, x = .ref t ∧ SqT K H t [.ref c, z] ∧ De K H z (eF k.2) ∧ CL K N H c k.1
theorem KE.up {N : Addr → Prop} {H H' : Hp} {x : V} {k : List (List Nat) × Rat} (s : Same H H') (h : KE K N H x k) : KE K N H' x k := by
  obtain ⟨t, c, z, e, h1, h2, h3⟩ := h
  exact ⟨t, c, z, e, sqT_xt (xt_same s) h1, h2.up s, h3.up s⟩
theorem KE.but {N : Addr → Prop} {H H' : Hp} {x : V} {d : Addr} {u : HO} {k : List (List Nat) × Rat} (s : But d H H') (hu : H d = some u) (m : Mu u) (hd : ∀ b, N b → b ≠ d) (h : KE K N H x k) : KE K N H' x k := by
  obtain ⟨t, c, z, e, h1, h2, h3⟩ := h
  have xt := xt_but hu m s
  exact ⟨t, c, z, e, sqT_xt xt h1, h2.xt xt, h3.but s hd⟩
/-- a list of kept sets -/
def KL (K : PySem.W.Frag) (N : Addr → Prop) (H : Hp) (p : Addr) (ks : List (List (List Nat) × Rat)) : Prop :=
  N p ∧ ∃ xs, SqL K H p xs ∧ xs.length = ks.length ∧ ∀ (j : Nat) (x : V) k, xs[j]? = some x → ks[j]? = some k → KE K N H x k
theorem KL.up {N : Addr → Prop} {H H' : Hp} {p : Addr} {ks : List (List (List Nat) × Rat)} (s : Same H H') (h : KL K N H p ks) : KL K N H' p ks := by
  obtain ⟨n, xs, h1, h2, h3⟩ := h
  exact ⟨n, xs, s.seq h1, h2, fun j x k a b => (h3 j x k a b).up s⟩
theorem KL.but {N : Addr → Prop} {H H' : Hp} {p d : Addr} {u : HO} {ks : List (List (List Nat) × Rat)} (s : But d H H') (hu : H d = some u) (m : Mu u) (hd : ∀ b, N b → b ≠ d) (h : KL K N H p ks) : KL K N H' p ks := by
  obtain ⟨n, xs, h1, h2, h3⟩ := h
  exact ⟨n, xs, sqL_but s (hd _ n) h1, h2, fun j x k a b => (h3 j x k a b).but s hu m hd⟩
def sp_kept_sets (K : PySem.W.Frag) (C : Addr) : Sp := fun vs H Q _ => ∃ (a : Addr) (fs : List Int) (es : List (Nat × Nat × Int)) (u v : V) (s : List Int) (x : Rat), vs = [.ref a, u, v] ∧ SpR K C H a fs es ∧ De K H u (eS s) ∧ De K H v (eF x) ∧ Sb x ∧ fs.length ≤ 6 ∧ s.length = fs.length ∧ es.length ≤ 10 ∧
  (∀ e ∈ es, e.1 < fs.length ∧ e.2.1 < fs.length ∧ e.2.2.natAbs ≤ 1000) ∧ KOk x s es ∧ ∀ p H', Same H H' → KL K (fun b => H b = none) H' p (keptC fs.length x s es) → Q (.ref p) H'
theorem ok_kept_sets (T : Txt K mg) : FnOk P w K mg base CX0 4 T.d_kept_sets.f T.d_kept_sets.d ["spins", "state", "x"] (sp_kept_sets K T.C) := by
  refine T.d_kept_sets.F.ok sc_kept_sets (fun vs H Q E h => ?_) (fun cdv A outer s H vs Q E hr h => ?_)
  · obtain ⟨a, fs, es, u, v, s, x, rfl, _⟩ := h
    rfl
  · obtain ⟨a, fs, es, u, v, st, x, rfl, hs, hu, hv, bx, hn, hst, he, hes, ok, k⟩ := h
    obtain ⟨b, rfl, hb⟩ := eS_of hu
    refine ⟨_, (pss_cons
        (ps_set (i := 3) sc_kept_sets.nd rfl (.inl rfl) (pe_lst (pa_cons (pe_tup (pa_cons (pe_tup pa_nil) (pa_cons (pe_glob (v := .ref T.a_ONE) (by rfl) T.g_ONE rfl) pa_nil))) pa_nil)))
        (pss_cons
        (ps_for PassesOwn.never rfl (pi_tup (pe_fld (pv 0) rfl)) (pg_tup rfl (pgs_cons (pg_name (i := 4) sc_kept_sets.nd rfl (.inr rfl)) (pgs_cons (pg_name (i := 5) sc_kept_sets.nd rfl (.inr rfl)) (pgs_cons (pg_name (i := 6) sc_kept_sets.nd rfl (.inl rfl)) pgs_nil)))) (pss_one
        (ps_if (pt_cmpR op_eq (pe_ix ix_tup (pv 1) (pv 4) (fun _ _ => rfl)) (pe_ix ix_tup (pv 1) (pv 5) (fun _ _ => rfl)) (nomark _)) (pss_cons
        (ps_set (i := 7) sc_kept_sets.nd rfl (.inr rfl) (pe_call (ok_raised T) hr (by rfl) T.d_raised.g T.d_raised.F.kp T.d_raised.b .nil pass0 (pa_cons (pv 2) (pa_cons (pv 6) pa_nil))))
        (pss_cons
        (ps_setLc (i := 8) (own := [("pairs", 10), ("chance", 11)]) rfl sc_kept_sets.nd rfl rfl (sw_true rfl rfl rfl (by decide +kernel)) (pi_list (pv 3)) (blkOk_by (N := ["spins", "state", "x", "found", "u", "v", "coupling", "left", "kept", "count", "pairs", "chance"]) (sc := defScope s_kept_sets) (own := [("pairs", 10), ("chance", 11)]) (by decide +kernel)) (fun _ _ _ _ _ => (pg_tupK (K := K) (n := 2) rfl rfl (pgs_cons (pg_name (i := 10) sc_kept_sets.nd rfl (by first | exact .inl rfl | exact .inr rfl)) (pgs_cons (pg_name (i := 11) sc_kept_sets.nd rfl (by first | exact .inl rfl | exact .inr rfl)) pgs_nil)))) (fun _ _ _ _ _ => pts_nil) (fun _ _ _ _ _ => (pe_tup (pa_cons (pe_op (op_catAK (K := K) rfl) (pv 10) (pe_tup (pa_cons (pe_tup (pa_cons (pv 4) (pa_cons (pv 5) pa_nil))) pa_nil))) (pa_cons (pe_call (ok_multiply T) (hr.mono (by decide)) (by rfl) T.d_multiply.g T.d_multiply.F.kp T.d_multiply.b .nil pass0 (pa_cons (pv 11) (pa_cons (pe_call (ok_subtract T) (hr.mono (by decide)) (by rfl) T.d_subtract.g T.d_subtract.F.kp T.d_subtract.b .nil pass0 (pa_cons (pe_glob (v := .ref T.a_ONE) (by rfl) T.g_ONE rfl) (pa_cons (pv 7) pa_nil))) pa_nil))) pa_nil)))))
        (pss_one
        (ps_set (i := 3) sc_kept_sets.nd rfl (.inl rfl) (pe_op op_cat (pv 8) (pe_lc (own := [("pairs", 10), ("chance", 11)]) rfl sc_kept_sets.nd (pi_list (pv 3)) (blkOk_by (N := ["spins", "state", "x", "found", "u", "v", "coupling", "left", "kept", "count", "pairs", "chance"]) (sc := defScope s_kept_sets) (own := [("pairs", 10), ("chance", 11)]) (by decide +kernel)) (fun _ _ _ _ _ => (pg_tupK (K := K) (n := 2) rfl rfl (pgs_cons (pg_name (i := 10) sc_kept_sets.nd rfl (by first | exact .inl rfl | exact .inr rfl)) (pgs_cons (pg_name (i := 11) sc_kept_sets.nd rfl (by first | exact .inl rfl | exact .inr rfl)) pgs_nil)))) (fun _ _ _ _ _ => pts_nil) (fun _ _ _ _ _ => (pe_tup (pa_cons (pv 10) (pa_cons (pe_call (ok_multiply T) (hr.mono (by decide)) (by rfl) T.d_multiply.g T.d_multiply.F.kp T.d_multiply.b .nil pass0 (pa_cons (pv 11) (pa_cons (pv 7) pa_nil))) pa_nil)))))))))) pss_nil)))
        (pss_cons
        (ps_set (i := 9) sc_kept_sets.nd rfl (.inr rfl) (pe_callB call_len_seq (by rfl) T.m_len PySem.boot_len (pa_cons (pe_fld (pv 0) rfl) pa_nil)))
        (pss_one
        (ps_ret (pe_lc (own := [("pairs", 10), ("chance", 11)]) rfl sc_kept_sets.nd (pi_list (pv 3)) (blkOk_by (N := ["spins", "state", "x", "found", "u", "v", "coupling", "left", "kept", "count", "pairs", "chance"]) (sc := defScope s_kept_sets) (own := [("pairs", 10), ("chance", 11)]) (by decide +kernel)) (fun _ _ _ _ _ => (pg_tupK (K := K) (n := 2) rfl rfl (pgs_cons (pg_name (i := 10) sc_kept_sets.nd rfl (by first | exact .inl rfl | exact .inr rfl)) (pgs_cons (pg_name (i := 11) sc_kept_sets.nd rfl (by first | exact .inl rfl | exact .inr rfl)) pgs_nil)))) (fun _ _ _ _ _ => (pts_one (pt_cmpR (op_neDK (K := K) rfl hr.units) (pv 11) (pe_glob (v := .ref T.a_ZERO) (by rfl) T.g_ZERO rfl) (nomark _)))) (fun _ _ _ _ _ => (pe_tup (pa_cons (pe_call (ok_clusters T) (hr.mono (by decide)) (by rfl) T.d_clusters.g T.d_clusters.F.kp T.d_clusters.b .nil pass0 (pa_cons (pv 9) (pa_cons (pv 10) pa_nil))) (pa_cons (pv 11) pa_nil)))))))))), ?_⟩
    refine ⟨by show 0 ≤ sizeLine; exact Nat.zero_le _, fun t0 ht0 => ⟨by show 2 ≤ sizeLine; decide, fun t1 ht1 => ⟨by show 1 ≤ sizeLine; decide, fun f hf => ?_⟩⟩⟩
    have s0 : Same H (upd H t0 (.tup [])) := same_new ht0
    have s1 := s0.trans (same_new (o := .tup [.ref t0, .ref T.a_ONE]) ht1)
    have sf := s1.trans (same_new (o := .lst [.ref t1]) hf)
    obtain ⟨dx, fa, ea, h1, h2, h3⟩ := hs.ex
    refine ⟨_, rfl, a, T.C, dx, _, _, rfl, sf _ _ h1, T.cl, T.nE, spF_e fa ea, ea, rfl, ?_⟩
    obtain ⟨xs, ht, hd2⟩ := eE_of h3
    have hlen : xs.length = es.length := hd2.len
    refine ⟨⟨xs, sqT_xt (xt_same sf) ht⟩, ?_⟩
    refine for_data (l := es) (by rw [← hlen]; exact walk_tup (K := K) (xs := xs)) (fun pre σ H' => ∃ f y4 y5 y6 y7 y8 y9 y10 y11, σ = [some (.ref a), some (.ref b), some v, some (.ref f), y4, y5, y6, y7, y8, y9, y10, y11] ∧ Same H H' ∧ (∃ ys, H' f = some (.lst ys) ∧ DeA K H' ys ((kept x st pre).map ePC)))
      ⟨f, none, none, none, none, none, none, none, none, rfl, sf, [.ref t1], upd_same, .one ((de_new ht1 (.two (de_new ht0 .nil) (de_one T _))).up (same_new hf))⟩ (fun pre σ H' p => ?_) (fun pre e post x1 σ H' H2 el ei p y => ?_) (fun σ H' p => ?_)
    · obtain ⟨f, y4, y5, y6, y7, y8, y9, y10, y11, rfl, s1, _⟩ := p
      exact sqT_xt (xt_same s1) ht
    · obtain ⟨f, y4, y5, y6, y7, y8, y9, y10, y11, rfl, s1, ys, hys, dys⟩ := p
      obtain ⟨rfl, ex⟩ := y
      obtain ⟨t, zs, rfl, q2, q3⟩ := ((hd2.at_ ex ei).up s1).tup_of
      have ez := DeA.ints_of (ns := [(e.1 : Int), e.2.1, e.2.2]) q3
      subst ez
      have hem : e ∈ es := List.mem_of_getElem? ei
      have hpe := hes e hem
      have hb2 : SqT K H2 b (st.map .int) := sqT_xt (xt_same s1) hb
      refine ⟨t, _, rfl, q2, rfl, _, _, rfl, _, _, rfl, _, _, rfl, rfl, ?_⟩
      refine ⟨_, rfl, _, rfl, b, _, _, _, rfl, rfl, hb2, at_st (by omega), _, rfl, _, rfl, b, _, _, _, rfl, rfl, hb2, at_st (by omega), rfl, _, rfl, ?_⟩
      by_cases hc : st.getD e.1 0 = st.getD e.2.1 0
      · rw [hc, decide_eq_true rfl]
        refine ⟨_, rfl, _, rfl, v, x, e.2.2, rfl, hv.up s1, bx, hpe.2.2, fun z H3 e3 dz => ?_⟩
        have hys3 := e3 _ _ hys
        have hyl : ys.length = (kept x st pre).length := dys.len
        have hpl : pre.length ≤ 10 := by
          have := congrArg List.length el
          rw [List.length_append] at this
          omega
        have hkl := kept_len x st pre
        have h1024 : 2 ^ pre.length ≤ 1024 := Nat.pow_le_pow_right (n := 2) (by decide) hpl
        have hsl : SqL K H3 f ys := .inl (.inl hys3)
        refine ⟨_, rfl, f, rfl, ⟨_, hsl⟩, fun D hD => ?_⟩
        refine lc_data (K := K) (l := kept x st pre) (by rw [← hyl]; exact walk_list (K := K) (xs := ys)) ePC (fun p => some (p.1 ++ [(e.1, e.2.1)], p.2 * (1 - x ^ e.2.2))) (fun G sG => sG.seq hsl) hD (line' _ (by omega)) (fun i p xx G G' ei2 sG y Ky Kn ky kn => ?_) (fun G ys2 sG hys2 hyl2 hd => ?_)
        · obtain ⟨rfl, ex⟩ := y
          have hpm := List.mem_of_getElem? ei2
          obtain ⟨tt, z1, z2, rfl, hq, dp, dc⟩ := two_of (((dys.up e3).at_ ex ei2).up sG)
          refine ⟨tt, _, rfl, hq, rfl, _, _, rfl, _, _, rfl, rfl, rfl, _, rfl, _, rfl, _, rfl, (by show 2 ≤ sizeLine; decide), fun t1 ht1 => ⟨(by show 1 ≤ sizeLine; decide), fun t2 ht2 => ?_⟩⟩
          have sa : Same G' (upd (upd G' t1 (.tup [.int e.1, .int e.2.1])) t2 (.tup [.ref t1])) := (same_new ht1).trans (same_new ht2)
          obtain ⟨pa, ps, rfl, hps, dps⟩ := dp.tup_of
          have hpsl : ps.length = p.1.length := dps.len
          have hp1 : p.1.length ≤ 10 := by
            have := kept_size x st pre p hpm
            omega
          have d1 : De K (upd (upd G' t1 (.tup [.int e.1, .int e.2.1])) t2 (.tup [.ref t1])) (.ref t1) (.tuple [.int e.1, .int e.2.1]) := (de_new ht1 (.two (.int _) (.int _))).up (same_new ht2)
          have fin : ∀ vv G3, Same (upd (upd G' t1 (.tup [.int e.1, .int e.2.1])) t2 (.tup [.ref t1])) G3 → De K G3 vv (eP (p.1 ++ [(e.1, e.2.1)])) →
              (tCons (tCall (sp_multiply K) [] E0 (tCons (tVar 11) (tCons (tCall (sp_subtract K) [] E0 (tCons (tC (.ref T.a_ONE)) (tCons (tVar 7) tNil))) tNil))) tNil) [some (.ref a), some (.ref b), some v, some (.ref f), some (.int e.1), some (.int e.2.1), some (.int e.2.2), some z, y8, y9, some (.ref pa), some z2] G3 fun xs H1 => ([vv] ++ xs).length ≤ sizeLine ∧ ∀ r, H1 r = none → Ky (.ref r) (upd H1 r (.tup ([vv] ++ xs))) := by
            intro vv G3 s3 dv
            have sA := sa.trans s3
            refine ⟨_, rfl, _, rfl, _, z, _, x ^ e.2.2, rfl, de_one T _, (dz.up sG).up sA, Sz_one, ok.e1 e hem, trivial, fun w1 G4 s4 dw => ?_⟩
            refine ⟨z2, w1, _, _, rfl, (dc.up sA).up s4, dw, ok.pre pre (e :: post) el p hpm, ok.e2 e hem, trivial, fun w2 G5 s5 dw2 => ⟨by show 2 ≤ sizeLine; decide, fun r hr2 => ?_⟩⟩
            exact ky _ _ _ rfl (((sA.trans s4).trans s5).trans (same_new hr2)) (de_new hr2 (.two ((dv.up s4).up s5) dw2))
          refine ⟨pa, t2, _, _, rfl, rfl, sqT_xt (xt_same sa) hps, .inl (.inl upd_same), line _ (by rw [hpsl]; show p.1.length + 1 ≤ 100000; omega), fun e0 => ?_, fun _ z => absurd z (by simp), fun _ _ q hq2 => ?_⟩
          · refine fin (.ref t2) _ (Same.refl _) ?_
            have e1 : p.1 = [] := by
              rw [e0] at hpsl
              exact List.eq_nil_of_length_eq_zero hpsl.symm
            rw [e1]
            exact .tup (.inl (.inl upd_same)) (.one d1)
          · refine fin (.ref q) _ (same_new hq2) (de_new hq2 ?_)
            rw [List.map_append]
            exact (dps.up sa).app (.one d1)
        · -- the rest without the edge
          have sl2 : SqL K G f ys := sG.seq hsl
          refine ⟨_, rfl, _, rfl, f, rfl, ⟨_, sl2⟩, fun D2 hD2 => ?_⟩
          refine lc_data (K := K) (l := kept x st pre) (by rw [← hyl]; exact walk_list (K := K) (xs := ys)) ePC (fun p => some (p.1, p.2 * x ^ e.2.2)) (fun G2 s2 => s2.seq sl2) hD2 (line' _ (by omega)) (fun i p xx G2 G3 ei2 s2 y Ky Kn ky kn => ?_) (fun G2 ys3 s2 hys3 hyl3 hd3 => ?_)
          · obtain ⟨rfl, ex⟩ := y
            have hpm := List.mem_of_getElem? ei2
            obtain ⟨tt, z1, z2, rfl, hq, dp, dc⟩ := two_of ((((dys.up e3).at_ ex ei2).up sG).up s2)
            refine ⟨tt, _, rfl, hq, rfl, _, _, rfl, _, _, rfl, rfl, rfl, _, rfl, _, rfl, _, rfl, z2, z, _, _, rfl, dc, (dz.up sG).up s2, ok.pre pre (e :: post) el p hpm, ok.e1 e hem, trivial, fun w2 G5 s5 dw2 => ⟨by show 2 ≤ sizeLine; decide, fun r hr2 => ?_⟩⟩
            exact ky _ _ _ rfl (s5.trans (same_new hr2)) (de_new hr2 (.two (dp.up s5) dw2))
          · refine ⟨D, D2, ys2, ys3, rfl, rfl, s2 _ _ hys2, hys3, line _ (by omega), fun q hq => ?_⟩
            refine ⟨q, _, _, _, _, _, _, _, _, rfl, ((((s1.trans e3).trans sG).trans s2).trans (same_new hq)), _, upd_same, ?_⟩
            rw [kept_snoc, if_pos hc]
            unfold keptStep
            rw [List.map_append]
            have f1 : ((kept x st pre).filterMap fun p => some (p.1 ++ [(e.1, e.2.1)], p.2 * (1 - x ^ e.2.2))) = (kept x st pre).map fun p => (p.1 ++ [(e.1, e.2.1)], p.2 * (1 - x ^ e.2.2)) := by rw [List.filterMap_eq_map']
            have f2 : ((kept x st pre).filterMap fun p => some (p.1, p.2 * x ^ e.2.2)) = (kept x st pre).map fun p => (p.1, p.2 * x ^ e.2.2) := by rw [List.filterMap_eq_map']
            rw [f1] at hd
            rw [f2] at hd3
            exact ((hd.up s2).app hd3).up (same_new hq)
      · rw [decide_eq_false (fun z => hc (V.int.inj z))]
        refine ⟨f, _, _, _, _, _, _, _, _, rfl, s1, ys, hys, ?_⟩
        rw [kept_snoc, if_neg hc]
        exact dys
    · obtain ⟨f, y4, y5, y6, y7, y8, y9, y10, y11, rfl, s1, ys, hys, dys⟩ := p
      have hyl : ys.length = (kept x st es).length := dys.len
      have hkl := kept_len x st es
      have h1024 : 2 ^ es.length ≤ 1024 := Nat.pow_le_pow_right (n := 2) (by decide) he
      have hprs := kept_prs x st es (n := fs.length) fun e h => ⟨(hes e h).1, (hes e h).2.1⟩
      refine ⟨_, rfl, a, T.C, dx, _, _, rfl, s1 _ _ h1, T.cl, T.nF, spF_f fa ea, fa, _, rfl, .inr (sqT_xt (xt_same s1) h2), ?_⟩
      have hsl : SqL K H' f ys := .inl (.inl hys)
      refine ⟨_, rfl, f, rfl, ⟨_, hsl⟩, fun D hD => ?_⟩
      have eN : ((fs.map V.int).length : Int) = ((fs.length : Nat) : Int) := by rw [List.length_map]
      refine lc_out (by exact walk_list (K := K) (xs := ys)) (fun G zs l => zs.length = l.length ∧ ∀ (j : Nat) (x : V) k, zs[j]? = some x → l[j]? = some k → KE K (fun b => H' b = none ∧ b ≠ D) G x k)
        (fun i => ((kept x st es)[i]?).bind fun p => if p.2 = 0 then none else some (clus fs.length p.1, p.2)) ⟨rfl, fun j x k e => by cases e⟩ (fun G G' zs l s r => ⟨r.1, fun j x k e1 e2 => (r.2 j x k e1 e2).up s⟩) (fun G G' us zs l hD2 bt r => ⟨r.1, fun j x k e1 e2 => (r.2 j x k e1 e2).but bt hD2 trivial fun b hb => hb.2⟩) (fun G sG => sG.seq hsl) hD (line' _ (by omega)) (fun i xx G G' us hi sG hus y Ky Kn ky kn => ?_) (fun G zs sG hzs hzl r => ?_)
      · obtain ⟨rfl, ex⟩ := y
        have hi2 : i < (kept x st es).length := by omega
        have ei2 : (kept x st es)[i]? = some (kept x st es)[i] := List.getElem?_eq_getElem hi2
        generalize (kept x st es)[i] = p at ei2
        have hpm := List.mem_of_getElem? ei2
        obtain ⟨tt, z1, z2, rfl, hq, dp, dc⟩ := two_of ((dys.at_ ex ei2).up sG)
        refine ⟨tt, _, rfl, hq, rfl, _, _, rfl, _, _, rfl, rfl, rfl, _, rfl, _, _, dc.dp, (de_zero T _).dp, shaped_eF _, shaped_eF _, ?_⟩
        rw [eqv_eF]
        by_cases h0 : p.2 = 0
        · rw [decide_eq_true h0]
          exact ⟨_, rfl, kn _ (by rw [ei2]; show (if p.2 = 0 then none else some (clus fs.length p.1, p.2)) = none; exact if_pos h0) (Same.refl _)⟩
        · rw [decide_eq_false h0]
          refine ⟨_, rfl, _, rfl, _, rfl, fs.length, z1, p.1, (by rw [eN]; rfl), dp, hn, hprs p hpm, fun c G4 s4 cl => ⟨_, rfl, (by show 2 ≤ sizeLine; decide), fun t ht2 => ?_⟩⟩
          have st4 : Same G4 (upd G4 t (.tup [.ref c, z2])) := same_new ht2
          refine ky (.ref t) _ (clus fs.length p.1, p.2) (by rw [ei2]; show (if p.2 = 0 then none else some (clus fs.length p.1, p.2)) = _; exact if_neg h0) (s4.trans st4) fun zs l r => ?_
          have new : KE K (fun b => H' b = none ∧ b ≠ D) (upd G4 t (.tup [.ref c, z2])) (.ref t) (clus fs.length p.1, p.2) :=
            ⟨t, c, z2, rfl, .inl (.inl upd_same), (dc.up s4).up st4, (cl.mono fun b hb => ⟨sG.free hb, fun z => by subst z; rw [hus] at hb; cases hb⟩).up st4⟩
          refine ⟨by rw [List.length_append, List.length_append, r.1]; rfl, fun j x k e1 e2 => ?_⟩
          by_cases hj : j < zs.length
          · rw [List.getElem?_append_left hj] at e1
            rw [List.getElem?_append_left (by rw [← r.1]; exact hj)] at e2
            exact r.2 j x k e1 e2
          · rw [List.getElem?_append_right (by omega)] at e1
            rw [List.getElem?_append_right (by rw [← r.1]; omega), ← r.1] at e2
            have hj0 : j - zs.length = 0 := by
              have := (List.getElem?_eq_some_iff.mp e1).1
              simp at this
              omega
            rw [hj0] at e1 e2
            cases e1
            cases e2
            exact new
      · refine k D G (s1.trans sG) ⟨s1.free hD, zs, .inl (.inl hzs), ?_, fun j xv k e1 e2 => ?_⟩
        · rw [r.1]
          have e3 : ys.length = (kept x st es).length := hyl
          rw [e3, range_fm]
          rfl
        · have e3 : ys.length = (kept x st es).length := hyl
          have r2 := r.2 j xv k e1
          rw [e3, range_fm] at r2
          obtain ⟨t, c, z, q1, q2, q3, q4⟩ := r2 e2
          exact ⟨t, c, z, q1, q2, q3, q4.mono fun b hb => s1.free hb.1⟩
end
end K49
namespace K49
open PySem PySem.Spec PyProof.Rows L2
section
variable {P : Program} {w : World} {K : PySem.W.Frag} {mg : Str → Option Value} {base : Heap}
/-- a block in a block: what the outer block's names are -/
theorem blkOk_in {N N' : List Str} {sc scope : Scope} {nm : List (Str × NameKind)} {own : List (Str × Nat)} (hN : N' = N) (hs : sc.names = nm) (h : blkC N { defScope (topS 0) with names := nm } scope own = true) : BlkOk N' sc scope own := by
  subst hN
  subst hs
  exact blkOk_by h
/-- a dict comprehension over things a: plain keys and values -/
theorem dc_put {α : Type} {J : It} {l : List α} {G : Hp → Prop} {Y : Nat → Hp → V → Hp → Prop} (wk : Walk J l.length G Y) {g : TG} {tk tv : TE} {vs : List Nat} {σ : L2.St} {H1 : Hp} {D : Addr} {Qd : Hp → Prop} (f : α → Key × V)
    (hG : ∀ H, Same H1 H → G H) (hD : H1 D = none) (hN : l.length ≤ 1000)
    (turn : ∀ i a x H H', l[i]? = some a → Same H1 H → Y i H x H' → ∀ (Kz : V → V → Hp → Prop), (∀ H5, Same H H5 → Kz (kV (f a).1) (f a).2 H5) →
      g x (wipe σ vs) H' fun σ2 H2 => wipe σ2 vs = wipe σ vs ∧ tk σ2 H2 fun y H4 => tv σ2 H4 fun z H5 => Kz y z H5)
    (fin : ∀ H, Same H1 H → H D = some (.dK (mergeK [] (l.map f))) → Qd H) :
    ∃ W : Nat → Nat → Hp → Prop, (∃ m, W 0 m (upd H1 D (.dK []))) ∧ ∀ i m H, W i m H →
      (J.stop i H ∧ Qd H) ∨ (J.go i H ∧ ∃ Nx : Hp → Prop, (∀ H', Nx H' → ∃ m', m' < m ∧ W (i + 1) m' H') ∧ ∀ x H', J.yld i H x H' → g x (wipe σ vs) H' fun σ2 H2 => wipe σ2 vs = wipe σ vs ∧ tYes σ2 H2 fun b H3 =>
        if b = true then tk σ2 H3 fun y H4 => tv σ2 H4 fun z H5 => ∃ kvs k, y = kV k ∧ H5 D = some (.dK kvs) ∧ kvs.length < sizeLine ∧ Nx (upd H5 D (.dK (putK kvs k z))) else Nx H3) := by
  refine ⟨fun i m H => m = l.length - i ∧ i ≤ l.length ∧ Same H1 H ∧ H D = some (.dK (mergeK [] ((l.take i).map f))), ⟨l.length, by simp, Nat.zero_le _, same_new hD, upd_same⟩, fun i m H hW => ?_⟩
  obtain ⟨rfl, hi, s, hk⟩ := hW
  by_cases hlt : i < l.length
  · have ea : l[i]? = some l[i] := List.getElem?_eq_getElem hlt
    refine .inr ⟨wk.goes i H hlt (hG H s), fun H' => Same H1 H' ∧ H' D = some (.dK (mergeK [] ((l.take (i + 1)).map f))), fun H' p => ⟨l.length - (i + 1), by omega, rfl, hlt, p⟩, fun x H' y => ?_⟩
    refine turn i l[i] x H H' ea s (wk.yields i H x H' hlt (hG H s) y) _ fun H5 e5 => ?_
    have hk5 := e5 _ _ hk
    have hml := length_mergeK ((l.take i).map f) []
    rw [List.length_map, List.length_take] at hml
    simp only [List.length_nil] at hml
    refine ⟨_, (f l[i]).1, rfl, hk5, line' _ (by omega), same_mut (s.trans e5) hD, ?_⟩
    rw [upd_same, take_of ea, List.map_append, List.map_singleton]
    unfold mergeK
    rw [List.foldl_append]
    rfl
  · have e : i = l.length := by omega
    subst e
    rw [List.take_length] at hk
    exact .inl ⟨wk.stops H (hG H s), fin H s hk⟩
theorem val_some {kvs : List (Key × V)} {k : Key} {q : Key × V} (hq : q ∈ kvs) (e : q.1 = k) : valV kvs k ≠ none := by
  intro z
  have h : (kvs.any fun kv => decide (kv.1 = k)) = true := List.any_eq_true.mpr ⟨q, hq, decide_eq_true e⟩
  rw [valV_any, z] at h
  cases h
open Classical in
theorem val_merge {b : V} (k : Key) : ∀ (more kvs : List (Key × V)), (∀ p ∈ more, p.2 = b) → valV (mergeK kvs more) k = if k ∈ more.map (·.1) then some b else valV kvs k
  | [], kvs, _ => by simp [mergeK]
  | p :: r, kvs, h => by
    have ih := val_merge k r (putK kvs p.1 p.2) fun q hq => h q (List.mem_cons_of_mem _ hq)
    have e : mergeK kvs (p :: r) = mergeK (putK kvs p.1 p.2) r := rfl
    rw [e, ih, List.map_cons, valV_put, h p List.mem_cons_self]
    by_cases h1 : k ∈ r.map (·.1)
    · rw [if_pos h1, if_pos (List.mem_cons_of_mem _ h1)]
    · rw [if_neg h1]
      by_cases h2 : k = p.1
      · rw [if_pos h2, if_pos (h2 ▸ List.mem_cons_self)]
      · rw [if_neg h2, if_neg fun z => (List.mem_cons.mp z).elim h2 h1]
theorem merge_vals {b : V} : ∀ (more kvs : List (Key × V)), (∀ p ∈ more, p.2 = b) → (∀ p ∈ kvs, p.2 = b) → ∀ p ∈ mergeK kvs more, p.2 = b
  | [], kvs, _, h => h
  | q :: r, kvs, h, g => by
    refine merge_vals r (putK kvs q.1 q.2) (fun p hp => h p (List.mem_cons_of_mem _ hp)) fun p hp => ?_
    unfold putK at hp
    split at hp
    · obtain ⟨s, hs, rfl⟩ := List.mem_map.mp hp
      split
      · exact h q List.mem_cons_self
      · exact g s hs
    · rcases List.mem_append.mp hp with hp | hp
      · exact g p hp
      · rw [List.mem_singleton.mp hp]
        exact h q List.mem_cons_self
/-- the dict of an assignment of the clusters -/
structure AR (kvs : List (Key × V)) (cs : List (List Nat)) (a : Nat → Int) : Prop where
  len : kvs.length ≤ cs.length * 6
  val : ∀ c ∈ cs, ∀ v ∈ c, valV kvs (.inl (v : Int)) = some (.int (a v))
theorem AR.next {kvs : List (Key × V)} {cs : List (List Nat)} {a : Nat → Int} (h : AR kvs cs a) {c : List Nat} (b : Int) (hc : c.length ≤ 6) : AR (mergeK kvs (mergeK [] (c.map fun (v : Nat) => ((Sum.inl (v : Int) : Key), V.int b)))) (cs ++ [c]) (setA a c b) := by
  have all : ∀ p ∈ mergeK [] (c.map fun (v : Nat) => ((Sum.inl (v : Int) : Key), V.int b)), p.2 = V.int b := merge_vals _ _ (fun p hp => by
    obtain ⟨v, _, rfl⟩ := List.mem_map.mp hp
    rfl) fun p hp => by cases hp
  have hm := length_mergeK (c.map fun (v : Nat) => ((Sum.inl (v : Int) : Key), V.int b)) []
  rw [List.length_map] at hm
  simp only [List.length_nil] at hm
  have keys : ∀ v : Nat, (Sum.inl (v : Int) : Key) ∈ (mergeK [] (c.map fun (v : Nat) => ((Sum.inl (v : Int) : Key), V.int b))).map (·.1) ↔ v ∈ c := fun v => by
    have h1 := val_merge (b := V.int b) (Sum.inl (v : Int)) (c.map fun (v : Nat) => ((Sum.inl (v : Int) : Key), V.int b)) [] (fun p hp => by
      obtain ⟨v, _, rfl⟩ := List.mem_map.mp hp
      rfl)
    have hk : (Sum.inl (v : Int) : Key) ∈ (c.map fun (v : Nat) => ((Sum.inl (v : Int) : Key), V.int b)).map (·.1) ↔ v ∈ c := by
      rw [List.map_map, List.mem_map]
      constructor
      · rintro ⟨u, hu, e⟩
        have := Sum.inl.inj e
        have e2 : u = v := by omega
        exact e2 ▸ hu
      · intro hv
        exact ⟨v, hv, rfl⟩
    constructor
    · intro hv
      refine Classical.byContradiction fun hn => ?_
      rw [if_neg fun z => hn (hk.mp z)] at h1
      have h2 : valV ([] : List (Key × V)) (Sum.inl (v : Int)) = none := rfl
      rw [h2] at h1
      obtain ⟨q, hq, e⟩ := List.mem_map.mp hv
      exact absurd h1 (val_some hq e)
    · intro hv
      rw [if_pos (hk.mpr hv)] at h1
      exact valV_in h1
  refine ⟨?_, fun d hd v hv => ?_⟩
  · have h1 := length_mergeK (mergeK [] (c.map fun (v : Nat) => ((Sum.inl (v : Int) : Key), V.int b))) kvs
    have h2 := h.len
    rw [List.length_append, List.length_singleton]
    omega
  · rw [val_merge (b := V.int b) _ _ _ all]
    unfold setA
    by_cases hvc : v ∈ c
    · rw [if_pos ((keys v).mpr hvc), if_pos hvc]
    · rw [if_neg fun z => hvc ((keys v).mp z), if_neg hvc]
      rcases List.mem_append.mp hd with hd | hd
      · exact h.val d hd v hv
      · rw [List.mem_singleton.mp hd] at hv
        exact absurd hv hvc
def CE (K : PySem.W.Frag) (cs : List (List Nat)) (H : Hp) (x : V) (p : (Nat → Int) × Rat) : Prop := ∃ t d z kvs, x = .ref t ∧ SqT K H t [.ref d, z] ∧ De K H z (eF p.2) ∧ H d = some (.dK kvs) ∧ AR kvs cs p.1
theorem CE.up {cs : List (List Nat)} {H H' : Hp} {x : V} {p : (Nat → Int) × Rat} (s : Same H H') (h : CE K cs H x p) : CE K cs H' x p := by
  obtain ⟨t, d, z, kvs, e, h1, h2, h3, h4⟩ := h
  exact ⟨t, d, z, kvs, e, sqT_xt (xt_same s) h1, h2.up s, s _ _ h3, h4⟩
theorem CE.but {cs : List (List Nat)} {H H' : Hp} {x : V} {p : (Nat → Int) × Rat} {L : Addr} {ls : List V} (hL : H L = some (.lst ls)) (s : But L H H') (h : CE K cs H x p) : CE K cs H' x p := by
  obtain ⟨t, d, z, kvs, e, h1, h2, h3, h4⟩ := h
  have xt := xt_but hL trivial s
  refine ⟨t, d, z, kvs, e, sqT_xt xt h1, h2.xt xt, s _ _ (fun q => ?_) h3, h4⟩
  rw [q, hL] at h3
  cases h3
/-- a list of them -/
def CLs (K : PySem.W.Frag) (cs : List (List Nat)) (H : Hp) (ys : List V) (l : List ((Nat → Int) × Rat)) : Prop := ys.length = l.length ∧ ∀ (j : Nat) (x : V) p, ys[j]? = some x → l[j]? = some p → CE K cs H x p
theorem CLs.up {cs : List (List Nat)} {H H' : Hp} {ys : List V} {l : List ((Nat → Int) × Rat)} (s : Same H H') (h : CLs K cs H ys l) : CLs K cs H' ys l := ⟨h.1, fun j x p a b => (h.2 j x p a b).up s⟩
theorem CLs.but {cs : List (List Nat)} {H H' : Hp} {ys : List V} {l : List ((Nat → Int) × Rat)} {L : Addr} {ls : List V} (hL : H L = some (.lst ls)) (s : But L H H') (h : CLs K cs H ys l) : CLs K cs H' ys l := ⟨h.1, fun j x p a b => (h.2 j x p a b).but hL s⟩
theorem CLs.snoc {cs : List (List Nat)} {H : Hp} {ys : List V} {l : List ((Nat → Int) × Rat)} {x : V} {p : (Nat → Int) × Rat} (h : CLs K cs H ys l) (e : CE K cs H x p) : CLs K cs H (ys ++ [x]) (l ++ [p]) := by
  refine ⟨by rw [List.length_append, List.length_append, h.1]; rfl, fun j xx pp e1 e2 => ?_⟩
  by_cases hj : j < ys.length
  · rw [List.getElem?_append_left hj] at e1
    rw [List.getElem?_append_left (by rw [← h.1]; exact hj)] at e2
    exact h.2 j xx pp e1 e2
  · rw [List.getElem?_append_right (by omega)] at e1
    rw [List.getElem?_append_right (by rw [← h.1]; omega), ← h.1] at e2
    have hj0 : j - ys.length = 0 := by
      have := (List.getElem?_eq_some_iff.mp e1).1
      simp at this
      omega
    rw [hj0] at e1 e2
    cases e1
    cases e2
    exact e
def sp_coloured (K : PySem.W.Frag) (C : Addr) : Sp := fun vs H Q _ => ∃ (a : Addr) (fs : List Int) (es : List (Nat × Nat × Int)) (c : Addr) (N : Addr → Prop) (cs : List (List Nat)) (u v : V) (x y : Rat), vs = [.ref a, .ref c, u, v] ∧ SpR K C H a fs es ∧ CL K N H c cs ∧ De K H u (eF x) ∧ De K H v (eF y) ∧ Sb x ∧ Sb y ∧
  fs.length ≤ 6 ∧ cs.length ≤ 6 ∧ (∀ c ∈ cs, ∀ v ∈ c, v < fs.length) ∧ (∀ v, v < fs.length → ∃ c ∈ cs, v ∈ c) ∧ COk fs x y cs ∧ ∀ d kvs H', Same H H' → H d = none → H' d = some (.dK kvs) → DR K H' kvs (2 ^ fs.length) (colP fs.length fs x y cs) → Q (.ref d) H'
theorem ok_coloured (T : Txt K mg) : FnOk P w K mg base CX0 4 T.d_coloured.f T.d_coloured.d ["spins", "clusters", "x", "y"] (sp_coloured K T.C) := by
  refine T.d_coloured.F.ok sc_coloured (fun vs H Q E h => ?_) (fun cdv A outer s H vs Q E hr h => ?_)
  · obtain ⟨a, fs, es, c, N, cs, u, v, x, y, rfl, _⟩ := h
    rfl
  · obtain ⟨a, fs, es, c, N, cs, u, v, x, y, rfl, hs, hcl, hu, hv, bx, bY, hn, hcn, hin, hall, ok, k⟩ := h
    refine ⟨_, (pss_cons
        (ps_set (i := 4) sc_coloured.nd rfl (.inl rfl) (pe_lst (pa_cons (pe_tup (pa_cons pe_dnewK (pa_cons (pe_glob (v := .ref T.a_ONE) (by rfl) T.g_ONE rfl) pa_nil))) pa_nil)))
        (pss_cons
        (ps_for PassesOwn.never rfl (pi_list (pv 1)) (pg_name (i := 5) sc_coloured.nd rfl (.inl rfl)) (pss_cons
        (ps_set (i := 6) sc_coloured.nd rfl (.inl rfl) (pe_callB (cr_sum rfl) (by rfl) T.m_sum (by decide +kernel) (pa_cons (pe_lc (own := [("vertex", 16)]) rfl sc_coloured.nd (pi_list (pv 5)) (blkOk_by (N := ["spins", "clusters", "x", "y", "found", "vertices", "field", "weight", "up", "later", "spin", "chance", "state", "old", "longer", "count", "vertex"]) (sc := defScope s_coloured) (own := [("vertex", 16)]) (by decide +kernel)) (fun _ _ _ _ _ => (pg_name (i := 16) sc_coloured.nd rfl (by first | exact .inl rfl | exact .inr rfl))) (fun _ _ _ _ _ => pts_nil) (fun _ _ _ _ _ => (pe_ix (ix_tupK (K := K) rfl) (pe_fldK (K := K) rfl (pv 0) rfl) (pv 16) (fun _ _ => rfl)))) pa_nil)))
        (pss_cons
        (ps_set (i := 7) sc_coloured.nd rfl (.inl rfl) (pe_call (ok_multiply T) (hr.mono (by decide)) (by rfl) T.d_multiply.g T.d_multiply.F.kp T.d_multiply.b .nil pass0 (pa_cons (pe_call (ok_raised T) hr (by rfl) T.d_raised.g T.d_raised.F.kp T.d_raised.b .nil pass0 (pa_cons (pv 2) (pa_cons (pv 6) pa_nil))) (pa_cons (pe_call (ok_raised T) hr (by rfl) T.d_raised.g T.d_raised.F.kp T.d_raised.b .nil pass0 (pa_cons (pv 3) (pa_cons (pe_callB call_len_seq (by rfl) T.m_len PySem.boot_len (pa_cons (pv 5) pa_nil)) pa_nil))) pa_nil))))
        (pss_cons
        (ps_set (i := 8) sc_coloured.nd rfl (.inl rfl) (pe_call (ok_divide T) (hr.mono (by decide)) (by rfl) T.d_divide.g T.d_divide.F.kp T.d_divide.b .nil pass0 (pa_cons (pv 7) (pa_cons (pe_call (ok_add T) (hr.mono (by decide)) (by rfl) T.d_add.g T.d_add.F.kp T.d_add.b .nil pass0 (pa_cons (pe_glob (v := .ref T.a_ONE) (by rfl) T.g_ONE rfl) (pa_cons (pv 7) pa_nil))) pa_nil))))
        (pss_cons
        (ps_set (i := 9) sc_coloured.nd rfl (.inl rfl) (pe_lst pa_nil))
        (pss_cons
        (ps_for PassesOwn.never rfl (pi_tup (pe_tup (pa_cons (pe_tup (pa_cons pe_int (pa_cons (pv 8) pa_nil))) (pa_cons (pe_tup (pa_cons pe_int (pa_cons (pe_call (ok_subtract T) (hr.mono (by decide)) (by rfl) T.d_subtract.g T.d_subtract.F.kp T.d_subtract.b .nil pass0 (pa_cons (pe_glob (v := .ref T.a_ONE) (by rfl) T.g_ONE rfl) (pa_cons (pv 8) pa_nil))) pa_nil))) pa_nil)))) (pg_tup rfl (pgs_cons (pg_name (i := 10) sc_coloured.nd rfl (.inr rfl)) (pgs_cons (pg_name (i := 11) sc_coloured.nd rfl (.inl rfl)) pgs_nil))) (pss_one
        (ps_for PassesOwn.never rfl (pi_list (pv 4)) (pg_tup rfl (pgs_cons (pg_name (i := 12) sc_coloured.nd rfl (.inl rfl)) (pgs_cons (pg_name (i := 13) sc_coloured.nd rfl (.inl rfl)) pgs_nil))) (pss_cons
        (ps_set (i := 14) sc_coloured.nd rfl (.inl rfl) (pe_callTy call_dictD (by rfl) T.m_dict (by decide +kernel) (pa_cons (pv 12) pa_nil)))
        (pss_cons
        (ps_expr (pe_bm PySem.F.plainAttrs_dict PySem.F.slot_dict_update PySem.F.type_dict_update mt_update (pv 14) (pa_cons (pe_dc (own := [("vertex", 16)]) rfl sc_coloured.nd (pi_list (pv 5)) (blkOk_by (N := ["spins", "clusters", "x", "y", "found", "vertices", "field", "weight", "up", "later", "spin", "chance", "state", "old", "longer", "count", "vertex"]) (sc := defScope s_coloured) (own := [("vertex", 16)]) (by decide +kernel)) (fun _ _ _ _ _ => (pg_name (i := 16) sc_coloured.nd rfl (by first | exact .inl rfl | exact .inr rfl))) (fun _ _ _ _ _ => pts_nil) (fun _ _ _ _ _ => (pv 16)) (fun _ _ _ _ _ => (pv 10))) pa_nil)))
        (pss_one
        (ps_expr (pe_bm PySem.F.plainAttrs_list PySem.F.slot_list_append PySem.F.type_list_append mt_append (pv 9) (pa_cons (pe_tup (pa_cons (pv 14) (pa_cons (pe_call (ok_multiply T) (hr.mono (by decide)) (by rfl) T.d_multiply.g T.d_multiply.F.kp T.d_multiply.b .nil pass0 (pa_cons (pv 13) (pa_cons (pv 11) pa_nil))) pa_nil))) pa_nil)))))))))
        (pss_one
        (ps_set (i := 4) sc_coloured.nd rfl (.inl rfl) (pv 9)))))))))
        (pss_cons
        (ps_set (i := 15) sc_coloured.nd rfl (.inr rfl) (pe_callB call_len_seq (by rfl) T.m_len PySem.boot_len (pa_cons (pe_fld (pv 0) rfl) pa_nil)))
        (pss_one
        (ps_ret (pe_dc (own := [("state", 12), ("chance", 11)]) rfl sc_coloured.nd (pi_list (pv 4)) (blkOk_by (N := ["spins", "clusters", "x", "y", "found", "vertices", "field", "weight", "up", "later", "spin", "chance", "state", "old", "longer", "count", "vertex"]) (sc := defScope s_coloured) (own := [("state", 12), ("chance", 11)]) (by decide +kernel)) (fun _ _ _ _ _ => (pg_tupK (K := K) (n := 2) rfl rfl (pgs_cons (pg_name (i := 12) sc_coloured.nd rfl (by first | exact .inl rfl | exact .inr rfl)) (pgs_cons (pg_name (i := 11) sc_coloured.nd rfl (by first | exact .inl rfl | exact .inr rfl)) pgs_nil)))) (fun _ _ _ _ _ => pts_nil) (fun _ _ _ _ _ => (pe_call (ok_index T) (hr.mono (by decide)) (by rfl) T.d_index.g T.d_index.F.kp T.d_index.b .nil pass0 (pa_cons (pe_lc (own := [("vertex", 16)]) rfl sc_coloured.nd (pi_range1 (by rfl) T.m_range (pa_cons (pv 15) pa_nil)) (blkOk_in (N := ["spins", "clusters", "x", "y", "found", "vertices", "field", "weight", "up", "later", "spin", "chance", "state", "old", "longer", "count", "vertex"]) (nm := [(".0", .local), ("state", .cell), ("chance", .local), ("_index", .globalImplicit), ("range", .globalImplicit), ("count", .cell)]) rfl rfl (own := [("vertex", 16)]) (by decide +kernel)) (fun _ _ _ _ _ => (pg_name (i := 16) sc_coloured.nd rfl (by first | exact .inl rfl | exact .inr rfl))) (fun _ _ _ _ _ => pts_nil) (fun _ _ _ _ _ => (pe_dget (hu_of hr) (pv 12) (pv 16) (fun _ _ => rfl)))) pa_nil))) (fun _ _ _ _ _ => (pv 11)))))))), ?_⟩
    obtain ⟨dx, fa, ea, h1, h2, h3⟩ := hs.ex
    obtain ⟨_, xs, hxs, lxs, hcs⟩ := hcl
    intro d0 hd0
    refine ⟨by show 2 ≤ sizeLine; decide, fun t1 ht1 => ⟨by show 1 ≤ sizeLine; decide, fun f hf => ?_⟩⟩
    have s0 : Same H (upd H d0 (.dK [])) := same_new hd0
    have s1 := s0.trans (same_new (o := .tup [.ref d0, .ref T.a_ONE]) ht1)
    have sf := s1.trans (same_new (o := .lst [.ref t1]) hf)
    refine ⟨_, rfl, c, rfl, ⟨xs, sf.seq hxs⟩, ?_⟩
    refine for_data (l := cs) (by rw [← lxs]; exact walk_list (K := K) (xs := xs)) (fun pre σ H' => ∃ f y5 y6 y7 y8 y9 y10 y11 y12 y13 y14 y15 y16 ys, σ = [some (.ref a), some (.ref c), some u, some v, some (.ref f), y5, y6, y7, y8, y9, y10, y11, y12, y13, y14, y15, y16] ∧ Same H H' ∧ H' f = some (.lst ys) ∧ CLs K pre H' ys (col fs x y pre))
      ⟨f, none, none, none, none, none, none, none, none, none, none, none, none, [.ref t1], rfl, sf, upd_same, rfl, fun j xx p e1 e2 => ?_⟩ (fun pre σ H' p => ?_) (fun pre cl post x1 σ H' H2 el ei p yy => ?_) (fun σ H' p => ?_)
    · match j, e1, e2 with
      | 0, e1, e2 =>
        cases e1
        cases e2
        exact ⟨t1, d0, _, [], rfl, .inl (.inl (same_new hf _ _ upd_same)), de_one T _, same_new hf _ _ (same_new ht1 _ _ upd_same), ⟨Nat.zero_le _, fun c hc => by cases hc⟩⟩
    · obtain ⟨f, y5, y6, y7, y8, y9, y10, y11, y12, y13, y14, y15, y16, ys, rfl, s1, _⟩ := p
      exact s1.seq hxs
    · obtain ⟨f, y5, y6, y7, y8, y9, y10, y11, y12, y13, y14, y15, y16, ys, rfl, s1, hys, cys⟩ := p
      obtain ⟨rfl, ex⟩ := yy
      obtain ⟨r, rfl, _, hr0⟩ := hcs _ _ _ ex ei
      have hcm : cl ∈ cs := List.mem_of_getElem? ei
      have hrv : SqL K H2 r (nts cl) := s1.seq hr0
      have hcl6 := ok.l cl hcm
      have hpl : pre.length + 1 ≤ cs.length := by
        have := congrArg List.length el
        rw [List.length_append, List.length_cons] at this
        omega
      -- the field
      refine ⟨_, rfl, r, rfl, ⟨_, hrv⟩, fun D hD => ?_⟩
      refine lc_data (K := K) (l := cl) (by rw [← List.length_map (f := fun (v : Nat) => V.int (v : Int))]; exact walk_list (K := K) (xs := nts cl)) .int (fun v => some (fs.getD v 0)) (fun G sG => sG.seq hrv) hD (line' _ (by omega)) (fun i p xx G G' ei2 sG yy Ky Kn ky kn => ?_) (fun G ys2 sG hys2 hyl2 hd => ?_)
      · obtain ⟨rfl, ex⟩ := yy
        have ex : xx = .int (p : Int) := by
          rw [List.getElem?_map, ei2] at ex
          exact (Option.some.inj ex).symm
        subst ex
        have sA := s1.trans sG
        have hp6 := hin cl hcm p (List.mem_of_getElem? ei2)
        exact ⟨rfl, _, rfl, a, T.C, dx, _, _, rfl, sA _ _ h1, T.cl, T.nF, spF_f fa ea, _, rfl, fa, _, _, _, rfl, rfl, sqT_xt (xt_same sA) h2, at_st hp6, ky _ _ _ rfl (Same.refl _) (.int _)⟩
      · have ey := DeA.ints_of hd
        subst ey
        refine ⟨D, _, rfl, .inl (.inl hys2), ?_⟩
        have efs : (cl.filterMap fun v => some (fs.getD v 0)).sum = fieldSum fs cl := by
          unfold fieldSum
          rw [List.filterMap_eq_map']
        rw [efs]
        have sB := s1.trans sG
        have hrv2 : SqL K G r (nts cl) := sG.seq hrv
        refine ⟨_, rfl, _, rfl, u, x, _, rfl, hu.up sB, bx, ok.f cl hcm, fun z1 G1 e1 dz1 => ?_⟩
        refine ⟨_, rfl, _, rfl, r, _, rfl, .inl (e1.seq hrv2), v, y, (cl.length : Int), by rw [List.length_map]; rfl, (hv.up sB).up e1, bY, by omega, fun z2 G2 e2 dz2 => ?_⟩
        refine ⟨z1, z2, _, _, rfl, dz1.up e2, dz2, ok.hx cl hcm, ok.hy cl hcm, trivial, fun z3 G3 e3 dz3 => ?_⟩
        have dz3 : De K G3 z3 (eF (upW fs x y cl)) := dz3
        refine ⟨_, rfl, _, rfl, .ref T.a_ONE, z3, 1, _, rfl, de_one T _, dz3, Sz_one, ok.w cl hcm, trivial, fun z4 G4 e4 dz4 => ?_⟩
        refine ⟨z3, z4, _, _, rfl, dz3.up e4, dz4, ok.w cl hcm, ok.w1 cl hcm, ok.w0 cl hcm, fun z5 G5 e5 dz5 => ?_⟩
        have dz5 : De K G5 z5 (eF (upP fs x y cl)) := dz5
        have sC := (sG.trans (e1.trans e2)).trans (e3.trans (e4.trans e5))
        refine ⟨by show 0 ≤ sizeLine; exact Nat.zero_le _, fun L hL => ?_⟩
        have sL : Same G5 (upd G5 L (.lst [])) := same_new hL
        -- the two colours
        refine ⟨_, rfl, by show 2 ≤ sizeLine; decide, fun b1 hb1 => ?_⟩
        have sb1 := same_new (o := .tup [.int 1, z5]) hb1
        refine ⟨_, rfl, .ref T.a_ONE, z5, 1, _, rfl, de_one T _, (dz5.up sL).up sb1, Sz_one, ok.u cl hcm, trivial, fun z6 G6 e6 dz6 => ⟨by show 2 ≤ sizeLine; decide, fun b2 hb2 => ⟨by show 2 ≤ sizeLine; decide, fun b3 hb3 => ⟨b3, rfl, ⟨[.ref b1, .ref b2], .inl (.inl upd_same)⟩, ?_⟩⟩⟩⟩
        have sb2 := same_new (o := .tup [.int 0, z6]) hb2
        have sb3 := same_new (o := .tup [.ref b1, .ref b2]) hb3
        have dB : DeA K (upd (upd G6 b2 (.tup [.int 0, z6])) b3 (.tup [.ref b1, .ref b2])) [.ref b1, .ref b2] (([(1, upP fs x y cl), (0, 1 - upP fs x y cl)] : List (Int × Rat)).map fun b => .tuple [.int b.1, eF b.2]) :=
          .two (((de_new hb1 (.two (.int 1) (dz5.up sL))).up e6).up (sb2.trans sb3)) ((de_new hb2 (.two (.int 0) dz6)).up sb3)
        have sD : Same H2 (upd (upd G6 b2 (.tup [.int 0, z6])) b3 (.tup [.ref b1, .ref b2])) := ((sC.trans sL).trans (sb1.trans e6)).trans (sb2.trans sb3)
        have sE : Same (upd G5 L (.lst [])) (upd (upd G6 b2 (.tup [.int 0, z6])) b3 (.tup [.ref b1, .ref b2])) := (sb1.trans e6).trans (sb2.trans sb3)
        have nL : H2 L = none := sC.free hL
        have szs : ∀ b ∈ ([(1, upP fs x y cl), (0, 1 - upP fs x y cl)] : List (Int × Rat)), Sz b.2 := fun b hb => by
          rcases List.mem_cons.mp hb with rfl | hb
          · exact ok.u cl hcm
          · rw [List.mem_singleton.mp hb]
            exact ok.d cl hcm
        have hyl : ys.length = (col fs x y pre).length := cys.1
        have hcl64 : (col fs x y pre).length ≤ 64 := by
          rw [col_len]
          exact pow64 (by omega)
        have hsq : SqT K (upd (upd G6 b2 (.tup [.int 0, z6])) b3 (.tup [.ref b1, .ref b2])) b3 [.ref b1, .ref b2] := .inl (.inl upd_same)
        generalize (upd (upd G6 b2 (.tup [.int 0, z6])) b3 (.tup [.ref b1, .ref b2])) = GB at dB sD sE hsq ⊢
        refine for_data (l := ([(1, upP fs x y cl), (0, 1 - upP fs x y cl)] : List (Int × Rat))) (walk_tup (K := K) (a := b3) (xs := [.ref b1, .ref b2])) (fun pb σ G => ∃ y10 y11 y12 y13 y14 ls, σ = [some (.ref a), some (.ref c), some u, some v, some (.ref f), some (.ref r), some (.int (fieldSum fs cl)), some z3, some z5, some (.ref L), y10, y11, y12, y13, y14, y15, y16] ∧ Same H2 G ∧ Xt GB G ∧ G L = some (.lst ls) ∧ CLs K (pre ++ [cl]) G ls (paint (col fs x y pre) cl pb))
          ⟨_, _, _, _, _, [], rfl, sD, Xt.refl _, sE _ _ upd_same, rfl, fun j xx p e => by cases e⟩ (fun pb σ G p => ?_) (fun pb b pt xx σ G G7 el2 ei2 p yy => ?_) (fun σ G p => ?_)
        · obtain ⟨y10, y11, y12, y13, y14, ls, rfl, q1, q2, _⟩ := p
          exact sqT_xt q2 hsq
        · obtain ⟨y10, y11, y12, y13, y14, ls, rfl, q1, q2, hls, cls⟩ := p
          obtain ⟨rfl, exx⟩ := yy
          have hbm := List.mem_of_getElem? ei2
          obtain ⟨tb, zb, rfl, htb, dzb⟩ := pair_of ((dB.at_ exx ei2).xt q2)
          have hsl : SqL K G7 f ys := .inl (.inl (q1 _ _ hys))
          have hbl : pb.length ≤ 1 := by
            have h2 : 2 = pb.length + (pt.length + 1) := by
              have := congrArg List.length el2
              rw [List.length_append, List.length_cons] at this
              exact this
            omega
          refine ⟨tb, _, rfl, htb, rfl, _, _, rfl, _, _, rfl, rfl, ?_⟩
          refine ⟨_, rfl, f, rfl, ⟨_, hsl⟩, ?_⟩
          refine for_data (l := col fs x y pre) (by rw [← hyl]; exact walk_list (K := K) (xs := ys)) (fun pp σ G => ∃ y12 y13 y14 ls, σ = [some (.ref a), some (.ref c), some u, some v, some (.ref f), some (.ref r), some (.int (fieldSum fs cl)), some z3, some z5, some (.ref L), some (.int b.1), some zb, y12, y13, y14, y15, y16] ∧ Same H2 G ∧ Xt G7 G ∧ G L = some (.lst ls) ∧ CLs K (pre ++ [cl]) G ls (paint (col fs x y pre) cl pb ++ pp.map fun p => (setA p.1 cl b.1, p.2 * b.2)))
            ⟨_, _, _, ls, rfl, q1, Xt.refl _, hls, by simpa using cls⟩ (fun pp σ G p => ?_) (fun pp p pt2 xx σ G G8 el3 ei3 hp yy => ?_) (fun σ G p => ?_)
          · obtain ⟨y12, y13, y14, ls, rfl, r1, r2, _⟩ := p
            exact r1.seq (.inl (.inl hys))
          · obtain ⟨y12, y13, y14, ls, rfl, r1, r2, hls, cls⟩ := hp
            obtain ⟨rfl, exx⟩ := yy
            have hpm := List.mem_of_getElem? ei3
            obtain ⟨t, d, z, kvs, rfl, hst, dz, hdk, ar⟩ := (cys.up r1).2 _ _ _ exx ei3
            have arl := ar.len
            refine ⟨t, _, rfl, hst, rfl, _, _, rfl, _, _, rfl, rfl, ?_⟩
            refine ⟨_, rfl, d, kvs, rfl, .inl hdk, fun q hq => ?_⟩
            have sq := same_new (o := .dK kvs) hq
            refine ⟨_, rfl, .inr (.inr (.inl ⟨rfl, .inl ⟨kvs, upd_same⟩⟩)), ?_⟩
            have hrv3 : SqL K (upd G8 q (.dK kvs)) r (nts cl) := (r1.trans sq).seq hrv
            refine ⟨_, rfl, r, rfl, ⟨_, hrv3⟩, fun D2 hD2 => ?_⟩
            refine dc_put (l := cl) (by rw [← List.length_map (f := fun (v : Nat) => V.int (v : Int))]; exact walk_list (K := K) (xs := nts cl)) (fun (v : Nat) => ((Sum.inl (v : Int) : Key), V.int b.1)) (fun G sG => sG.seq hrv3) hD2 (by omega) (fun i w xx G1 G2 ei4 sG yy Kz kz => ?_) (fun G1 sG hd1 => ?_)
            · obtain ⟨rfl, ex⟩ := yy
              have ex : xx = .int (w : Int) := by
                rw [List.getElem?_map, ei4] at ex
                exact (Option.some.inj ex).symm
              subst ex
              exact ⟨rfl, _, rfl, _, rfl, kz _ (Same.refl _)⟩
            · have hq1 := sG _ _ (upd_same (H := G8) (a := q) (o := .dK kvs))
              have hqD : q ≠ D2 := fun z => by
                subst z
                rw [upd_same] at hD2
                cases hD2
              have ar2 := ar.next (c := cl) b.1 hcl6
              have hm := length_mergeK (cl.map fun (v : Nat) => ((Sum.inl (v : Int) : Key), V.int b.1)) []
              rw [List.length_map] at hm
              simp only [List.length_nil] at hm
              refine ⟨q, D2, kvs, _, rfl, rfl, hq1, hd1, hqD, line _ (by omega), ?_⟩
              have sM : Same G8 (upd G1 q (.dK (mergeK kvs (mergeK [] (cl.map fun (v : Nat) => ((Sum.inl (v : Int) : Key), V.int b.1)))))) := same_mut (sq.trans sG) hq
              have hlsM := sM _ _ hls
              refine ⟨_, rfl, .inl ⟨rfl, ls, .inl (.inl hlsM)⟩, _, rfl, _, rfl, _, rfl, z, zb, p.2, b.2, rfl, dz.up sM, (dzb.xt r2).up sM, ok.pre pre (cl :: post) el p hpm, szs b hbm, trivial, fun z7 G9 e9 dz7 => ⟨by show 2 ≤ sizeLine; decide, fun t9 ht9 => ?_⟩⟩
              have st9 := same_new (o := .tup [.ref q, z7]) ht9
              have hls9 := st9 _ _ (e9 _ _ hlsM)
              have hll : ls.length ≤ 128 := by
                have h1 := cls.1
                rw [List.length_append, paint_len, List.length_map] at h1
                have h2 := congrArg List.length el3
                rw [List.length_append, List.length_cons] at h2
                have h3 : pb.length * (col fs x y pre).length ≤ 1 * (col fs x y pre).length := Nat.mul_le_mul_right _ hbl
                omega
              refine ⟨L, ls, _, rfl, rfl, hls9, line' _ (by omega), ?_⟩
              have bt : But L (upd G9 t9 (.tup [.ref q, z7])) (upd (upd G9 t9 (.tup [.ref q, z7])) L (.lst (ls ++ [.ref t9]))) := but_upd
              have sAll := sM.trans (e9.trans st9)
              refine ⟨_, _, _, _, rfl, same_mut (r1.trans sAll) nL, (r2.trans (xt_same sAll)).trans (xt_but hls9 trivial bt), upd_same, ?_⟩
              rw [List.map_append, ← List.append_assoc, List.map_singleton]
              refine ((cls.up sAll).snoc ?_).but hls9 bt
              refine ⟨t9, q, z7, _, rfl, .inl (.inl upd_same), dz7.up st9, st9 _ _ (e9 _ _ upd_same), ar2⟩
          · obtain ⟨y12, y13, y14, ls, rfl, r1, r2, hls, cls⟩ := p
            refine ⟨_, _, _, _, _, ls, rfl, r1, q2.trans r2, hls, ?_⟩
            unfold paint at cls ⊢
            rw [List.flatMap_append, List.flatMap_singleton]
            exact cls
        · obtain ⟨y10, y11, y12, y13, y14, ls, rfl, q1, q2, hls, cls⟩ := p
          refine ⟨_, rfl, L, _, _, _, _, _, _, _, _, _, _, _, _, ls, rfl, s1.trans q1, hls, ?_⟩
          rw [col_snoc]
          exact cls
    · obtain ⟨f, y5, y6, y7, y8, y9, y10, y11, y12, y13, y14, y15, y16, ys, rfl, s1, hys, cys⟩ := p
      have hyl : ys.length = (col fs x y cs).length := cys.1
      have hcl64 : (col fs x y cs).length ≤ 64 := by
        rw [col_len]
        exact pow64 hcn
      refine ⟨_, rfl, a, T.C, dx, _, _, rfl, s1 _ _ h1, T.cl, T.nF, spF_f fa ea, fa, _, rfl, .inr (sqT_xt (xt_same s1) h2), ?_⟩
      have hsl : SqL K H' f ys := .inl (.inl hys)
      have eN : ((fs.map V.int).length : Int) = ((fs.length : Nat) : Int) := by rw [List.length_map]
      have h64 : 2 ^ fs.length ≤ 64 := pow64 hn
      refine ⟨_, rfl, f, rfl, ⟨_, hsl⟩, fun D hD => ?_⟩
      refine dc_dr (K := K) (l := col fs x y cs) (by rw [← hyl]; exact walk_list (K := K) (xs := ys)) (N := 2 ^ fs.length) (fun p => (aIdx fs.length p.1, p.2)) (fun G sG => sG.seq hsl) hD (by omega) (fun p hp => aIdx_lt (col_bits fs x y cs p hp)) (fun i p xx G1 G2 ei sG yy Kz kz => ?_) (fun G1 kvs sG hkv dr => ?_)
      · obtain ⟨rfl, ex⟩ := yy
        obtain ⟨t, d, z, kvs, rfl, hst, dz, hdk, ar⟩ := (cys.up sG).2 _ _ _ ex ei
        refine ⟨t, _, rfl, hst, rfl, _, _, rfl, _, _, rfl, rfl, rfl, ?_⟩
        refine ⟨_, rfl, (fs.length : Int), (by rw [eN]), by omega, by omega, fun D2 hD2 => ?_⟩
        have ent : ((fs.length : Nat) : Int).toNat = fs.length := by omega
        rw [ent]
        refine lc_data (K := K) (l := List.range fs.length) (by rw [List.length_range]; exact walk_range (lo := 0) (n := fs.length)) .int (fun v => some (p.1 v)) (fun _ _ => True.intro) hD2 (line' _ (by rw [List.length_range]; omega)) (fun i w xx G3 G4 ei2 s3 yy Ky Kn ky kn => ?_) (fun G3 ys2 s3 hys2 hyl2 hd => ?_)
        · obtain ⟨rfl, ex⟩ := yy
          have hiw : i = w ∧ w < fs.length := by
            have hl := (List.getElem?_eq_some_iff.mp ei2).1
            rw [List.length_range] at hl
            rw [List.getElem?_range hl] at ei2
            have := Option.some.inj ei2
            omega
          have ex : xx = .int (w : Int) := by
            show xx = _
            rw [ex]
            show V.int (0 + (i : Int)) = _
            rw [hiw.1, Int.zero_add]
          subst ex
          obtain ⟨cc, hcc, hwc⟩ := hall w hiw.2
          have hval := ar.val cc hcc w hwc
          have get : DGet G4 d (.int (w : Int)) (some (.int (p.1 w))) := by
            have := DGet.k (k := Sum.inl (w : Int)) (s3 _ _ hdk)
            rw [hval] at this
            exact this
          exact ⟨rfl, _, rfl, _, rfl, d, _, rfl, get, ky _ _ _ rfl (Same.refl _) (.int _)⟩
        · have ey := DeA.ints_of hd
          have ef : ((List.range fs.length).filterMap fun v => some (p.1 v)) = (List.range fs.length).map p.1 := by rw [List.filterMap_eq_map']
          rw [ef] at ey
          subst ey
          refine ⟨D2, (List.range fs.length).map p.1, rfl, .inl (.inl hys2), (by rw [List.length_map, List.length_range]; omega), fun b hb => ?_, _, rfl, kz z _ s3 (dz.up s3)⟩
          obtain ⟨v, _, rfl⟩ := List.mem_map.mp hb
          exact col_bits fs x y cs p (List.mem_of_getElem? ei) v
      · exact k D kvs G1 (s1.trans sG) (s1.free hD) hkv dr
end
end K49
namespace K49
open PySem PySem.Spec PyProof.Rows L2
section
variable {P : Program} {w : World} {K : PySem.W.Frag} {mg : Str → Option Value} {base : Heap}
theorem ixV_key {kvs : List (Key × V)} {ks : List Nat} (e : kvs.map (·.1) = ks.map (fun (i : Nat) => (Sum.inl (i : Int) : Key))) {j : Nat} {k : V} {i : Nat} (h : (kvs[j]?.map fun kv => kV kv.1) = some k) (hi : ks[j]? = some i) : k = .int (i : Int) := by
  obtain ⟨kv, e1, rfl⟩ := Option.map_eq_some_iff.mp h
  have := congrArg (fun l => l[j]?) e
  simp only [List.getElem?_map, e1, hi, Option.map_some, Option.some.injEq] at this
  rw [this]
  rfl
theorem ixV_val {kvs : List (Key × V)} {ks : List Nat} (e : kvs.map (·.1) = ks.map (fun (i : Nat) => (Sum.inl (i : Int) : Key))) (nd : ks.Nodup) {j : Nat} {v : V} {i : Nat} (h : kvs[j]?.map Prod.snd = some v) (hi : ks[j]? = some i) : valV kvs (.inl (i : Int)) = some v := by
  obtain ⟨kv, e1, rfl⟩ := Option.map_eq_some_iff.mp h
  have hk : kv.1 = (.inl (i : Int) : Key) := by
    have := congrArg (fun l => l[j]?) e
    simp only [List.getElem?_map, e1, hi, Option.map_some, Option.some.injEq] at this
    exact this
  have ndk : (kvs.map (·.1)).Nodup := by
    rw [e, List.Nodup, List.pairwise_map]
    exact nd.imp fun h z => h (by have := Sum.inl.inj z; omega)
  have := val_nodup ndk kv (List.mem_of_getElem? e1)
  rw [hk] at this
  exact this
def sp_cluster_move (K : PySem.W.Frag) (C : Addr) : Sp := fun vs H Q _ => ∃ (a : Addr) (fs : List Int) (es : List (Nat × Nat × Int)) (u v : V) (x y : Rat), vs = [.ref a, u, v] ∧ SpR K C H a fs es ∧ De K H u (eF x) ∧ De K H v (eF y) ∧ Good fs es x y ∧ (∀ e ∈ es, 0 ≤ e.2.2) ∧ x ≤ 1 ∧ MOk fs es x y ∧
  ∀ z H', Same H H' → De K H' z (eT (tab (2 ^ fs.length) (clM fs es x y))) → Q z H'
theorem ok_cluster_move (T : Txt K mg) : FnOk P w K mg base CX0 5 T.d_cluster_move.f T.d_cluster_move.d ["spins", "x", "y"] (sp_cluster_move K T.C) := by
  refine T.d_cluster_move.F.ok sc_cluster_move (fun vs H Q E h => ?_) (fun cdv A outer s H vs Q E hr h => ?_)
  · obtain ⟨a, fs, es, u, v, x, y, rfl, _⟩ := h
    rfl
  · obtain ⟨a, fs, es, u, v, x, y, rfl, hs, hu, hv, G, hc, hx, ok, k⟩ := h
    refine ⟨_, (pss_cons
        (ps_expr (pe_call (ok_check_clusters T) (hr.mono (by decide)) (by rfl) T.d_check_clusters.g T.d_check_clusters.F.kp T.d_check_clusters.b .nil pass0 (pa_cons (pv 0) (pa_cons (pv 1) (pa_cons (pv 2) pa_nil)))))
        (pss_cons
        (ps_set (i := 3) sc_cluster_move.nd rfl (.inl rfl) (pe_lst pa_nil))
        (pss_cons
        (ps_for PassesOwn.never rfl (pi_list (pe_call (ok_all_states T) (hr.mono (by decide)) (by rfl) T.d_all_states.g T.d_all_states.F.kp T.d_all_states.b .nil pass0 (pa_cons (pv 0) pa_nil))) (pg_name (i := 4) sc_cluster_move.nd rfl (.inl rfl)) (pss_cons
        (ps_set (i := 5) sc_cluster_move.nd rfl (.inl rfl) pe_dnewK)
        (pss_cons
        (ps_for PassesOwn.never rfl (pi_list (pe_call (ok_kept_sets T) hr (by rfl) T.d_kept_sets.g T.d_kept_sets.F.kp T.d_kept_sets.b .nil pass0 (pa_cons (pv 0) (pa_cons (pv 4) (pa_cons (pv 1) pa_nil))))) (pg_tup rfl (pgs_cons (pg_name (i := 6) sc_cluster_move.nd rfl (.inl rfl)) (pgs_cons (pg_name (i := 7) sc_cluster_move.nd rfl (.inl rfl)) pgs_nil))) (pss_one
        (ps_for PassesOwn.never rfl (pi_items (pe_frz (pe_call (ok_coloured T) hr (by rfl) T.d_coloured.g T.d_coloured.F.kp T.d_coloured.b .nil pass0 (pa_cons (pv 0) (pa_cons (pv 6) (pa_cons (pv 1) (pa_cons (pv 2) pa_nil))))))) (pg_tup rfl (pgs_cons (pg_name (i := 8) sc_cluster_move.nd rfl (.inl rfl)) (pgs_cons (pg_name (i := 9) sc_cluster_move.nd rfl (.inl rfl)) pgs_nil))) (pss_one
        (ps_dput (hu_of hr) (pv 5) (pv 8) (pe_call (ok_add T) (hr.mono (by decide)) (by rfl) T.d_add.g T.d_add.F.kp T.d_add.b .nil pass0 (pa_cons (pe_dget2 (hu_of hr) (pv 5) (pv 8) (pe_glob (v := .ref T.a_ZERO) (by rfl) T.g_ZERO rfl) ⟨rfl, rfl, rfl, rfl⟩) (pa_cons (pe_call (ok_multiply T) (hr.mono (by decide)) (by rfl) T.d_multiply.g T.d_multiply.F.kp T.d_multiply.b .nil pass0 (pa_cons (pv 7) (pa_cons (pv 9) pa_nil))) pa_nil))) rfl)))))
        (pss_one
        (ps_expr (pe_bm PySem.F.plainAttrs_list PySem.F.slot_list_append PySem.F.type_list_append mt_append (pv 3) (pa_cons (pe_call (ok_table_row T) (hr.mono (by decide)) (by rfl) T.d_table_row.g T.d_table_row.F.kp T.d_table_row.b .nil pass0 (pa_cons (pv 5) pa_nil)) pa_nil)))))))
        (pss_one
        (ps_ret (pe_callTy call_tuple_of (by rfl) T.m_tuple (by decide +kernel) (pa_cons (pv 3) pa_nil))))))), ?_⟩
    have h5 := G.n5
    have h32 : 2 ^ fs.length ≤ 32 := Nat.pow_le_pow_right (n := 2) (by decide) h5
    have hG := G.ed
    have h10 := G.el
    refine ⟨_, rfl, _, rfl, _, rfl, a, fs, es, u, v, x, y, rfl, hs, hu, hv, G, hc, hx, fun H1 s1 => ?_⟩
    refine ⟨by show 0 ≤ sizeLine; exact Nat.zero_le _, fun t ht => ?_⟩
    have st : Same H1 (upd H1 t (.lst [])) := same_new ht
    refine ⟨_, rfl, a, fs, es, rfl, hs.up (s1.trans st), by omega, fun p H2 s2 np hl => ⟨p, rfl, ?_⟩⟩
    obtain ⟨xs, hxs, dxs⟩ := hl
    have hlen : xs.length = (sts fs.length).length := dxs.len
    have sH2 : Same H1 H2 := st.trans s2
    refine ⟨⟨xs, hxs⟩, ?_⟩
    have fin0 : (sts fs.length).map (fun s => rowOf (2 ^ fs.length) (clR fs es x y s)) = tab (2 ^ fs.length) (clM fs es x y) := by
      rw [map_at _ [], sts_len]
      rfl
    refine for_data (l := sts fs.length) (by rw [← hlen]; exact walk_list (K := K) (xs := xs)) (fun pre σ H' => ∃ y4 y5 y6 y7 y8 y9 ys, σ = [some (.ref a), some u, some v, some (.ref t), y4, y5, y6, y7, y8, y9] ∧ Same H1 H' ∧ But t H2 H' ∧ H' t = some (.lst ys) ∧ ys.length ≤ pre.length ∧ DeA K H' ys ((pre.map fun s => rowOf (2 ^ fs.length) (clR fs es x y s)).map eR))
      ⟨none, none, none, none, none, none, [], rfl, sH2, But.refl _ _, s2 _ _ upd_same, Nat.le_refl _, .nil⟩ (fun pre σ H' p => ?_) (fun pre s post xv σ H' H3 el ei p yy => ?_) (fun σ H' p => ?_)
    · obtain ⟨y4, y5, y6, y7, y8, y9, ys, rfl, _, b1, _⟩ := p
      exact sqL_but b1 (fun z => by rw [z, upd_same] at np; cases np) hxs
    · obtain ⟨y4, y5, y6, y7, y8, y9, ys, rfl, s3, b3, hys, lys, dys⟩ := p
      obtain ⟨rfl, ex⟩ := yy
      have hsm : s ∈ sts fs.length := List.mem_of_getElem? ei
      have hsl := sts_mem _ _ hsm
      have dst : De K H3 xv (eS s) := (dxs.at_ ex ei).xt (xt_but (s2 _ _ upd_same) trivial b3)
      have hpre : pre.length ≤ 32 := by
        have h1 := congrArg List.length el
        rw [sts_len, List.length_append] at h1
        omega
      intro d hd
      have sd : Same H3 (upd H3 d (.dK [])) := same_new hd
      have ntd : t ≠ d := ne_of_none hys hd
      have nd1 : H1 d = none := s3.free hd
      have s3d : Same H1 (upd H3 d (.dK [])) := s3.trans sd
      refine ⟨_, rfl, _, rfl, _, rfl, a, fs, es, xv, u, s, x, rfl, (hs.up s1).up s3d, dst.up sd, (hu.up s1).up s3d, G.bx, by omega, hsl.1, h10, (fun e he => by have := hG e he; omega), ok.kok s hsm, fun p2 H4 s4 kl => ⟨p2, rfl, ?_⟩⟩
      obtain ⟨np2, kx, hkx, lkx, hke⟩ := kl
      refine ⟨⟨kx, hkx⟩, ?_⟩
      have hN : ∀ b, (upd H3 d (.dK [])) b = none → b ≠ d := fun b hb z => by
        subst z
        rw [upd_same] at hb
        cases hb
      have hd4 : H4 d = some (.dK []) := s4 _ _ upd_same
      refine for_data (l := keptC fs.length x s es) (by rw [← lkx]; exact walk_list (K := K) (xs := kx)) (fun pk σ G4 => ∃ y6 y7 y8 y9 kvs, σ = [some (.ref a), some u, some v, some (.ref t), some xv, some (.ref d), y6, y7, y8, y9] ∧ Same H1 G4 ∧ But d H4 G4 ∧ G4 d = some (.dK kvs) ∧ DR K G4 kvs (2 ^ fs.length) fun k => (pk.map fun q => q.2 * colP fs.length fs x y q.1 k).sum)
        ⟨_, _, _, _, [], rfl, s3d.trans s4, But.refl _ _, hd4, DR.nil⟩ (fun pk σ G4 p => ?_) (fun pk q po xq σ G4 G5 el2 ei2 p yy => ?_) (fun σ G4 p => ?_)
      · obtain ⟨y6, y7, y8, y9, kvs, rfl, _, b4, _⟩ := p
        exact sqL_but b4 (hN _ np2) hkx
      · obtain ⟨y6, y7, y8, y9, kvs, rfl, s5, b5, hkv, dr⟩ := p
        obtain ⟨rfl, exq⟩ := yy
        have hqm : q ∈ keptC fs.length x s es := List.mem_of_getElem? ei2
        obtain ⟨tt, c, z, rfl, hst, dz, cl⟩ := (hke _ _ _ exq ei2).but b5 hd4 trivial hN
        have hg := ok.g s hsm q hqm
        refine ⟨tt, _, rfl, hst, rfl, _, _, rfl, _, _, rfl, rfl, ?_⟩
        refine ⟨_, rfl, _, rfl, _, rfl, _, rfl, a, fs, es, c, _, q.1, u, v, x, y, rfl, (hs.up s1).up s5, cl, (hu.up s1).up s5, (hv.up s1).up s5, G.bx, G.by_, by omega, hg.len, hg.lt, hg.all, ok.ck s hsm q hqm, fun e kv G6 s6 ne he dr2 => ?_⟩
        refine ⟨e, kv, rfl, he, fun od => ⟨e, od, kv, rfl, upd_same, ?_⟩⟩
        obtain ⟨ks, k1, k2, k3, k4, k5⟩ := dr2.ex
        have xl : Xt G6 (upd G6 e (.frz od (.dK kv))) := xt_upd he trivial
        have sl : Same G5 (upd G6 e (.frz od (.dK kv))) := same_mut s6 ne
        have lkv : kv.length = ks.length := by
          have := congrArg List.length k1
          rw [List.length_map, List.length_map] at this
          exact this
        have he2 : (upd G6 e (.frz od (.dK kv))) e = some (.frz od (.dK kv)) := upd_same
        generalize (upd G6 e (.frz od (.dK kv))) = GL at xl sl he2 ⊢
        refine for_data (l := ks) (by rw [← lkv]; exact walk_items (d := e) (o := od) (kvs := kv)) (fun ps σ G7 => ∃ y8 y9 kvs, σ = [some (.ref a), some u, some v, some (.ref t), some xv, some (.ref d), some (.ref c), some z, y8, y9] ∧ Same H1 G7 ∧ But d H4 G7 ∧ Xt GL G7 ∧ G7 d = some (.dK kvs) ∧ DR K G7 kvs (2 ^ fs.length) fun k => (pk.map fun q => q.2 * colP fs.length fs x y q.1 k).sum + acc k (ps.map fun j => (j, q.2 * colP fs.length fs x y q.1 j)))
          ⟨_, _, kvs, rfl, s5.trans sl, b5.trans (but_same sl), Xt.refl _, sl _ _ hkv, ?_⟩ (fun ps σ G7 p => ?_) (fun ps j pt xj σ G7 G8 el3 ei3 p yy => ?_) (fun σ G7 p => ?_)
        · have : (fun k => (pk.map fun q => q.2 * colP fs.length fs x y q.1 k).sum + acc k (([] : List Nat).map fun j => (j, q.2 * colP fs.length fs x y q.1 j))) = fun k => (pk.map fun q => q.2 * colP fs.length fs x y q.1 k).sum := by
            funext k
            exact Rat.add_zero _
          rw [this]
          exact dr.xt (xt_same sl)
        · obtain ⟨y8, y9, kvs, rfl, _, _, x7, _⟩ := p
          exact x7 _ _ he2 fun z => z
        · obtain ⟨y8, y9, kvs, rfl, s7, b7, x7, hk7, dr7⟩ := p
          obtain ⟨tj, xk, xv2, rfl, htj, rfl, ej1, ej2⟩ := yy
          have ej1 : xk = .int (j : Int) := ixV_key k1 ej1 ei3
          subst ej1
          have hjm : j ∈ ks := List.mem_of_getElem? ei3
          have hjv := ixV_val k1 k2 ej2 ei3
          obtain ⟨v', ev', dv'⟩ := k4 j hjm
          rw [hjv] at ev'
          cases ev'
          have stj : Same G7 (upd G7 tj (.tup [.int (j : Int), xv2])) := same_new htj
          have s8 := s7.trans stj
          have hk8 := stj _ _ hk7
          have x8 := x7.trans (xt_same stj)
          have dr8 := dr7.xt (xt_same stj)
          have b8 := b7.trans (but_same stj)
          have hjN := k3 j hjm
          have hout : acc j (ps.map fun j => (j, q.2 * colP fs.length fs x y q.1 j)) = 0 := acc_out fun p hp z => by
            obtain ⟨j', hj', rfl⟩ := List.mem_map.mp hp
            have e2 : j' = j := z
            subst e2
            rw [el3] at k2
            exact (List.nodup_append.mp k2).2.2 j' hj' j' List.mem_cons_self rfl
          have hnow := dr8.get T j
          have hnow2 : De K (upd G7 tj (.tup [.int (j : Int), xv2])) ((valV kvs (.inl (j : Int))).getD (.ref T.a_ZERO)) (eF ((pk.map fun q => q.2 * colP fs.length fs x y q.1 j).sum)) := by
            have h := hnow
            have e : (pk.map fun q => q.2 * colP fs.length fs x y q.1 j).sum + acc j (ps.map fun j => (j, q.2 * colP fs.length fs x y q.1 j)) = (pk.map fun q => q.2 * colP fs.length fs x y q.1 j).sum := by rw [hout, Rat.add_zero]
            rw [e] at h
            exact h
          refine ⟨tj, _, rfl, .inl (.inl upd_same), rfl, _, _, rfl, _, _, rfl, rfl, ?_⟩
          refine ⟨_, rfl, d, rfl, .inl ⟨kvs, .inl hk8⟩, _, rfl, _, DGet.k (k := Sum.inl (j : Int)) hk8, ?_⟩
          have dz8 : De K (upd G7 tj (.tup [.int (j : Int), xv2])) z (eF q.2) := (dz.xt (xt_same sl)).xt x8
          have dv8 : De K (upd G7 tj (.tup [.int (j : Int), xv2])) xv2 (eF (colP fs.length fs x y q.1 j)) := (dv'.xt xl).xt x8
          refine ⟨_, rfl, _, rfl, z, xv2, q.2, _, rfl, dz8, dv8, ok.q s hsm q hqm, ok.c s hsm q hqm j, trivial, fun z1 G9 e9 dz1 => ?_⟩
          refine ⟨_, z1, _, _, rfl, hnow2.up e9, dz1, ok.pre s hsm pk (q :: po) el2 j, ok.qc s hsm q hqm j, trivial, fun z2 G10 e10 dz2 => ?_⟩
          have hd10 := e10 _ _ (e9 _ _ hk8)
          have drl := dr8.len
          refine ⟨_, rfl, _, rfl, d, _, rfl, DPut.k (k := Sum.inl (j : Int)) hd10 (line' _ (by omega)), ?_⟩
          have xu : Xt G10 (upd G10 d (.dK (putK kvs (Sum.inl (j : Int)) z2))) := xt_upd hd10 trivial
          have x810 := xt_same (e9.trans e10)
          refine ⟨_, _, _, rfl, same_mut ((s8.trans e9).trans e10) nd1, (b8.trans (but_same (e9.trans e10))).trans but_upd, (x8.trans x810).trans xu, upd_same, ?_⟩
          have ef : (fun k => (pk.map fun q => q.2 * colP fs.length fs x y q.1 k).sum + acc k ((ps ++ [j]).map fun j => (j, q.2 * colP fs.length fs x y q.1 j))) = fun k => if j = k then (pk.map fun q => q.2 * colP fs.length fs x y q.1 j).sum + q.2 * colP fs.length fs x y q.1 j else (pk.map fun q => q.2 * colP fs.length fs x y q.1 k).sum + acc k (ps.map fun j => (j, q.2 * colP fs.length fs x y q.1 j)) := by
            funext k
            rw [List.map_append, List.map_singleton, acc_snoc]
            by_cases hjk : j = k
            · subst hjk
              rw [if_pos rfl, if_pos rfl, hout, Rat.zero_add]
            · rw [if_neg hjk, if_neg hjk]
          rw [ef]
          exact ((dr8.xt x810).put hjN dz2).xt xu
        · obtain ⟨y8, y9, kvs, rfl, s7, b7, x7, hk7, dr7⟩ := p
          refine ⟨_, _, _, _, kvs, rfl, s7, b7, hk7, ?_⟩
          have ef : (fun k => ((pk ++ [q]).map fun q => q.2 * colP fs.length fs x y q.1 k).sum) = fun k => (pk.map fun q => q.2 * colP fs.length fs x y q.1 k).sum + acc k (ks.map fun j => (j, q.2 * colP fs.length fs x y q.1 j)) := by
            funext k
            rw [List.map_append, List.map_singleton, sum_snoc]
            congr 1
            have h1 := acc_keys k2 (fun j => q.2 * colP fs.length fs x y q.1 j) k
            rw [h1]
            by_cases hk : k ∈ ks
            · rw [if_pos hk]
            · rw [if_neg hk, (k5 k hk).2, Rat.mul_zero]
          rw [ef]
          exact dr7
      · obtain ⟨y6, y7, y8, y9, kvs, rfl, s5, b5, hkv, dr⟩ := p
        have ht5 : G4 t = some (.lst ys) := b5 _ _ ntd (s4 _ _ (sd _ _ hys))
        have bb : But t H2 G4 := b3.trans (fun b o _ hb => ?_)
        · refine ⟨_, rfl, .inl ⟨rfl, _, .inl (.inl ht5)⟩, _, rfl, d, kvs, _, _, rfl, hkv, dr, h32, fun z G6 e6 dz => ?_⟩
          have ht6 := e6 _ _ ht5
          refine ⟨t, ys, z, rfl, rfl, ht6, line' _ (by omega), ?_⟩
          have xu : Xt G6 (upd G6 t (.lst (ys ++ [z]))) := xt_upd ht6 trivial
          have xA : Xt H3 G4 := ((xt_same sd).trans (xt_same s4)).trans (xt_but hd4 trivial b5)
          refine ⟨_, _, _, _, _, _, _, rfl, same_mut (s5.trans e6) ht, (bb.trans (but_same e6)).trans but_upd, upd_same, by simp; omega, ?_⟩
          rw [List.map_append, List.map_append]
          exact (((dys.xt xA).up e6).snoc dz).xt xu
        · exact b5 _ _ (ne_of_none hb hd) (s4 _ _ (sd _ _ hb))
    · obtain ⟨y4, y5, y6, y7, y8, y9, ys, rfl, s3, b3, hys, lys, dys⟩ := p
      rw [fin0] at dys
      exact ⟨_, rfl, t, ys, rfl, .inl ⟨.inl (.inl hys), fun r hr2 => k _ _ ((s1.trans s3).trans (same_new hr2)) (de_new hr2 dys)⟩⟩
end
end K49
namespace K49
open PySem PySem.Spec PyProof.Rows L2
section
variable {P : Program} {w : World} {K : PySem.W.Frag} {mg : Str → Option Value} {base : Heap}
theorem inV_nts (v : Nat) (vs : List Nat) : inV (.int (v : Int)) (nts vs) = decide (v ∈ vs) := by
  unfold inV nts
  rw [List.any_map]
  induction vs with
  | nil => rfl
  | cons a l ih =>
    rw [List.any_cons, ih]
    show ((a : Int) == (v : Int) || decide (v ∈ l)) = decide (v ∈ a :: l)
    by_cases h : a = v
    · subst h
      simp
    · have h1 : ((a : Int) == (v : Int)) = false := by
        rw [beq_eq_false_iff_ne]
        omega
      have h2 : ¬ v = a := fun z => h z.symm
      rw [h1]
      simp [h2]
theorem nts_flat (vs : List Nat) : (nts vs).all flatV = true := by
  unfold nts
  rw [List.all_map, List.all_eq_true]
  exact fun _ _ => rfl
def sp_single_turn (K : PySem.W.Frag) (C : Addr) : Sp := fun vs H Q _ => ∃ (a : Addr) (fs : List Int) (es : List (Nat × Nat × Int)) (u : V) (x : Rat), vs = [.ref a, u] ∧ SpR K C H a fs es ∧ De K H u (eF x) ∧ Good fs es x 1 ∧ (∀ e ∈ es, 0 ≤ e.2.2) ∧ x ≤ 1 ∧ (∀ f ∈ fs, f = 0) ∧ TOk fs.length es x ∧
  ∀ z H', Same H H' → De K H' z (eT (tab (2 ^ fs.length) (stM fs.length es x))) → Q z H'
theorem ok_single_turn (T : Txt K mg) : FnOk P w K mg base CX0 5 T.d_single_turn.f T.d_single_turn.d ["spins", "x"] (sp_single_turn K T.C) := by
  refine T.d_single_turn.F.ok sc_single_turn (fun vs H Q E h => ?_) (fun cdv A outer s H vs Q E hr h => ?_)
  · obtain ⟨a, fs, es, u, x, rfl, _⟩ := h
    rfl
  · obtain ⟨a, fs, es, u, x, rfl, hs, hu, G, hc, hx, hf0, ok, k⟩ := h
    refine ⟨_, (pss_cons
        (ps_expr (pe_call (ok_check_clusters T) (hr.mono (by decide)) (by rfl) T.d_check_clusters.g T.d_check_clusters.F.kp T.d_check_clusters.b .nil pass0 (pa_cons (pv 0) (pa_cons (pv 1) (pa_cons (pe_glob (v := .ref T.a_ONE) (by rfl) T.g_ONE rfl) pa_nil)))))
        (pss_cons
        (ps_expr (pe_call (ok_check_no_field T) (hr.mono (by decide)) (by rfl) T.d_check_no_field.g T.d_check_no_field.F.kp T.d_check_no_field.b .nil pass0 (pa_cons (pv 0) pa_nil)))
        (pss_cons
        (ps_set (i := 2) sc_single_turn.nd rfl (.inl rfl) (pe_callB call_len_seq (by rfl) T.m_len PySem.boot_len (pa_cons (pe_fld (pv 0) rfl) pa_nil)))
        (pss_cons
        (ps_set (i := 3) sc_single_turn.nd rfl (.inl rfl) (pe_lst pa_nil))
        (pss_cons
        (ps_for PassesOwn.never rfl (pi_list (pe_call (ok_all_states T) (hr.mono (by decide)) (by rfl) T.d_all_states.g T.d_all_states.F.kp T.d_all_states.b .nil pass0 (pa_cons (pv 0) pa_nil))) (pg_name (i := 4) sc_single_turn.nd rfl (.inl rfl)) (pss_cons
        (ps_set (i := 5) sc_single_turn.nd rfl (.inl rfl) pe_dnewK)
        (pss_cons
        (ps_for PassesOwn.never rfl (pi_list (pe_call (ok_kept_sets T) hr (by rfl) T.d_kept_sets.g T.d_kept_sets.F.kp T.d_kept_sets.b .nil pass0 (pa_cons (pv 0) (pa_cons (pv 4) (pa_cons (pv 1) pa_nil))))) (pg_tup rfl (pgs_cons (pg_name (i := 6) sc_single_turn.nd rfl (.inl rfl)) (pgs_cons (pg_name (i := 7) sc_single_turn.nd rfl (.inl rfl)) pgs_nil))) (pss_one
        (ps_for PassesOwn.never rfl (pi_list (pv 6)) (pg_name (i := 8) sc_single_turn.nd rfl (.inr rfl)) (pss_cons
        (ps_setLc (i := 9) (own := [("vertex", 12), ("spin", 13)]) rfl sc_single_turn.nd rfl rfl (sw_true rfl rfl rfl (by decide +kernel)) (pi_enumT (by rfl) T.m_enumerate (pa_cons (pv 4) pa_nil)) (blkOk_by (N := ["spins", "x", "count", "table", "state", "chances", "clusters", "chance", "vertices", "turned", "index", "further", "vertex", "spin"]) (sc := defScope s_single_turn) (own := [("vertex", 12), ("spin", 13)]) (by decide +kernel)) (fun _ _ _ _ _ => (pg_tupK (K := K) (n := 2) rfl rfl (pgs_cons (pg_name (i := 12) sc_single_turn.nd rfl (by first | exact .inl rfl | exact .inr rfl)) (pgs_cons (pg_name (i := 13) sc_single_turn.nd rfl (by first | exact .inl rfl | exact .inr rfl)) pgs_nil)))) (fun _ _ _ _ _ => pts_nil) (fun _ _ _ _ _ => (pe_ifExp (pt_cmpR (op_inK (K := K) rfl) (pv 12) (pv 8) (by rfl)) (pe_op op_sub pe_int (pv 13)) (pv 13))))
        (pss_cons
        (ps_set (i := 10) sc_single_turn.nd rfl (.inl rfl) (pe_call (ok_index T) (hr.mono (by decide)) (by rfl) T.d_index.g T.d_index.F.kp T.d_index.b .nil pass0 (pa_cons (pv 9) pa_nil)))
        (pss_cons
        (ps_set (i := 11) sc_single_turn.nd rfl (.inl rfl) (pe_call (ok_multiply T) (hr.mono (by decide)) (by rfl) T.d_multiply.g T.d_multiply.F.kp T.d_multiply.b .nil pass0 (pa_cons (pv 7) (pa_cons (pe_call (ok_fraction T) (hr.mono (by decide)) (by rfl) T.d_fraction.g T.d_fraction.F.kp T.d_fraction.b .nil pass0 (pa_cons (pe_callB call_len_seq (by rfl) T.m_len PySem.boot_len (pa_cons (pv 8) pa_nil)) (pa_cons (pv 2) pa_nil))) pa_nil))))
        (pss_one
        (ps_dput (hu_of hr) (pv 5) (pv 10) (pe_call (ok_add T) (hr.mono (by decide)) (by rfl) T.d_add.g T.d_add.F.kp T.d_add.b .nil pass0 (pa_cons (pe_dget2 (hu_of hr) (pv 5) (pv 10) (pe_glob (v := .ref T.a_ZERO) (by rfl) T.g_ZERO rfl) ⟨rfl, rfl, rfl, rfl⟩) (pa_cons (pv 11) pa_nil))) rfl))))))))
        (pss_one
        (ps_expr (pe_bm PySem.F.plainAttrs_list PySem.F.slot_list_append PySem.F.type_list_append mt_append (pv 3) (pa_cons (pe_call (ok_table_row T) (hr.mono (by decide)) (by rfl) T.d_table_row.g T.d_table_row.F.kp T.d_table_row.b .nil pass0 (pa_cons (pv 5) pa_nil)) pa_nil)))))))
        (pss_one
        (ps_ret (pe_callTy call_tuple_of (by rfl) T.m_tuple (by decide +kernel) (pa_cons (pv 3) pa_nil))))))))), ?_⟩
    have h5 := G.n5
    have hn1 := G.n1
    have h32 : 2 ^ fs.length ≤ 32 := Nat.pow_le_pow_right (n := 2) (by decide) h5
    have hG := G.ed
    have h10 := G.el
    refine ⟨_, rfl, _, rfl, a, fs, es, u, .ref T.a_ONE, x, 1, rfl, hs, hu, de_one T H, G, hc, hx, fun H0 s0 => ?_⟩
    refine ⟨_, rfl, a, fs, es, rfl, hs.up s0, by omega, hf0, fun H1 s01 => ?_⟩
    have s1 : Same H H1 := s0.trans s01
    obtain ⟨dx, fa, ea, h1, h2, h3⟩ := (hs.up s1).ex
    refine ⟨_, rfl, a, T.C, dx, _, _, rfl, h1, T.cl, T.nF, spF_f fa ea, fa, _, rfl, .inr h2, ?_⟩
    have eN : ((fs.map V.int).length : Int) = ((fs.length : Nat) : Int) := by rw [List.length_map]
    refine ⟨by show 0 ≤ sizeLine; exact Nat.zero_le _, fun t ht => ?_⟩
    have st : Same H1 (upd H1 t (.lst [])) := same_new ht
    refine ⟨_, rfl, a, fs, es, rfl, hs.up (s1.trans st), by omega, fun p H2 s2 np hl => ⟨p, rfl, ?_⟩⟩
    obtain ⟨xs, hxs, dxs⟩ := hl
    have hlen : xs.length = (sts fs.length).length := dxs.len
    have sH2 : Same H1 H2 := st.trans s2
    refine ⟨⟨xs, hxs⟩, ?_⟩
    have fin0 : (sts fs.length).map (fun s => rowOf (2 ^ fs.length) (stR fs.length x es s)) = tab (2 ^ fs.length) (stM fs.length es x) := by
      rw [map_at _ [], sts_len]
      rfl
    refine for_data (l := sts fs.length) (by rw [← hlen]; exact walk_list (K := K) (xs := xs)) (fun pre σ H' => ∃ y4 y5 y6 y7 y8 y9 y10 y11 y12 y13 ys, σ = [some (.ref a), some u, some (.int ((fs.map V.int).length : Int)), some (.ref t), y4, y5, y6, y7, y8, y9, y10, y11, y12, y13] ∧ Same H1 H' ∧ But t H2 H' ∧ H' t = some (.lst ys) ∧ ys.length ≤ pre.length ∧ DeA K H' ys ((pre.map fun s => rowOf (2 ^ fs.length) (stR fs.length x es s)).map eR))
      ⟨none, none, none, none, none, none, none, none, none, none, [], rfl, sH2, But.refl _ _, s2 _ _ upd_same, Nat.le_refl _, .nil⟩ (fun pre σ H' p => ?_) (fun pre s post xv σ H' H3 el ei p yy => ?_) (fun σ H' p => ?_)
    · obtain ⟨y4, y5, y6, y7, y8, y9, y10, y11, y12, y13, ys, rfl, _, b1, _⟩ := p
      exact sqL_but b1 (fun z => by rw [z, upd_same] at np; cases np) hxs
    · obtain ⟨y4, y5, y6, y7, y8, y9, y10, y11, y12, y13, ys, rfl, s3, b3, hys, lys, dys⟩ := p
      obtain ⟨rfl, ex⟩ := yy
      have hsm : s ∈ sts fs.length := List.mem_of_getElem? ei
      have hsl := sts_mem _ _ hsm
      have dst : De K H3 xv (eS s) := (dxs.at_ ex ei).xt (xt_but (s2 _ _ upd_same) trivial b3)
      obtain ⟨sv, rfl, hsv⟩ := eS_of dst
      have hpre : pre.length ≤ 32 := by
        have h1 := congrArg List.length el
        rw [sts_len, List.length_append] at h1
        omega
      intro d hd
      have sd : Same H3 (upd H3 d (.dK [])) := same_new hd
      have ntd : t ≠ d := ne_of_none hys hd
      have nd1 : H1 d = none := s3.free hd
      have s3d : Same H1 (upd H3 d (.dK [])) := s3.trans sd
      refine ⟨_, rfl, _, rfl, _, rfl, a, fs, es, .ref sv, u, s, x, rfl, (hs.up s1).up s3d, dst.up sd, (hu.up s1).up s3d, G.bx, by omega, hsl.1, h10, (fun e he => by have := hG e he; omega), ok.kok s hsm, fun p2 H4 s4 kl => ⟨p2, rfl, ?_⟩⟩
      obtain ⟨np2, kx, hkx, lkx, hke⟩ := kl
      refine ⟨⟨kx, hkx⟩, ?_⟩
      have hN : ∀ b, (upd H3 d (.dK [])) b = none → b ≠ d := fun b hb z => by
        subst z
        rw [upd_same] at hb
        cases hb
      have hd4 : H4 d = some (.dK []) := s4 _ _ upd_same
      have hsv4 : SqT K H4 sv (s.map .int) := sqT_xt (xt_same (sd.trans s4)) hsv
      refine for_data (l := keptC fs.length x s es) (by rw [← lkx]; exact walk_list (K := K) (xs := kx)) (fun pk σ G4 => ∃ y6 y7 y8 y9 y10 y11 y12 y13 kvs, σ = [some (.ref a), some u, some (.int ((fs.map V.int).length : Int)), some (.ref t), some (.ref sv), some (.ref d), y6, y7, y8, y9, y10, y11, y12, y13] ∧ Same H1 G4 ∧ But d H4 G4 ∧ G4 d = some (.dK kvs) ∧ DR K G4 kvs (2 ^ fs.length) fun k => acc k (pk.flatMap (turnsOf fs.length s)))
        ⟨_, _, _, _, _, _, _, _, [], rfl, s3d.trans s4, But.refl _ _, hd4, DR.nil⟩ (fun pk σ G4 p => ?_) (fun pk q po xq σ G4 G5 el2 ei2 p yy => ?_) (fun σ G4 p => ?_)
      · obtain ⟨y6, y7, y8, y9, y10, y11, y12, y13, kvs, rfl, _, b4, _⟩ := p
        exact sqL_but b4 (hN _ np2) hkx
      · obtain ⟨y6, y7, y8, y9, y10, y11, y12, y13, kvs, rfl, s5, b5, hkv, dr⟩ := p
        obtain ⟨rfl, exq⟩ := yy
        have hqm : q ∈ keptC fs.length x s es := List.mem_of_getElem? ei2
        obtain ⟨tt, c, z, rfl, hst, dz, cl⟩ := (hke _ _ _ exq ei2).but b5 hd4 trivial hN
        have hg := ok.g s hsm q hqm
        obtain ⟨nc, cx, hcx, lcx, hce⟩ := cl
        refine ⟨tt, _, rfl, hst, rfl, _, _, rfl, _, _, rfl, rfl, ?_⟩
        refine ⟨_, rfl, c, rfl, ⟨cx, hcx⟩, ?_⟩
        refine for_data (l := q.1) (by rw [← lcx]; exact walk_list (K := K) (xs := cx)) (fun pc σ G7 => ∃ y8 y9 y10 y11 y12 y13 kvs, σ = [some (.ref a), some u, some (.int ((fs.map V.int).length : Int)), some (.ref t), some (.ref sv), some (.ref d), some (.ref c), some z, y8, y9, y10, y11, y12, y13] ∧ Same H1 G7 ∧ But d H4 G7 ∧ But d G5 G7 ∧ G7 d = some (.dK kvs) ∧ DR K G7 kvs (2 ^ fs.length) fun k => acc k (pk.flatMap (turnsOf fs.length s) ++ pc.map fun vs => (idx (flip vs s), q.2 * ((vs.length : Int) / ((fs.length : Int) : Rat)))))
          ⟨_, _, _, _, _, _, kvs, rfl, s5, b5, But.refl _ _, hkv, by simpa using dr⟩ (fun pc σ G7 p => ?_) (fun pc vs pt xj σ G7 G8 el3 ei3 p yy => ?_) (fun σ G7 p => ?_)
        · obtain ⟨y8, y9, y10, y11, y12, y13, kvs, rfl, _, _, b7, _⟩ := p
          exact sqL_but b7 (hN _ nc) hcx
        · obtain ⟨y8, y9, y10, y11, y12, y13, kvs, rfl, s7, b7, b57, hk7, dr7⟩ := p
          obtain ⟨rfl, exj⟩ := yy
          obtain ⟨r, rfl, nr, hr0⟩ := hce _ _ _ exj ei3
          have hr8 : SqL K G8 r (nts vs) := sqL_but b57 (hN _ nr) hr0
          have hvm : vs ∈ q.1 := List.mem_of_getElem? ei3
          have hvn := ok.cl s hsm q hqm vs hvm
          have x48 : Xt H4 G8 := xt_but hd4 trivial b7
          have hsv8 : SqT K G8 sv (s.map .int) := sqT_xt x48 hsv4
          refine ⟨_, rfl, sv, _, rfl, hsv8, fun D hD => ?_⟩
          refine lc_data (K := K) (l := List.range s.length) (by rw [List.length_range, ← List.length_map (f := V.int)]; exact walk_enumT (K := K) (xs := s.map V.int)) .int (fun i => some (if i ∈ vs then 1 - s.getD i 0 else s.getD i 0)) (fun G sG => sqT_xt (xt_same sG) hsv8) hD (line' _ (by rw [List.length_range]; omega)) (fun i w xx G G' ei4 sG yy Ky Kn ky kn => ?_) (fun G zs sG hzs hzl hdz => ?_)
          · obtain ⟨te, x1, x2, rfl, hte, rfl, e1, e2⟩ := yy
            have hiw : i = w ∧ w < s.length := by
              have hl := (List.getElem?_eq_some_iff.mp ei4).1
              rw [List.length_range] at hl
              rw [List.getElem?_range hl] at ei4
              have := Option.some.inj ei4
              omega
            obtain ⟨rfl, hws⟩ := hiw
            have e1 : x1 = .int (i : Int) := (Option.some.inj e1).symm
            have e2 : x2 = .int (s.getD i 0) := by
              have e2 : (s.map V.int)[i]? = some x2 := e2
              rw [List.getElem?_map, List.getElem?_eq_getElem hws] at e2
              rw [List.getD, List.getElem?_eq_getElem hws]
              exact (Option.some.inj e2).symm
            subst e1 e2
            have ste : Same G (upd G te (.tup [.int (i : Int), .int (s.getD i 0)])) := same_new hte
            refine ⟨te, _, rfl, .inl (.inl upd_same), rfl, _, _, rfl, _, _, rfl, rfl, rfl, ?_⟩
            refine ⟨_, rfl, _, rfl, r, _, rfl, .inl ((sG.trans ste).seq hr8), rfl, nts_flat vs, _, rfl, ?_⟩
            show if inV (.int (i : Int)) (nts vs) = true then _ else _
            rw [inV_nts]
            by_cases hv : i ∈ vs
            · rw [decide_eq_true hv]
              exact ⟨_, rfl, _, _, rfl, rfl, ky _ _ _ rfl ste (by rw [if_pos hv]; exact .int _)⟩
            · rw [decide_eq_false hv]
              exact ⟨_, rfl, ky _ _ _ rfl ste (by rw [if_neg hv]; exact .int _)⟩
          · have ey := DeA.ints_of hdz
            have ef : ((List.range s.length).filterMap fun i => some (if i ∈ vs then 1 - s.getD i 0 else s.getD i 0)) = flip vs s := by
              unfold flip
              rw [List.filterMap_eq_map']
            rw [ef] at ey
            subst ey
            refine ⟨_, rfl, D, flip vs s, rfl, .inl (.inl hzs), (by rw [flip_len]; omega), flip_bits vs s hsl.2, ?_⟩
            have hjN : idx (flip vs s) < 2 ^ fs.length := by
              have := idx_lt _ (flip_bits vs s hsl.2)
              rw [flip_len, hsl.1] at this
              exact this
            have s8 := s7.trans sG
            have b8 := b7.trans (but_same sG)
            have b58 := b57.trans (but_same sG)
            have hk8 := sG _ _ hk7
            have dr8 := dr7.xt (xt_same sG)
            have dz8 : De K G z (eF q.2) := dz.xt (xt_but hkv trivial b58)
            refine ⟨_, rfl, _, rfl, r, _, rfl, .inl (sG.seq hr8), _, rfl, (vs.length : Int), (fs.length : Int), (by rw [eN, List.length_map]; rfl), by omega, by rw [Int.natAbs_natCast]; exact Nat.lt_of_le_of_lt h5 (Nat.lt_of_lt_of_le (by decide : 5 < 2 ^ 3) (Nat.pow_le_pow_right (by decide) (by decide))), fun z1 G9 e9 dz1 => ?_⟩
            refine ⟨z, z1, _, _, rfl, dz8.up e9, dz1, ok.q s hsm q hqm, ok.f _ hvn, trivial, fun z2 G10 e10 dz2 => ?_⟩
            have hk10 := e10 _ _ (e9 _ _ hk8)
            have dr10 := dr8.xt (xt_same (e9.trans e10))
            refine ⟨_, rfl, d, rfl, .inl ⟨kvs, .inl hk10⟩, _, rfl, _, DGet.k (k := Sum.inl (idx (flip vs s) : Int)) hk10, ?_⟩
            have etr : turns fs.length x es s = (pk.flatMap (turnsOf fs.length s) ++ pc.map fun vs => (idx (flip vs s), q.2 * ((vs.length : Int) / ((fs.length : Int) : Rat)))) ++ ((idx (flip vs s), q.2 * ((vs.length : Int) / ((fs.length : Int) : Rat))) :: (pt.map (fun vs => (idx (flip vs s), q.2 * ((vs.length : Int) / ((fs.length : Int) : Rat)))) ++ po.flatMap (turnsOf fs.length s))) := by
              unfold turns
              rw [el2, List.flatMap_append, List.flatMap_cons, List.append_assoc]
              congr 1
              have : turnsOf fs.length s q = (pc ++ vs :: pt).map fun vs => (idx (flip vs s), q.2 * ((vs.length : Int) / ((fs.length : Int) : Rat))) := by
                unfold turnsOf
                rw [← el3]
              rw [this, List.map_append, List.map_cons, List.append_assoc]
              rfl
            refine ⟨_, rfl, _, z2, _, _, rfl, dr10.get T _, dz2, ok.pre s hsm _ _ etr _, ?_, trivial, fun z3 G11 e11 dz3 => ?_⟩
            · exact ok.t s hsm (idx (flip vs s), q.2 * ((vs.length : Int) / ((fs.length : Int) : Rat))) (by rw [etr]; exact List.mem_append_right _ List.mem_cons_self)
            have hk11 := e11 _ _ hk10
            have drl := dr10.len
            refine ⟨_, rfl, _, rfl, d, _, rfl, DPut.k (k := Sum.inl (idx (flip vs s) : Int)) hk11 (line' _ (by omega)), ?_⟩
            have xu : Xt G11 (upd G11 d (.dK (putK kvs (Sum.inl (idx (flip vs s) : Int)) z3))) := xt_upd hk11 trivial
            have sA := (e9.trans e10).trans e11
            refine ⟨_, _, _, _, _, _, _, rfl, same_mut (s8.trans sA) nd1, (b8.trans (but_same sA)).trans but_upd, (b58.trans (but_same sA)).trans but_upd, upd_same, ?_⟩
            rw [List.map_append, ← List.append_assoc, List.map_singleton]
            exact (dr_acc (dr10.xt (xt_same e11)) hjN dz3).xt xu
        · obtain ⟨y8, y9, y10, y11, y12, y13, kvs, rfl, s7, b7, b57, hk7, dr7⟩ := p
          refine ⟨_, _, _, _, _, _, _, _, kvs, rfl, s7, b7, hk7, ?_⟩
          rw [List.flatMap_append, List.flatMap_singleton]
          exact dr7
      · obtain ⟨y6, y7, y8, y9, y10, y11, y12, y13, kvs, rfl, s5, b5, hkv, dr⟩ := p
        have ht5 : G4 t = some (.lst ys) := b5 _ _ ntd (s4 _ _ (sd _ _ hys))
        have bb : But t H2 G4 := b3.trans (fun b o _ hb => b5 _ _ (ne_of_none hb hd) (s4 _ _ (sd _ _ hb)))
        refine ⟨_, rfl, .inl ⟨rfl, _, .inl (.inl ht5)⟩, _, rfl, d, kvs, _, _, rfl, hkv, dr, h32, fun z G6 e6 dz => ?_⟩
        have ht6 := e6 _ _ ht5
        refine ⟨t, ys, z, rfl, rfl, ht6, line' _ (by omega), ?_⟩
        have xu : Xt G6 (upd G6 t (.lst (ys ++ [z]))) := xt_upd ht6 trivial
        have xA : Xt H3 G4 := ((xt_same sd).trans (xt_same s4)).trans (xt_but hd4 trivial b5)
        refine ⟨_, _, _, _, _, _, _, _, _, _, _, rfl, same_mut (s5.trans e6) ht, (bb.trans (but_same e6)).trans but_upd, upd_same, by simp; omega, ?_⟩
        rw [List.map_append, List.map_append]
        exact (((dys.xt xA).up e6).snoc dz).xt xu
    · obtain ⟨y4, y5, y6, y7, y8, y9, y10, y11, y12, y13, ys, rfl, s3, b3, hys, lys, dys⟩ := p
      rw [fin0] at dys
      exact ⟨_, rfl, t, ys, rfl, .inl ⟨.inl (.inl hys), fun r hr2 => k _ _ ((s1.trans s3).trans (same_new hr2)) (de_new hr2 dys)⟩⟩
end
end K49
namespace K49
open PySem PySem.Spec PyProof.Rows L2
section
variable {P : Program} {w : World} {K : PySem.W.Frag} {mg : Str → Option Value} {base : Heap}
theorem sqT_ins {H H' : Hp} {a b C dx : Addr} {fs : List (Str × V)} {zs : List V} (ha : H a = some (.ins C dx fs)) (s : But a H H') (h : SqT K H b zs) : SqT K H' b zs := by
  rcases h with (h | ⟨o, h⟩) | h
  · exact .inl (.inl (s _ _ (fun z => by rw [z, ha] at h; cases h) h))
  · exact .inl (.inr ⟨o, s _ _ (fun z => by rw [z, ha] at h; cases h) h⟩)
  · exact .inr h
section
variable {H H' : Hp} (x : ∀ b zs, SqT K H b zs → SqT K H' b zs)
include x
mutual
theorem De.tr : ∀ {d : PyData} {v : V}, De K H v d → De K H' v d
  | .none, _, h => by cases h
  | .bool b, _, h => by cases h; exact .bl b
  | .int i, _, h => by cases h; exact .int i
  | .str z, _, h => by cases h
  | .list ds, _, h => by cases h
  | .dict ds, _, h => by cases h
  | .tuple ds, _, h => by
    cases h with
    | tup hs ha => exact .tup (x _ _ hs) (DeA.tr ha)
theorem DeA.tr : ∀ {ds : List PyData} {vs : List V}, DeA K H vs ds → DeA K H' vs ds
  | [], _, h => by cases h; exact .nil
  | d :: ds, _, h => by
    cases h with
    | cons h1 h2 => exact .cons (De.tr h1) (DeA.tr h2)
end
end
def eEd (e : Nat × Nat × Int) : PyData := .tuple [.int e.1, .int e.2.1, .int e.2.2]
/-- what Spins takes -/
structure Mkb (fs : List Int) (es : List (Nat × Nat × Int)) : Prop where
  n1 : 1 ≤ fs.length
  n12 : fs.length ≤ 12
  e24 : es.length ≤ 24
  fb : ∀ f ∈ fs, -9 ≤ f ∧ f ≤ 9
  ed : ∀ e ∈ es, e.1 < e.2.1 ∧ e.2.1 < fs.length ∧ e.2.2 ≠ 0 ∧ -9 ≤ e.2.2 ∧ e.2.2 ≤ 9
  asc : es.Pairwise fun p q => p.1 < q.1 ∨ p.1 = q.1 ∧ p.2.1 < q.2.1
def sp_init (K : PySem.W.Frag) (C : Addr) : Sp := fun vs H Q _ => ∃ (a f e dx : Addr) (fs : List Int) (es : List (Nat × Nat × Int)), vs = [.ref a, .ref f, .ref e] ∧ H a = some (.ins C dx []) ∧ e ≠ a ∧ SqL K H f (fs.map .int) ∧ Ls K H e (es.map eEd) ∧ Mkb fs es ∧
  ∀ H', But a H H' → SpR K C H' a fs es → Q .non H'
theorem ok_init (T : Txt K mg) : FnOk P w K mg base CX0 1 T.f_init T.d_init ["self", "fields", "edges"] (sp_init K T.C) := by
  refine T.F_init.ok sc_init (fun vs H Q E h => ?_) (fun cdv A outer s H vs Q E hr h => ?_)
  · obtain ⟨a, f, e, dx, fs, es, rfl, _⟩ := h
    rfl
  · obtain ⟨a, f, e, dx, fs, es, rfl, ha, hea, hf, he, M, k⟩ := h
    refine ⟨_, (pss_cons
        (ps_if (PW.pt (pw_or (pt_cmpR op_lt (pe_callB call_len_seq (by rfl) T.m_len PySem.boot_len (pa_cons (pv 1) pa_nil)) pe_int (nomark _)) (pw_or (pt_cmpR op_gt (pe_callB call_len_seq (by rfl) T.m_len PySem.boot_len (pa_cons (pv 1) pa_nil)) (pe_glob (v := .int 12) (by rfl) T.i_MOST_VERTICES_spins.g ⟨_, rfl⟩) (nomark _)) (pw_or1 (pt_cmpR op_gt (pe_callB call_len_seq (by rfl) T.m_len PySem.boot_len (pa_cons (pv 2) pa_nil)) (pe_glob (v := .int 24) (by rfl) T.i_MOST_EDGES_spins.g ⟨_, rfl⟩) (nomark _)))))) (pss_one
        ps_never) pss_nil)
        (pss_cons
        (ps_if (pt_not (pt_val (pe_callB (cr_all rfl) (by rfl) T.m_all (by decide +kernel) (pa_cons (pe_lc (own := [("field", 7)]) rfl sc_init.nd (pi_list (pv 1)) (blkOk_by (N := ["self", "fields", "edges", "before", "u", "v", "coupling", "field"]) (sc := defScope s_init) (own := [("field", 7)]) (by decide +kernel)) (fun _ _ _ _ _ => (pg_name (i := 7) sc_init.nd rfl (by first | exact .inl rfl | exact .inr rfl))) (fun _ _ _ _ _ => pts_nil) (fun _ _ _ _ _ => (pe_chain op_le op_le (pe_un un_neg (pe_glob (v := .int 9) (by rfl) T.i_GREATEST.g ⟨_, rfl⟩)) (pv 7) (pe_glob (v := .int 9) (by rfl) T.i_GREATEST.g ⟨_, rfl⟩)))) pa_nil)))) (pss_one
        ps_never) pss_nil)
        (pss_cons
        (ps_set (i := 3) sc_init.nd rfl (.inl rfl) (pe_tup (pa_cons (pe_un un_neg pe_int) (pa_cons (pe_un un_neg pe_int) pa_nil))))
        (pss_cons
        (ps_for PassesOwn.never rfl (pi_list (pv 2)) (pg_tup rfl (pgs_cons (pg_name (i := 4) sc_init.nd rfl (.inl rfl)) (pgs_cons (pg_name (i := 5) sc_init.nd rfl (.inl rfl)) (pgs_cons (pg_name (i := 6) sc_init.nd rfl (.inl rfl)) pgs_nil)))) (pss_cons
        (ps_if (PW.pt (pw_or (pt_cmpR op_lt (pv 4) pe_int (nomark _)) (pw_or (pt_cmpR op_ge (pv 4) (pv 5) (nomark _)) (pw_or (pt_cmpR op_ge (pv 5) (pe_callB call_len_seq (by rfl) T.m_len PySem.boot_len (pa_cons (pv 1) pa_nil)) (nomark _)) (pw_or1 (pt_cmpR (op_leT hr.units0) (pe_tup (pa_cons (pv 4) (pa_cons (pv 5) pa_nil))) (pv 3) (nomark _))))))) (pss_one
        ps_never) pss_nil)
        (pss_cons
        (ps_if (PW.pt (pw_or (pt_cmpR op_eq (pv 6) pe_int (nomark _)) (pw_or1 (pt_cmpR op_gt (pe_callB call_abs (by rfl) T.m_abs (by decide +kernel) (pa_cons (pv 6) pa_nil)) (pe_glob (v := .int 9) (by rfl) T.i_GREATEST.g ⟨_, rfl⟩) (nomark _))))) (pss_one
        ps_never) pss_nil)
        (pss_one
        (ps_set (i := 3) sc_init.nd rfl (.inl rfl) (pe_tup (pa_cons (pv 4) (pa_cons (pv 5) pa_nil))))))))
        (pss_cons
        (ps_fld (pv 0) (pe_callTy call_tuple_of (by rfl) T.m_tuple (by decide +kernel) (pa_cons (pv 1) pa_nil)) rfl)
        (pss_one
        (ps_fld (pv 0) (pe_callTy call_tuple_of (by rfl) T.m_tuple (by decide +kernel) (pa_cons (pe_lc (own := [("u", 4), ("v", 5), ("coupling", 6)]) rfl sc_init.nd (pi_list (pv 2)) (blkOk_by (N := ["self", "fields", "edges", "before", "u", "v", "coupling", "field"]) (sc := defScope s_init) (own := [("u", 4), ("v", 5), ("coupling", 6)]) (by decide +kernel)) (fun _ _ _ _ _ => (pg_tupK (K := K) (n := 3) rfl rfl (pgs_cons (pg_name (i := 4) sc_init.nd rfl (by first | exact .inl rfl | exact .inr rfl)) (pgs_cons (pg_name (i := 5) sc_init.nd rfl (by first | exact .inl rfl | exact .inr rfl)) (pgs_cons (pg_name (i := 6) sc_init.nd rfl (by first | exact .inl rfl | exact .inr rfl)) pgs_nil))))) (fun _ _ _ _ _ => pts_nil) (fun _ _ _ _ _ => (pe_tup (pa_cons (pv 4) (pa_cons (pv 5) (pa_cons (pv 6) pa_nil)))))) pa_nil)) rfl))))))), ?_⟩
    obtain ⟨xs, hx, dxs⟩ := he
    have hlen : xs.length = es.length := dxs.len
    have m1 := M.n1
    have m12 := M.n12
    have m24 := M.e24
    refine ⟨_, rfl, f, _, rfl, .inl hf, _, _, rfl, rfl, _, rfl, ?_⟩
    rw [decide_eq_false (by rw [List.length_map]; omega)]
    refine ⟨_, rfl, f, _, rfl, .inl hf, _, _, rfl, rfl, _, rfl, ?_⟩
    rw [decide_eq_false (by rw [List.length_map]; omega)]
    refine ⟨_, rfl, e, _, rfl, .inl hx, _, _, rfl, rfl, _, rfl, ?_⟩
    rw [decide_eq_false (by omega)]
    refine ⟨_, rfl, f, rfl, ⟨_, hf⟩, fun D hD => ?_⟩
    refine lc_data (K := K) (l := fs) (by rw [← List.length_map (f := V.int)]; exact walk_list (K := K) (xs := fs.map V.int)) .bool (fun f => some true) (fun G sG => sG.seq hf) hD (line' _ (by omega)) (fun i p x G G' ei sG y Ky Kn ky kn => ?_) (fun G ys sG hys hyl hd => ?_)
    · obtain ⟨rfl, ex⟩ := y
      have ex : x = .int p := by
        rw [List.getElem?_map, ei] at ex
        exact (Option.some.inj ex).symm
      subst ex
      have hb := M.fb p (List.mem_of_getElem? ei)
      refine ⟨rfl, _, rfl, _, rfl, _, _, rfl, rfl, _, rfl, ?_⟩
      rw [decide_eq_true (show -(9 : Int) ≤ p from hb.1)]
      refine ⟨_, _, rfl, rfl, ?_⟩
      show Ky (.bl (decide (p ≤ 9))) G'
      rw [decide_eq_true hb.2]
      exact ky _ _ true rfl (Same.refl _) (.bl true)
    · have ey := bls_of hd
      have e2 : ((fs.filterMap fun f => some true).all id) = true := by
        rw [List.all_eq_true]
        intro b hb
        obtain ⟨f, hf, e⟩ := List.mem_filterMap.mp hb
        cases e
        rfl
      refine ⟨D, _, rfl, .inl (.inl (by rw [hys, ey])), ?_⟩
      rw [e2]
      refine ⟨_, rfl, ?_⟩
      refine ⟨_, rfl, _, rfl, (by show 2 ≤ sizeLine; decide), fun b0 hb0 => ?_⟩
      have s0 : Same H (upd G b0 (.tup [.int (-1), .int (-1)])) := sG.trans (same_new hb0)
      refine ⟨_, rfl, e, rfl, ⟨xs, s0.seq hx⟩, ?_⟩
      refine for_data (l := es) (by rw [← hlen]; exact walk_list (K := K) (xs := xs)) (fun pre σ H' => ∃ b bu bv y4 y5 y6 y7, σ = [some (.ref a), some (.ref f), some (.ref e), some (.ref b), y4, y5, y6, y7] ∧ Same H H' ∧ SqT K H' b [.int bu, .int bv] ∧ ∀ t ∈ es.drop pre.length, bu < t.1 ∨ bu = t.1 ∧ bv < (t.2.1 : Int))
        ⟨b0, -1, -1, none, none, none, none, rfl, s0, .inl (.inl upd_same), fun t _ => .inl (by omega)⟩ (fun pre σ H' p => ?_) (fun pre t post x σ H' H2 el ei p y => ?_) (fun σ H' p => ?_)
      · obtain ⟨b, bu, bv, y4, y5, y6, y7, rfl, s1, _⟩ := p
        exact s1.seq hx
      · obtain ⟨b, bu, bv, y4, y5, y6, y7, rfl, s1, hb, hbt⟩ := p
        obtain ⟨rfl, ex⟩ := y
        obtain ⟨tt, zs, rfl, q2, q3⟩ := ((dxs.at_ (e := eEd) ex ei).up s1).tup_of
        have ez := DeA.ints_of (ns := [(t.1 : Int), t.2.1, t.2.2]) q3
        subst ez
        have hm := M.ed t (List.mem_of_getElem? ei)
        have hlt : (bu < t.1 ∨ bu = t.1 ∧ bv < (t.2.1 : Int)) := hbt t (by rw [el, List.drop_left]; exact List.mem_cons_self)
        refine ⟨tt, _, rfl, q2, rfl, _, _, rfl, _, _, rfl, _, _, rfl, rfl, ?_⟩
        refine ⟨_, rfl, _, _, rfl, rfl, _, rfl, ?_⟩
        rw [decide_eq_false (by omega)]
        refine ⟨_, rfl, _, rfl, _, _, rfl, rfl, _, rfl, ?_⟩
        rw [decide_eq_false (by omega)]
        refine ⟨_, rfl, _, rfl, f, _, rfl, .inl (s1.seq hf), _, _, rfl, rfl, _, rfl, ?_⟩
        rw [decide_eq_false (by rw [List.length_map]; omega)]
        refine ⟨_, rfl, _, rfl, (by show 2 ≤ sizeLine; decide), fun n1 hn1 => ?_⟩
        refine ⟨_, rfl, n1, b, [(t.1 : Int), t.2.1], [bu, bv], rfl, rfl, .inl (.inl upd_same), sqT_xt (xt_same (same_new hn1)) hb, _, rfl, ?_⟩
        have elex : Ob.lexAt (fun j => decide (([(t.1 : Int), t.2.1] : List Int).getD j 0 = [bu, bv].getD j 0)) (fun j => decide (([(t.1 : Int), t.2.1] : List Int).getD j 0 ≤ [bu, bv].getD j 0)) (decide (([(t.1 : Int), t.2.1] : List Int).length ≤ [bu, bv].length)) 0 (min ([(t.1 : Int), t.2.1] : List Int).length [bu, bv].length) = false := by
          show (if decide ((t.1 : Int) = bu) = true then (if decide ((t.2.1 : Int) = bv) = true then true else decide ((t.2.1 : Int) ≤ bv)) else decide ((t.1 : Int) ≤ bu)) = false
          by_cases h1 : (t.1 : Int) = bu
          · rw [decide_eq_true h1, decide_eq_false (show ¬ (t.2.1 : Int) = bv by omega), decide_eq_false (show ¬ (t.2.1 : Int) ≤ bv by omega)]
            rfl
          · rw [decide_eq_false h1, decide_eq_false (show ¬ (t.1 : Int) ≤ bu by omega)]
            rfl
        rw [elex]
        have s2 := s1.trans (same_new (o := .tup [.int t.1, .int t.2.1]) hn1)
        refine ⟨_, rfl, rfl, _, rfl, ?_⟩
        rw [dec_int, decide_eq_false (show ¬ t.2.2 = 0 from hm.2.2.1)]
        refine ⟨_, rfl, t.2.2, rfl, _, _, rfl, rfl, _, rfl, ?_⟩
        rw [decide_eq_false (by split <;> omega)]
        refine ⟨_, rfl, _, rfl, (by show 2 ≤ sizeLine; decide), fun n2 hn2 => ?_⟩
        refine ⟨n2, t.1, t.2.1, _, _, _, _, rfl, s2.trans (same_new hn2), .inl (.inl upd_same), fun r hr => ?_⟩
        have hr2 : r ∈ post := by
          rw [el, List.length_append, List.length_singleton, show pre ++ t :: post = (pre ++ [t]) ++ post by simp, ← List.length_singleton (a := t), ← List.length_append, List.drop_left] at hr
          exact hr
        have := M.asc
        rw [el] at this
        have h3 := (List.pairwise_cons.mp (List.pairwise_append.mp this).2.1).1 r hr2
        omega
      · obtain ⟨b, bu, bv, y4, y5, y6, y7, rfl, s1, hb, hbt⟩ := p
        -- the fields
        refine ⟨_, rfl, f, fs.map .int, rfl, .inl ⟨s1.seq hf, fun q hq => ?_⟩⟩
        have sq : Same H' (upd H' q (.tup (fs.map .int))) := same_new hq
        have haq := sq _ _ (s1 _ _ ha)
        refine ⟨_, rfl, a, T.C, dx, [], rfl, haq, T.cl, T.nF, (by decide), ?_⟩
        generalize hH1 : upd (upd H' q (.tup (fs.map .int))) a (.ins T.C dx (putF "fields" (.ref q) [])) = H1
        have b1 : But a (upd H' q (.tup (fs.map .int))) H1 := by rw [← hH1]; exact but_upd
        have ha1 : H1 a = some (.ins T.C dx (putF "fields" (.ref q) [])) := by rw [← hH1]; exact upd_same
        have hqa : q ≠ a := fun z => by rw [z, s1 _ _ ha] at hq; cases hq
        have hq1 : H1 q = some (.tup (fs.map .int)) := b1 _ _ hqa upd_same
        have bA : But a H H1 := (but_same (s1.trans sq)).trans b1
        have hx1 : SqL K H1 e xs := sqL_but bA hea hx
        refine ⟨_, rfl, e, rfl, ⟨_, hx1⟩, fun D2 hD2 => ?_⟩
        have dx1 : DeA K H1 xs (es.map eEd) := DeA.tr (fun b zs h => sqT_ins ha bA h) dxs
        refine lc_data (K := K) (l := es) (by rw [← hlen]; exact walk_list (K := K) (xs := xs)) eEd (fun t => some t) (fun G sG => sG.seq hx1) hD2 (line' _ (by omega)) (fun i p x G G' ei sG y Ky Kn ky kn => ?_) (fun G ys2 sG2 hys2 hyl2 hd2 => ?_)
        · obtain ⟨rfl, ex⟩ := y
          obtain ⟨tt, zs, rfl, q2, q3⟩ := ((dx1.at_ (e := eEd) ex ei).up sG).tup_of
          have ez := DeA.ints_of (ns := [(p.1 : Int), p.2.1, p.2.2]) q3
          subst ez
          refine ⟨tt, _, rfl, q2, rfl, _, _, rfl, _, _, rfl, _, _, rfl, rfl, rfl, _, rfl, _, rfl, _, rfl, (by show 3 ≤ sizeLine; decide), fun r hr2 => ?_⟩
          exact ky _ _ p rfl (same_new hr2) (de_new hr2 (.three (.int _) (.int _) (.int _)))
        · refine ⟨D2, ys2, rfl, .inl ⟨.inl (.inl hys2), fun r hr2 => ?_⟩⟩
          have ee : (es.filterMap fun t => some t) = es := by rw [List.filterMap_some]
          rw [ee] at hd2
          have sr := same_new (o := .tup ys2) hr2
          refine ⟨_, rfl, a, T.C, dx, _, rfl, sr _ _ (sG2 _ _ ha1), T.cl, T.nE, (by show 1 < 1000; decide), ?_⟩
          have hra : r ≠ a := fun z => by rw [z, sG2 _ _ ha1] at hr2; cases hr2
          have bE : But a H1 (upd (upd G r (.tup ys2)) a (.ins T.C dx (putF "edges" (.ref r) (putF "fields" (.ref q) [])))) := (but_same (sG2.trans sr)).trans but_upd
          refine k _ (bA.trans bE) ⟨dx, q, r, upd_same, .inl (.inl (bE _ _ hqa hq1)), ?_⟩
          have hrt : (upd (upd G r (.tup ys2)) a (.ins T.C dx (putF "edges" (.ref r) (putF "fields" (.ref q) [])))) r = some (.tup ys2) := by
            rw [upd_ne hra]
            exact upd_same
          exact .tup (.inl (.inl hrt)) (DeA.tr (fun b zs h => sqT_ins (sG2 _ _ ha1) ((but_same sr).trans but_upd) h) hd2)
end
end K49
namespace K49
open PySem PySem.Spec PyProof.Rows L2
theorem gcd_step (a b : Int) (h : 0 < b) : Nat.gcd b.natAbs (a % b).natAbs = Nat.gcd a.natAbs b.natAbs := by
  have h1 : Int.gcd a b = Nat.gcd a.natAbs b.natAbs := rfl
  have h2 : Int.gcd b (a % b) = Nat.gcd b.natAbs (a % b).natAbs := rfl
  rw [← h1, ← h2, Int.gcd_comm a b]
  rw [Int.emod_def, Int.gcd_sub_mul_left_right]
section
variable {P : Program} {w : World} {K : PySem.W.Frag} {mg : Str → Option Value} {base : Heap}
def sp_l_gcd : Sp := fun vs H Q _ => ∃ a b : Int, vs = [.int a, .int b] ∧ 0 ≤ b ∧ Q (.int (Nat.gcd a.natAbs b.natAbs : Nat)) H
theorem ok_l_gcd (T : Txt K mg) : FnOk P w K mg base CX0 1 T.d_l_gcd.f T.d_l_gcd.d ["_law_a", "_law_b"] sp_l_gcd := by
  refine T.d_l_gcd.F.ok sc_l_gcd (fun vs H Q E h => ?_) (fun cdv A outer s H vs Q E hr h => ?_)
  · obtain ⟨a, b, rfl, _⟩ := h
    rfl
  · obtain ⟨a, b, rfl, hb, k⟩ := h
    refine ⟨_, (pss_cons
        (ps_while PassesOwn.never (pt_truth (pv 1) (by intro _; rfl)) (pss_one
        (ps_par (i := 0) (j := 1) rfl sc_l_gcd.nd rfl rfl (by decide) rfl rfl (pa_cons (pv 1) (pa_cons (pe_op op_mod (pv 0) (pv 1)) pa_nil)) (by rfl))))
        (pss_one
        (ps_ret (pe_callB call_abs (by rfl) T.m_abs (by decide +kernel) (pa_cons (pv 0) pa_nil))))), ?_⟩
    refine ⟨fun m σ H' => ∃ a1 b1 : Int, σ = [some (.int a1), some (.int b1)] ∧ H' = H ∧ 0 ≤ b1 ∧ m = b1.toNat ∧ Nat.gcd a1.natAbs b1.natAbs = Nat.gcd a.natAbs b.natAbs, ⟨_, a, b, rfl, rfl, hb, rfl, rfl⟩, fun m σ H' hW => ?_⟩
    obtain ⟨a1, b1, rfl, rfl, h0, rfl, hg⟩ := hW
    refine ⟨_, rfl, (b1 != 0), rfl, ?_⟩
    by_cases hz : b1 = 0
    · subst hz
      refine ⟨_, rfl, a1, rfl, ?_⟩
      have e : (if a1 < 0 then -a1 else a1) = ((Nat.gcd a.natAbs b.natAbs : Nat) : Int) := by
        rw [← hg]
        have : Nat.gcd a1.natAbs (0 : Int).natAbs = a1.natAbs := Nat.gcd_zero_right _
        rw [this]
        split <;> omega
      show Q (.int (if a1 < 0 then -a1 else a1)) H'
      rw [e]
      exact k
    · have e : (b1 != 0) = true := by simp [hz]
      rw [e]
      have hp : 0 < b1 := by omega
      have hm := Int.emod_lt_of_pos a1 hp
      have hn := Int.emod_nonneg a1 hz
      refine ⟨fun σ' H'' => ∃ m', m' < b1.toNat ∧ ∃ a2 b2 : Int, σ' = [some (.int a2), some (.int b2)] ∧ H'' = H' ∧ 0 ≤ b2 ∧ m' = b2.toNat ∧ Nat.gcd a2.natAbs b2.natAbs = Nat.gcd a.natAbs b.natAbs, fun σ' H'' p => p, ?_⟩
      refine ⟨_, rfl, _, rfl, _, rfl, _, _, rfl, rfl, hp, _, _, rfl, (a1 % b1).toNat, by omega, b1, a1 % b1, rfl, rfl, hn, rfl, ?_⟩
      rw [gcd_step a1 b1 hp]
      exact hg
abbrev sp_l_frac (K : PySem.W.Frag) : Sp := sp_fraction K
theorem ok_l_frac (T : Txt K mg) : FnOk P w K mg base CX0 2 T.d_l_frac.f T.d_l_frac.d ["_law_a", "_law_b"] (sp_l_frac K) := by
  refine T.d_l_frac.F.ok sc_l_frac (fun vs H Q E h => ?_) (fun cdv A outer s H vs Q E hr h => ?_)
  · obtain ⟨n, d, rfl, _⟩ := h
    rfl
  · obtain ⟨n, d, rfl, hd, hs, q⟩ := h
    refine ⟨_, (pss_cons
        (ps_set (i := 2) sc_l_frac.nd rfl (.inl rfl) (pe_call (ok_l_gcd T) hr (by rfl) T.d_l_gcd.g T.d_l_gcd.F.kp T.d_l_gcd.b .nil pass0 (pa_cons (pv 0) (pa_cons (pv 1) pa_nil))))
        (pss_cons
        (ps_if (pt_cmpR op_lt (pv 1) pe_int (nomark _)) (pss_one
        (ps_set (i := 2) sc_l_frac.nd rfl (.inl rfl) (pe_un un_neg (pv 2)))) pss_nil)
        (pss_one
        (ps_ret (pe_tup (pa_cons (pe_op op_fdivW (pv 0) (pv 2)) (pa_cons (pe_op op_fdivW (pv 1) (pv 2)) pa_nil))))))), ?_⟩
    have hg : 0 < Nat.gcd n.natAbs d.natAbs := Nat.gcd_pos_of_pos_right _ (by omega)
    have hgl : Nat.gcd n.natAbs d.natAbs ≤ d.natAbs := Nat.gcd_le_right _ (by omega)
    have hdv : CDivW n ((Nat.gcd n.natAbs d.natAbs : Nat) : Int) := wide_div (b := 9000) (by omega) (Nat.lt_of_le_of_lt hgl hs) (by decide) (by decide)
    refine ⟨_, rfl, _, rfl, n, d, rfl, by omega, ?_⟩
    refine ⟨_, rfl, _, _, rfl, rfl, _, rfl, ?_⟩
    rw [decide_eq_false (by omega)]
    refine iteF ?_
    refine ⟨_, rfl, _, rfl, _, _, rfl, rfl, hdv, _, rfl, _, rfl, _, _, rfl, rfl, hdv, (by show 2 ≤ sizeLine; decide), fun p hp => ?_⟩
    refine q _ _ (same_new hp) ?_
    refine de_new hp (.two ?_ ?_)
    · rw [rat_num n d hd]
      exact .int _
    · rw [rat_den n d hd]
      exact .int _
abbrev sp_l_add (K : PySem.W.Frag) : Sp := sp_add K
abbrev sp_l_mul (K : PySem.W.Frag) : Sp := sp_multiply K
theorem ok_l_add (T : Txt K mg) : FnOk P w K mg base CX0 3 T.d_l_add.f T.d_l_add.d ["_law_p", "_law_q"] (sp_l_add K) := by
  refine T.d_l_add.F.ok sc_l_add (fun vs H Q E h => ?_) (fun cdv A outer s H vs Q E hr h => ?_)
  · obtain ⟨u, v, p, q, rfl, _⟩ := h
    rfl
  · obtain ⟨u, v, p, q, rfl, hu, hv, sp, sq, _, k⟩ := h
    obtain ⟨a, rfl, ha⟩ := eF_of hu
    obtain ⟨b, rfl, hb⟩ := eF_of hv
    refine ⟨_, (pss_one
        (ps_ret (pe_call (ok_l_frac T) hr (by rfl) T.d_l_frac.g T.d_l_frac.F.kp T.d_l_frac.b .nil pass0 (pa_cons (pe_op op_add (pe_op op_mulW (pe_ix ix_tup (pv 0) pe_int (fun _ _ => rfl)) (pe_ix ix_tup (pv 1) pe_int (fun _ _ => rfl))) (pe_op op_mulW (pe_ix ix_tup (pv 1) pe_int (fun _ _ => rfl)) (pe_ix ix_tup (pv 0) pe_int (fun _ _ => rfl)))) (pa_cons (pe_op op_mulW (pe_ix ix_tup (pv 0) pe_int (fun _ _ => rfl)) (pe_ix ix_tup (pv 1) pe_int (fun _ _ => rfl))) pa_nil))))), ?_⟩
    refine ⟨_, rfl, a, _, 0, _, rfl, rfl, ha, rfl, _, rfl, b, _, 1, _, rfl, rfl, hb, rfl, _, _, rfl, rfl, mulW sp.n sq.d, ?_⟩
    refine ⟨_, rfl, b, _, 0, _, rfl, rfl, hb, rfl, _, rfl, a, _, 1, _, rfl, rfl, ha, rfl, _, _, rfl, rfl, mulW sq.n sp.d, _, _, rfl, rfl, ?_⟩
    refine ⟨_, rfl, a, _, 1, _, rfl, rfl, ha, rfl, _, rfl, b, _, 1, _, rfl, rfl, hb, rfl, _, _, rfl, rfl, mulW sp.d sq.d, _, _, rfl, pos_mul (den_pos' p) (den_pos' q), mul_small sp.d sq.d, fun z H' e hz => k z H' e ?_⟩
    rw [rat_add] at hz
    exact hz
theorem ok_l_mul (T : Txt K mg) : FnOk P w K mg base CX0 3 T.d_l_mul.f T.d_l_mul.d ["_law_p", "_law_q"] (sp_l_mul K) := by
  refine T.d_l_mul.F.ok sc_l_mul (fun vs H Q E h => ?_) (fun cdv A outer s H vs Q E hr h => ?_)
  · obtain ⟨u, v, p, q, rfl, _⟩ := h
    rfl
  · obtain ⟨u, v, p, q, rfl, hu, hv, sp, sq, _, k⟩ := h
    obtain ⟨a, rfl, ha⟩ := eF_of hu
    obtain ⟨b, rfl, hb⟩ := eF_of hv
    refine ⟨_, (pss_one
        (ps_ret (pe_call (ok_l_frac T) hr (by rfl) T.d_l_frac.g T.d_l_frac.F.kp T.d_l_frac.b .nil pass0 (pa_cons (pe_op op_mulW (pe_ix ix_tup (pv 0) pe_int (fun _ _ => rfl)) (pe_ix ix_tup (pv 1) pe_int (fun _ _ => rfl))) (pa_cons (pe_op op_mulW (pe_ix ix_tup (pv 0) pe_int (fun _ _ => rfl)) (pe_ix ix_tup (pv 1) pe_int (fun _ _ => rfl))) pa_nil))))), ?_⟩
    refine ⟨_, rfl, a, _, 0, _, rfl, rfl, ha, rfl, _, rfl, b, _, 0, _, rfl, rfl, hb, rfl, _, _, rfl, rfl, mulW sp.n sq.n, ?_⟩
    refine ⟨_, rfl, a, _, 1, _, rfl, rfl, ha, rfl, _, rfl, b, _, 1, _, rfl, rfl, hb, rfl, _, _, rfl, rfl, mulW sp.d sq.d, _, _, rfl, pos_mul (den_pos' p) (den_pos' q), mul_small sp.d sq.d, fun z H' e hz => k z H' e ?_⟩
    rw [rat_mul] at hz
    exact hz
def sp_l_pow (K : PySem.W.Frag) : Sp := fun vs H Q _ => ∃ (u : V) (p : Rat) (e : Int), vs = [u, .int e] ∧ De K H u (eF p) ∧ 0 < p ∧ e.natAbs ≤ 1000 ∧ (∀ k : Nat, k ≤ e.natAbs → Sz (p ^ k)) ∧ Sz p ∧ ∀ z H', Same H H' → De K H' z (eF (p ^ e)) → Q z H'
theorem inv_self {q : Rat} (h : 0 < q) : ((q.den : Int) : Rat) / (q.num : Rat) = 1 / q := by
  have h1 := rat_self q
  have h2 := den_ne' q
  have h3 : (q.num : Rat) ≠ 0 := by
    intro z
    have : q.num = 0 := by exact_mod_cast z
    have := num_pos' h
    omega
  generalize (q.num : Rat) = a at *
  generalize ((q.den : Int) : Rat) = c at *
  subst h1
  grind
theorem zpow_abs (p : Rat) (e : Int) : p ^ e = if 0 ≤ e then p ^ e.natAbs else 1 / p ^ e.natAbs := by
  by_cases he : 0 ≤ e
  · rw [if_pos he]
    obtain ⟨k, rfl⟩ : ∃ k : Nat, e = k := ⟨e.toNat, by omega⟩
    rw [Int.natAbs_natCast, Rat.zpow_natCast]
  · rw [if_neg he]
    obtain ⟨k, rfl⟩ : ∃ k : Nat, e = -(k : Int) := ⟨(-e).toNat, by omega⟩
    rw [Int.natAbs_neg, Int.natAbs_natCast, Rat.zpow_neg, Rat.zpow_natCast, Rat.div_def, Rat.one_mul]
theorem pow_pos' {p : Rat} (h : 0 < p) (k : Nat) : 0 < p ^ k := by
  induction k with
  | zero => rw [Rat.pow_zero]; decide
  | succ k ih => rw [Rat.pow_succ]; exact Rat.mul_pos ih h
theorem ok_l_pow (T : Txt K mg) : FnOk P w K mg base CX0 4 T.d_l_pow.f T.d_l_pow.d ["_law_p", "_law_n"] (sp_l_pow K) := by
  refine T.d_l_pow.F.ok sc_l_pow (fun vs H Q E h => ?_) (fun cdv A outer s H vs Q E hr h => ?_)
  · obtain ⟨u, p, e, rfl, _⟩ := h
    rfl
  · obtain ⟨u, p, e, rfl, hu, hp, he, hsz, sp, k⟩ := h
    refine ⟨_, (pss_cons
        (ps_set (i := 2) sc_l_pow.nd rfl (.inl rfl) (pe_tup (pa_cons pe_int (pa_cons pe_int pa_nil))))
        (pss_cons
        (ps_for PassesOwn.never rfl (pi_range1 (by rfl) T.m_range (pa_cons (pe_callB call_abs (by rfl) T.m_abs (by decide +kernel) (pa_cons (pv 1) pa_nil)) pa_nil)) (pg_name (i := 3) sc_l_pow.nd rfl (.inl rfl)) (pss_one
        (ps_set (i := 2) sc_l_pow.nd rfl (.inl rfl) (pe_call (ok_l_mul T) hr (by rfl) T.d_l_mul.g T.d_l_mul.F.kp T.d_l_mul.b .nil pass0 (pa_cons (pv 2) (pa_cons (pv 0) pa_nil))))))
        (pss_one
        (ps_ret (pe_ifExp (pt_cmpR op_ge (pv 1) pe_int (nomark _)) (pv 2) (pe_call (ok_l_frac T) (hr.mono (by decide)) (by rfl) T.d_l_frac.g T.d_l_frac.F.kp T.d_l_frac.b .nil pass0 (pa_cons (pe_ix ix_tup (pv 2) pe_int (fun _ _ => rfl)) (pa_cons (pe_ix ix_tup (pv 2) pe_int (fun _ _ => rfl)) pa_nil)))))))), ?_⟩
    refine ⟨by show 2 ≤ sizeLine; decide, fun t ht => ?_⟩
    have st : Same H (upd H t (.tup [.int 1, .int 1])) := same_new ht
    refine ⟨_, rfl, e, rfl, _, rfl, (by split <;> omega), (by split <;> omega), for_range (lo := 0) (n := (if e < 0 then -e else e).toNat) (fun i σ H' => ∃ z y, σ = [some u, some (.int e), some z, y] ∧ Same H H' ∧ De K H' z (eF (p ^ i))) ⟨.ref t, none, rfl, st, by rw [Rat.pow_zero]; exact de_new ht (.two (.int 1) (.int 1))⟩ (fun i σ H' hi hq => ?_) (fun σ H' hq => ?_)⟩
    · obtain ⟨z, y, rfl, s1, dz⟩ := hq
      have hi2 : i ≤ e.natAbs := by split at hi <;> omega
      refine ⟨_, rfl, _, rfl, z, u, _, p, rfl, dz, hu.up s1, hsz i hi2, sp, trivial, fun z2 H2 e2 dz2 => ⟨z2, _, rfl, s1.trans e2, ?_⟩⟩
      rw [Rat.pow_succ]
      exact dz2
    · obtain ⟨z, y, rfl, s1, dz⟩ := hq
      have en : (if e < 0 then -e else e).toNat = e.natAbs := by split <;> omega
      rw [en] at dz
      obtain ⟨a, rfl, ha⟩ := eF_of dz
      have hq0 := pow_pos' hp e.natAbs
      have hsq := hsz e.natAbs (Nat.le_refl _)
      have ez := zpow_abs p e
      refine ⟨_, rfl, _, _, rfl, rfl, _, rfl, ite2 (fun e2 => ?_) (fun e2 => ?_)⟩
      · have e3 : 0 ≤ e := of_decide_eq_true e2
        rw [if_pos e3] at ez
        refine ⟨_, rfl, k _ H' s1 ?_⟩
        rw [ez]
        exact dz
      · have e3 : ¬ 0 ≤ e := fun z => e2 (decide_eq_true z)
        rw [if_neg e3, ← inv_self hq0] at ez
        refine ⟨_, rfl, a, _, 1, _, rfl, rfl, ha, rfl, _, rfl, a, _, 0, _, rfl, rfl, ha, rfl, _, _, rfl, num_pos' hq0, Nat.lt_of_lt_of_le hsq.n (Nat.pow_le_pow_right (by decide) (by decide)), fun z2 H2 e2 dz2 => k z2 H2 (s1.trans e2) ?_⟩
        rw [ez]
        exact dz2
/-- a state and one bit -/
theorem cat_bit {G : Hp} {b r : Addr} {s : List Int} {bit : Int} {Q : VK} (hb : SqT K G b (s.map .int)) (hr : G r = some (.tup [.int bit])) (hl : s.length ≤ 100) (k : ∀ v G', Same G G' → De K G' v (eS (s ++ [bit])) → Q v G') : rCatA K (.ref b) (.ref r) G Q := by
  refine ⟨b, r, _, _, rfl, rfl, hb, .inl (.inl hr), line _ (by rw [List.length_map]; show s.length + 1 ≤ 100000; omega), fun e0 => ?_, fun _ z => absurd z (by simp), fun _ _ p hp => ?_⟩
  · have e1 : s = [] := by simpa using e0
    subst e1
    exact k (.ref r) G (Same.refl _) (.tup (.inl (.inl hr)) (.one (.int _)))
  · refine k (.ref p) _ (same_new hp) (de_new hp ?_)
    rw [List.map_append]
    exact (DeA.ints _).app (.one (.int _))
def sp_l_states (K : PySem.W.Frag) : Sp := sp_states_of K
theorem ok_l_states (T : Txt K mg) : FnOk P w K mg base CX0 1 T.d_l_states.f T.d_l_states.d ["_law_count"] (sp_l_states K) := by
  refine T.d_l_states.F.ok sc_l_states (fun vs H Q E h => ?_) (fun cdv A outer s H vs Q E hr h => ?_)
  · obtain ⟨n, rfl, _⟩ := h
    rfl
  · obtain ⟨n, rfl, hn, k⟩ := h
    refine ⟨_, (pss_cons
        (ps_set (i := 1) sc_l_states.nd rfl (.inl rfl) (pe_lst (pa_cons (pe_tup pa_nil) pa_nil)))
        (pss_cons
        (ps_for PassesOwn.never rfl (pi_range1 (by rfl) T.m_range (pa_cons (pv 0) pa_nil)) (pg_name (i := 2) sc_l_states.nd rfl (.inl rfl)) (pss_cons
        (ps_set (i := 3) sc_l_states.nd rfl (.inl rfl) (pe_lst pa_nil))
        (pss_cons
        (ps_for PassesOwn.never rfl (pi_list (pv 1)) (pg_name (i := 4) sc_l_states.nd rfl (.inl rfl)) (pss_one
        (ps_aug (i := 3) sc_l_states.nd rfl (.inl rfl) (pe_lst (pa_cons (pe_op op_catA (pv 4) (pe_tup (pa_cons pe_int pa_nil))) (pa_cons (pe_op op_catA (pv 4) (pe_tup (pa_cons pe_int pa_nil))) pa_nil))) iop_ext)))
        (pss_one
        (ps_set (i := 1) sc_l_states.nd rfl (.inl rfl) (pv 3))))))
        (pss_one
        (ps_ret (pv 1))))), ?_⟩
    refine ⟨by show 0 ≤ sizeLine; exact Nat.zero_le _, fun t ht => ⟨by show 1 ≤ sizeLine; decide, fun f hf => ?_⟩⟩
    have d0 : De K (upd H t (.tup [])) (.ref t) (eS []) := de_new ht .nil
    refine ⟨_, rfl, n, rfl, by omega, by omega, for_range (lo := 0) (n := (n : Int).toNat) (fun i σ H' => ∃ a y2 y3 y4, σ = [some (.int n), some (.ref a), y2, y3, y4] ∧ Same H H' ∧ H a = none ∧ Ls K H' a ((sts i).map eS))
      ⟨f, none, none, none, rfl, (same_new ht).trans (same_new hf), (same_new ht).free hf, ls_new hf (.one d0)⟩ (fun i σ H' hi hp => ?_) (fun σ H' hp => ?_)⟩
    · obtain ⟨a, y2, y3, y4, rfl, s1, na, hl⟩ := hp
      obtain ⟨xs, hx, hd⟩ := hl
      have hlen : xs.length = (sts i).length := hd.len
      have hz : (sts i).length ≤ 64 := by rw [sts_len]; exact pow64 (by omega)
      refine ⟨by show 0 ≤ sizeLine; exact Nat.zero_le _, fun L hL => ?_⟩
      have sL : Same H' (upd H' L (.lst [])) := same_new hL
      refine ⟨_, rfl, a, rfl, ⟨xs, sL.seq hx⟩, for_data (l := sts i) (by rw [← hlen]; exact walk_list (K := K) (xs := xs)) (fun pre σ G => ∃ y4 ys, σ = [some (.int n), some (.ref a), some (.int ((0 : Int) + i)), some (.ref L), y4] ∧ Same H' G ∧ G L = some (.lst ys) ∧ DeA K G ys ((pre.flatMap fun s => [s ++ [0], s ++ [1]]).map eS))
        ⟨_, [], rfl, sL, upd_same, .nil⟩ (fun pre σ G p => ?_) (fun pre s post x σ G G2 el ei p y => ?_) (fun σ G p => ?_)⟩
      · obtain ⟨y4, ys, rfl, sG, _⟩ := p
        exact sG.seq hx
      · obtain ⟨y4, ys, rfl, sG, hys, dys⟩ := p
        obtain ⟨rfl, ex⟩ := y
        obtain ⟨b, rfl, hb⟩ := eS_of ((hd.at_ ex ei).up sG)
        have hsl : s.length ≤ 100 := by
          have := (sts_mem i s (List.mem_of_getElem? ei)).1
          omega
        have hpl : pre.length ≤ 64 := by
          have := congrArg List.length el
          rw [List.length_append] at this
          omega
        have hyl : ys.length ≤ 128 := by
          rw [dys.len, List.length_flatMap]
          simp only [List.length_cons, List.length_nil]
          rw [List.map_const', List.sum_replicate_nat]
          omega
        refine ⟨_, rfl, _, rfl, (by show 1 ≤ sizeLine; decide), fun r1 hr1 => cat_bit (sqT_xt (xt_same (same_new hr1)) hb) upd_same hsl fun v1 G3 s3 d1 => ?_⟩
        have s3 := (same_new hr1).trans s3
        refine ⟨_, rfl, (by show 1 ≤ sizeLine; decide), fun r2 hr2 => cat_bit (sqT_xt (xt_same (same_new hr2)) (sqT_xt (xt_same s3) hb)) upd_same hsl fun v2 G4 s4 d2 => ?_⟩
        have s4 := (same_new hr2).trans s4
        refine ⟨(by show 2 ≤ sizeLine; decide), fun q hq => ?_⟩
        have sq := same_new (o := .lst [v1, v2]) hq
        have hys4 := sq _ _ (s4 _ _ (s3 _ _ hys))
        refine ⟨L, q, ys, [v1, v2], rfl, rfl, hys4, upd_same, line _ (by show ys.length + 2 ≤ 100000; omega), ?_⟩
        have xu : Xt (upd G4 q (.lst [v1, v2])) (upd (upd G4 q (.lst [v1, v2])) L (.lst (ys ++ [v1, v2]))) := xt_upd hys4 trivial
        refine ⟨_, _, rfl, same_mut (((sG.trans s3).trans s4).trans sq) hL, upd_same, ?_⟩
        rw [List.flatMap_append, List.flatMap_singleton, List.map_append]
        exact (((dys.up (s3.trans s4)).app (.two (d1.up s4) d2)).up sq).xt xu
      · obtain ⟨y4, ys, rfl, sG, hys, dys⟩ := p
        exact ⟨_, rfl, L, _, _, _, rfl, s1.trans sG, s1.free hL, ys, .inl (.inl hys), dys⟩
    · obtain ⟨a, y2, y3, y4, rfl, s1, na, hl⟩ := hp
      refine ⟨_, rfl, k a H' s1 na ?_⟩
      have e : (n : Int).toNat = n := by omega
      rw [e] at hl
      exact hl
def sp_l_cost (K : PySem.W.Frag) : Sp := fun vs H Q _ => ∃ (f e : Addr) (u : V) (fs : List Int) (es : List (Nat × Nat × Int)) (s : List Int), vs = [.ref f, .ref e, u] ∧ SqL K H f (fs.map .int) ∧ Ls K H e (es.map eEd) ∧ De K H u (eS s) ∧ s.length = fs.length ∧ fs.length ≤ 1000 ∧ (∀ b ∈ s, b = 0 ∨ b = 1) ∧ (∀ f ∈ fs, f.natAbs < 2 ^ 60) ∧
  (∀ e ∈ es, e.1 < s.length ∧ e.2.1 < s.length) ∧ Q (.int (costI fs es s)) H
theorem ok_l_cost (T : Txt K mg) : FnOk P w K mg base CX0 1 T.d_l_cost.f T.d_l_cost.d ["_law_fields", "_law_edges", "_law_state"] (sp_l_cost K) := by
  refine T.d_l_cost.F.ok sc_l_cost (fun vs H Q E h => ?_) (fun cdv A outer s H vs Q E hr h => ?_)
  · obtain ⟨f, e, u, fs, es, s, rfl, _⟩ := h
    rfl
  · obtain ⟨f, e, u, fs, es, st, rfl, hf, he, hu, hl, hn, hb, hfb, hv, k⟩ := h
    obtain ⟨b, rfl, hs⟩ := eS_of hu
    refine ⟨_, (pss_cons
        (ps_set (i := 3) sc_l_cost.nd rfl (.inl rfl) pe_int)
        (pss_cons
        (ps_for PassesOwn.never rfl (pi_range1 (by rfl) T.m_range (pa_cons (pe_callB call_len_seq (by rfl) T.m_len PySem.boot_len (pa_cons (pv 0) pa_nil)) pa_nil)) (pg_name (i := 4) sc_l_cost.nd rfl (.inl rfl)) (pss_one
        (ps_aug (i := 3) sc_l_cost.nd rfl (.inl rfl) (pe_op op_mulW (pe_ix ix_list (pv 0) (pv 4) (fun _ _ => rfl)) (pe_ix ix_tup (pv 2) (pv 4) (fun _ _ => rfl))) ip_add)))
        (pss_cons
        (ps_for PassesOwn.never rfl (pi_list (pv 1)) (pg_tup rfl (pgs_cons (pg_name (i := 5) sc_l_cost.nd rfl (.inl rfl)) (pgs_cons (pg_name (i := 6) sc_l_cost.nd rfl (.inl rfl)) (pgs_cons (pg_name (i := 7) sc_l_cost.nd rfl (.inl rfl)) pgs_nil)))) (pss_one
        (ps_if (pt_cmpR op_ne (pe_ix ix_tup (pv 2) (pv 5) (fun _ _ => rfl)) (pe_ix ix_tup (pv 2) (pv 6) (fun _ _ => rfl)) (nomark _)) (pss_one
        (ps_aug (i := 3) sc_l_cost.nd rfl (.inl rfl) (pv 7) ip_add)) pss_nil)))
        (pss_one
        (ps_ret (pv 3)))))), ?_⟩
    refine ⟨_, rfl, f, _, rfl, .inl hf, _, rfl, by omega, by rw [List.length_map]; omega, for_range (lo := 0) (n := ((fs.map V.int).length : Int).toNat) (fun i σ H' => ∃ y4 y5 y6 y7, σ = [some (.ref f), some (.ref e), some (.ref b), some (.int (paid (fs.take i) (st.take i))), y4, y5, y6, y7] ∧ H' = H) ⟨none, none, none, none, rfl, rfl⟩ (fun i σ H' hi hp => ?_) (fun σ H' hp => ?_)⟩
    · obtain ⟨y4, y5, y6, y7, rfl, rfl⟩ := hp
      have hi2 : i < fs.length := by
        rw [List.length_map] at hi
        omega
      have e0 : (0 : Int) + (i : Int) = (i : Int) := Int.zero_add _
      rw [e0]
      have hm : fs.getD i 0 ∈ fs := by
        rw [List.getD, List.getElem?_eq_getElem hi2]
        exact List.getElem_mem hi2
      have hbm : st.getD i 0 ∈ st := by
        rw [List.getD, List.getElem?_eq_getElem (by omega : i < st.length)]
        exact List.getElem_mem _
      have hb1 := hb _ hbm
      refine ⟨_, rfl, _, rfl, _, rfl, f, _, _, _, rfl, rfl, hf, at_st hi2, _, rfl, _, rfl, b, _, _, _, rfl, rfl, hs, at_st (by omega), _, _, rfl, rfl, wide_mul (a := 60) (b := 60) (hfb _ hm) (by rcases hb1 with h | h <;> rw [h] <;> decide) (by decide) (by decide) (by decide), ?_⟩
      refine ⟨_, _, rfl, rfl, some (.int (i : Int)), y5, y6, y7, ?_, rfl⟩
      have e1 : paid (fs.take i) (st.take i) + fs.getD i 0 * st.getD i 0 = paid (fs.take (i + 1)) (st.take (i + 1)) := by
        rw [paid_step hi2 (by omega)]
        rcases hb1 with h | h
        · rw [h, Int.mul_zero, if_neg (by decide)]
        · rw [h, Int.mul_one, if_pos rfl]
      show [some (V.ref f), some (V.ref e), some (V.ref b), some (V.int (paid (fs.take i) (st.take i) + fs.getD i 0 * st.getD i 0)), _, y5, y6, y7] = _
      rw [e1]
    · obtain ⟨y4, y5, y6, y7, rfl, rfl⟩ := hp
      have en : ((fs.map V.int).length : Int).toNat = fs.length := by rw [List.length_map]; omega
      rw [en, List.take_length, ← hl, List.take_length]
      obtain ⟨xs, hx, dxs⟩ := he
      have hlen : xs.length = es.length := dxs.len
      refine ⟨_, rfl, e, rfl, ⟨xs, hx⟩, for_data (l := es) (by rw [← hlen]; exact walk_list (K := K) (xs := xs)) (fun pre σ G => ∃ y5 y6 y7, σ = [some (.ref f), some (.ref e), some (.ref b), some (.int (paid fs st + cut pre st)), y4, y5, y6, y7] ∧ G = H') ⟨_, _, _, (by show _ = [some (V.ref f), some (V.ref e), some (V.ref b), some (V.int (paid fs st + 0)), y4, y5, y6, y7]; rw [Int.add_zero]), rfl⟩ (fun pre σ G p => ?_) (fun pre t post x σ G G2 el ei p y => ?_) (fun σ G p => ?_)⟩
      · obtain ⟨y5, y6, y7, rfl, rfl⟩ := p
        exact hx
      · obtain ⟨y5, y6, y7, rfl, rfl⟩ := p
        obtain ⟨rfl, ex⟩ := y
        obtain ⟨tt, zs, rfl, q2, q3⟩ := (dxs.at_ (e := eEd) ex ei).tup_of
        have ez := DeA.ints_of (ns := [(t.1 : Int), t.2.1, t.2.2]) q3
        subst ez
        have hpv := hv t (List.mem_of_getElem? ei)
        refine ⟨tt, _, rfl, q2, rfl, _, _, rfl, _, _, rfl, _, _, rfl, rfl, ?_⟩
        refine ⟨_, rfl, _, rfl, b, _, _, _, rfl, rfl, hs, at_st hpv.1, _, rfl, _, rfl, b, _, _, _, rfl, rfl, hs, at_st hpv.2, rfl, _, rfl, ?_⟩
        by_cases hc : st.getD t.1 0 = st.getD t.2.1 0
        · rw [hc, decide_eq_true rfl]
          refine ⟨some (.int (t.1 : Int)), some (.int (t.2.1 : Int)), some (.int t.2.2), ?_, rfl⟩
          rw [cut_snoc, if_pos hc, Int.add_zero]
          rfl
        · rw [decide_eq_false (fun z => hc (V.int.inj z))]
          refine ⟨_, rfl, _, rfl, _, _, rfl, rfl, some (.int (t.1 : Int)), some (.int (t.2.1 : Int)), some (.int t.2.2), ?_, rfl⟩
          rw [cut_snoc, if_neg hc, ← Int.add_assoc]
          rfl
      · obtain ⟨y5, y6, y7, rfl, rfl⟩ := p
        exact ⟨_, rfl, k⟩
end
end K49
namespace K49
open PySem PySem.Spec PyProof.Rows L2
/-- the pairs of n vertices -/
def prsOf (n : Nat) : List (Nat × Nat) := (List.range n).flatMap fun u => (List.range (n - (u + 1))).map fun v => (u, u + 1 + v)
def coup : List Int := [1, -1, 0, 2, 1, 0, -2, 3, 0, 1, -1, 0]
def edOf (kind : Int) (p : (Nat × Nat) × Int) : Option (Nat × Nat × Int) := if coup.getD p.2.toNat 0 = 0 then none else some (p.1.1, p.1.2, if kind = 1 ∨ kind = 3 then (if coup.getD p.2.toNat 0 < 0 then -coup.getD p.2.toNat 0 else coup.getD p.2.toNat 0) else coup.getD p.2.toNat 0)
def edsOf (kind : Int) (n : Nat) (ds : List Int) : List (Nat × Nat × Int) := ((prsOf n).zip ds).filterMap (edOf kind)
theorem prsOf_ok {n : Nat} (h : n ≤ 5) : (prsOf n).length ≤ 10 ∧ (∀ p ∈ prsOf n, p.1 < p.2 ∧ p.2 < n) ∧ (prsOf n).Pairwise fun p q => p.1 < q.1 ∨ p.1 = q.1 ∧ p.2 < q.2 := by
  have : n = 0 ∨ n = 1 ∨ n = 2 ∨ n = 3 ∨ n = 4 ∨ n = 5 := by omega
  rcases this with rfl | rfl | rfl | rfl | rfl | rfl <;> decide
theorem coup_ok (k : Nat) : -3 ≤ coup.getD k 0 ∧ coup.getD k 0 ≤ 3 := by
  by_cases h : k < 12
  · have : ∀ k, k < 12 → -3 ≤ coup.getD k 0 ∧ coup.getD k 0 ≤ 3 := by decide
    exact this k h
  · have : coup.getD k 0 = 0 := by
      rw [List.getD, List.getElem?_eq_none (by show 12 ≤ k; omega)]
      rfl
    omega
theorem edsOf_ok {kind : Int} {n : Nat} {ds : List Int} (h : n ≤ 5) : (edsOf kind n ds).length ≤ 10 ∧ (∀ e ∈ edsOf kind n ds, e.1 < e.2.1 ∧ e.2.1 < n ∧ e.2.2 ≠ 0 ∧ -3 ≤ e.2.2 ∧ e.2.2 ≤ 3 ∧ (kind = 1 ∨ kind = 3 → 0 ≤ e.2.2)) ∧ (edsOf kind n ds).Pairwise fun p q => p.1 < q.1 ∨ p.1 = q.1 ∧ p.2.1 < q.2.1 := by
  obtain ⟨h1, h2, h3⟩ := prsOf_ok h
  have key : ∀ p e, edOf kind p = some e → e.1 = p.1.1 ∧ e.2.1 = p.1.2 ∧ e.2.2 ≠ 0 ∧ -3 ≤ e.2.2 ∧ e.2.2 ≤ 3 ∧ (kind = 1 ∨ kind = 3 → 0 ≤ e.2.2) := fun p e he => by
    unfold edOf at he
    have hc := coup_ok p.2.toNat
    generalize coup.getD p.2.toNat 0 = c at he hc
    split at he
    · cases he
    · rename_i hne
      cases he
      refine ⟨rfl, rfl, ?_, ?_, ?_, ?_⟩
      · show (if kind = 1 ∨ kind = 3 then (if c < 0 then -c else c) else c) ≠ 0
        split
        · split <;> omega
        · exact hne
      · show -3 ≤ (if kind = 1 ∨ kind = 3 then (if c < 0 then -c else c) else c)
        split
        · split <;> omega
        · omega
      · show (if kind = 1 ∨ kind = 3 then (if c < 0 then -c else c) else c) ≤ 3
        split
        · split <;> omega
        · omega
      · intro hk
        show 0 ≤ (if kind = 1 ∨ kind = 3 then (if c < 0 then -c else c) else c)
        rw [if_pos hk]
        split <;> omega
  refine ⟨?_, fun e he => ?_, ?_⟩
  · unfold edsOf
    have := List.length_filterMap_le (edOf kind) ((prsOf n).zip ds)
    rw [List.length_zip] at this
    omega
  · unfold edsOf at he
    obtain ⟨p, hp, e1⟩ := List.mem_filterMap.mp he
    obtain ⟨a1, a2, a3⟩ := key p e e1
    have := h2 p.1 (List.of_mem_zip hp).1
    rw [a1, a2]
    exact ⟨this.1, this.2, a3⟩
  · unfold edsOf
    have hz : ((prsOf n).zip ds).Pairwise fun p q => p.1.1 < q.1.1 ∨ p.1.1 = q.1.1 ∧ p.1.2 < q.1.2 := by
      have e : ∀ (l : List (Nat × Nat)) (ds : List Int), l.Pairwise (fun p q => p.1 < q.1 ∨ p.1 = q.1 ∧ p.2 < q.2) → (l.zip ds).Pairwise fun p q => p.1.1 < q.1.1 ∨ p.1.1 = q.1.1 ∧ p.1.2 < q.1.2 := by
        intro l
        induction l with
        | nil => intro ds _; rw [List.zip_nil_left]; exact .nil
        | cons a l ih =>
          intro ds hp
          cases ds with
          | nil => rw [List.zip_nil_right]; exact .nil
          | cons d ds =>
            rw [List.zip_cons_cons]
            obtain ⟨p1, p2⟩ := List.pairwise_cons.mp hp
            refine .cons (fun q hq => p1 q.1 (List.of_mem_zip hq).1) (ih ds p2)
      exact e _ _ h3
    refine hz.filterMap _ ?_
    intro p q hpq e1 h1 e2 h2
    obtain ⟨a1, a2, _⟩ := key p e1 h1
    obtain ⟨b1, b2, _⟩ := key q e2 h2
    rw [a1, a2, b1, b2]
    exact hpq
section
variable {P : Program} {w : World} {K : PySem.W.Frag} {mg : Str → Option Value} {base : Heap}
def sp_l_cell (K : PySem.W.Frag) : Sp := fun vs H Q _ => ∃ (s : Addr) (ns : List Int) (k : Nat), vs = [.ref s, .int k] ∧ SqL K H s (ns.map .int) ∧ Q (.int (ns.getD k 0)) H
theorem ok_l_cell (T : Txt K mg) : FnOk P w K mg base CX0 1 T.d_l_cell.f T.d_l_cell.d ["_law_script", "_law_k"] (sp_l_cell K) := by
  refine T.d_l_cell.F.ok sc_l_cell (fun vs H Q E h => ?_) (fun cdv A outer s H vs Q E hr h => ?_)
  · obtain ⟨s, ns, j, rfl, _⟩ := h
    rfl
  · obtain ⟨s, ns, j, rfl, hs, k⟩ := h
    refine ⟨_, (pss_cons
        (ps_if (pt_cmpR op_lt (pv 1) (pe_callB call_len_seq (by rfl) T.m_len PySem.boot_len (pa_cons (pv 0) pa_nil)) (nomark _)) (pss_one
        (ps_ret (pe_callTy call_int1 (by rfl) T.m_int (by decide +kernel) (pa_cons (pe_ix ix_list (pv 0) (pv 1) (fun _ _ => rfl)) pa_nil)))) pss_nil)
        (pss_one
        (ps_ret pe_int))), ?_⟩
    refine ⟨_, rfl, _, rfl, s, _, rfl, .inl hs, _, _, rfl, rfl, _, rfl, ite2 (fun e => ?_) (fun e => ?_)⟩
    · have h1 : (j : Int) < (ns.map V.int).length := of_decide_eq_true e
      rw [List.length_map] at h1
      exact ⟨_, rfl, _, rfl, s, _, _, _, rfl, rfl, hs, at_st (by omega), .inl ⟨_, rfl, k⟩⟩
    · have h1 : ¬ (j : Int) < (ns.map V.int).length := fun z => e (decide_eq_true z)
      rw [List.length_map] at h1
      rw [List.getD, List.getElem?_eq_none (by omega)] at k
      exact k
def sp_l_mix : Sp := fun vs H Q _ => ∃ (c : Int) (j : Nat), vs = [.int c, .int j] ∧ c.natAbs < 2 ^ 60 ∧ j < 1000 ∧ ∀ r : Int, 0 ≤ r → Q (.int r) H
theorem ok_l_mix (T : Txt K mg) : FnOk P w K mg base CX0 1 T.d_l_mix.f T.d_l_mix.d ["_law_cell_here", "_law_k"] sp_l_mix := by
  refine T.d_l_mix.F.ok sc_l_mix (fun vs H Q E h => ?_) (fun cdv A outer s H vs Q E hr h => ?_)
  · obtain ⟨c, j, rfl, _⟩ := h
    rfl
  · obtain ⟨c, j, rfl, hc, hj, k⟩ := h
    refine ⟨_, (pss_cons
        (ps_set (i := 2) sc_l_mix.nd rfl (.inl rfl) (pe_op op_mod (pe_callTy call_int1 (by rfl) T.m_int (by decide +kernel) (pa_cons (pe_op op_add (pe_op op_add (pe_op op_mulW (pv 0) pe_int) (pe_op op_mulW (pv 1) pe_int)) pe_int) pa_nil)) pe_int))
        (pss_cons
        (ps_set (i := 2) sc_l_mix.nd rfl (.inl rfl) (pe_op op_mod (pe_callTy call_int1 (by rfl) T.m_int (by decide +kernel) (pa_cons (pe_op op_add (pe_op op_add (pe_op op_mulW (pv 2) pe_int) (pe_op op_mulW (pv 1) pe_int)) pe_int) pa_nil)) pe_int))
        (pss_one
        (ps_ret (pe_op op_fdivW (pv 2) pe_int))))), ?_⟩
    have hj2 : (j : Int).natAbs < 2 ^ 60 := by omega
    have k1 : ((48271 : Int)).natAbs < 2 ^ 60 := by decide
    have k2 : ((69621 : Int)).natAbs < 2 ^ 60 := by decide
    have k3 : ((16807 : Int)).natAbs < 2 ^ 60 := by decide
    have k4 : ((40692 : Int)).natAbs < 2 ^ 60 := by decide
    refine ⟨_, rfl, _, _, rfl, rfl, wide_mul hc k1 (by decide) (by decide) (by decide), _, rfl, _, _, rfl, rfl, wide_mul hj2 k2 (by decide) (by decide) (by decide), _, _, rfl, rfl, _, _, rfl, rfl, .inl ⟨_, rfl, _, _, rfl, rfl, (show (0 : Int) < 2147483647 by decide), ?_⟩⟩
    have hm := Int.emod_lt_of_pos (c * 48271 + (j : Int) * 69621 + 12345) (show (0 : Int) < 2147483647 by decide)
    have hn := Int.emod_nonneg (c * 48271 + (j : Int) * 69621 + 12345) (show (2147483647 : Int) ≠ 0 by decide)
    have hm2 : ((c * 48271 + (j : Int) * 69621 + 12345) % 2147483647).natAbs < 2 ^ 60 := by omega
    refine ⟨_, rfl, _, _, rfl, rfl, wide_mul hm2 k3 (by decide) (by decide) (by decide), _, rfl, _, _, rfl, rfl, wide_mul hj2 k4 (by decide) (by decide) (by decide), _, _, rfl, rfl, _, _, rfl, rfl, .inl ⟨_, rfl, _, _, rfl, rfl, (show (0 : Int) < 2147483629 by decide), ?_⟩⟩
    have hn2 := Int.emod_nonneg ((c * 48271 + (j : Int) * 69621 + 12345) % 2147483647 * 16807 + (j : Int) * 40692 + 777) (show (2147483629 : Int) ≠ 0 by decide)
    exact ⟨_, rfl, _, _, rfl, rfl, wide_div (b := 20) (by decide) (by decide) (by decide) (by decide), k _ (Int.ediv_nonneg hn2 (by decide))⟩
def sp_l_row (K : PySem.W.Frag) : Sp := fun vs H Q _ => ∃ (c : Int) (n : Nat) (b : Int), vs = [.int c, .int n, .int b] ∧ n ≤ 100 ∧ 0 < b ∧ b < 2 ^ 60 ∧ ∀ p H' (ds : List Int), Same H H' → H p = none → H' p = some (.lst (ds.map V.int)) → ds.length = n → (∀ d ∈ ds, 0 ≤ d ∧ d < b) → Q (.ref p) H'
theorem ok_l_row (T : Txt K mg) : FnOk P w K mg base CX0 2 T.d_l_row.f T.d_l_row.d ["_law_cell_here", "_law_count", "_law_bound"] (sp_l_row K) := by
  refine T.d_l_row.F.ok sc_l_row (fun vs H Q E h => ?_) (fun cdv A outer s H vs Q E hr h => ?_)
  · obtain ⟨c, n, b, rfl, _⟩ := h
    rfl
  · obtain ⟨c, n, b, rfl, hn, hb, hb2, k⟩ := h
    refine ⟨_, (pss_cons
        (ps_set (i := 3) sc_l_row.nd rfl (.inl rfl) (pe_lst pa_nil))
        (pss_cons
        (ps_set (i := 4) sc_l_row.nd rfl (.inl rfl) (pe_callB call_abs (by rfl) T.m_abs (by decide +kernel) (pa_cons (pv 0) pa_nil)))
        (pss_cons
        (ps_for PassesOwn.never rfl (pi_range1 (by rfl) T.m_range (pa_cons (pv 1) pa_nil)) (pg_name (i := 5) sc_l_row.nd rfl (.inl rfl)) (pss_one
        (ps_if (pt_cmpR op_ge (pe_callB call_abs (by rfl) T.m_abs (by decide +kernel) (pa_cons (pv 0) pa_nil)) pe_int (nomark _)) (pss_cons
        (ps_expr (pe_bm PySem.F.plainAttrs_list PySem.F.slot_list_append PySem.F.type_list_append mt_append (pv 3) (pa_cons (pe_op op_mod (pe_callTy call_int1 (by rfl) T.m_int (by decide +kernel) (pa_cons (pv 4) pa_nil)) (pv 2)) pa_nil)))
        (pss_one
        (ps_set (i := 4) sc_l_row.nd rfl (.inl rfl) (pe_op op_fdivW (pv 4) (pv 2))))) (pss_one
        (ps_expr (pe_bm PySem.F.plainAttrs_list PySem.F.slot_list_append PySem.F.type_list_append mt_append (pv 3) (pa_cons (pe_op op_mod (pe_callTy call_int1 (by rfl) T.m_int (by decide +kernel) (pa_cons (pe_call (ok_l_mix T) hr (by rfl) T.d_l_mix.g T.d_l_mix.F.kp T.d_l_mix.b .nil pass0 (pa_cons (pv 0) (pa_cons (pv 5) pa_nil))) pa_nil)) (pv 2)) pa_nil)))))))
        (pss_one
        (ps_ret (pv 3)))))), ?_⟩
    refine ⟨by show 0 ≤ sizeLine; exact Nat.zero_le _, fun L hL => ?_⟩
    have hdv : ∀ i : Int, CDivW i b := fun i => wide_div (b := 60) hb (by omega) (by decide) (by decide)
    refine ⟨_, rfl, c, rfl, ?_⟩
    refine ⟨_, rfl, n, rfl, by omega, by omega, for_range (lo := 0) (n := (n : Int).toNat) (fun i σ H' => ∃ (rest : Int) (y5 : Option V) (ds : List Int), σ = [some (.int c), some (.int n), some (.int b), some (.ref L), some (.int rest), y5] ∧ 0 ≤ rest ∧ Same H H' ∧ H' L = some (.lst (ds.map V.int)) ∧ ds.length = i ∧ ∀ d ∈ ds, 0 ≤ d ∧ d < b)
      ⟨_, none, [], rfl, (by split <;> omega), same_new hL, upd_same, rfl, fun d hd => by cases hd⟩ (fun i σ H' hi hp => ?_) (fun σ H' hp => ?_)⟩
    · obtain ⟨rest, y5, ds, rfl, h0, s1, hds, hdl, hdb⟩ := hp
      have step : ∀ m : Int, ∀ d ∈ ds ++ [m % b], 0 ≤ d ∧ d < b := fun m d hd => by
        rcases List.mem_append.mp hd with hd | hd
        · exact hdb d hd
        · rw [List.mem_singleton.mp hd]
          exact ⟨Int.emod_nonneg _ (by omega), Int.emod_lt_of_pos _ hb⟩
      have lay : ∀ m : Int, (upd H' L (.lst (ds.map V.int ++ [.int (m % b)]))) L = some (.lst ((ds ++ [m % b]).map V.int)) := fun m => by
        rw [upd_same, List.map_append]
        rfl
      refine ⟨_, rfl, c, rfl, _, _, rfl, rfl, _, rfl, ite2 (fun e => ?_) (fun e => ?_)⟩
      · refine ⟨_, rfl, .inl ⟨rfl, _, .inl (.inl hds)⟩, _, rfl, .inl ⟨_, rfl, _, rfl, _, _, rfl, rfl, hb, L, _, _, rfl, rfl, hds, line' _ (by rw [List.length_map]; omega), ?_⟩⟩
        refine ⟨_, rfl, _, rfl, _, _, rfl, rfl, hdv _, _, _, _, rfl, Int.ediv_nonneg h0 (by omega), same_mut s1 hL, lay _, by rw [List.length_append, hdl]; rfl, step _⟩
      · have hsm : c.natAbs < 2 ^ 60 := by
          have : ¬ (1000000000000000000 : Int) ≤ (if c < 0 then -c else c) := fun z => e (decide_eq_true z)
          split at this <;> omega
        refine ⟨_, rfl, .inl ⟨rfl, _, .inl (.inl hds)⟩, _, rfl, _, rfl, c, i, (by rw [Int.zero_add]; rfl), hsm, by omega, fun r hr => .inl ⟨_, rfl, _, rfl, _, _, rfl, rfl, hb, L, _, _, rfl, rfl, hds, line' _ (by rw [List.length_map]; omega), ?_⟩⟩
        exact ⟨_, _, _, rfl, h0, same_mut s1 hL, lay _, by rw [List.length_append, hdl]; rfl, step _⟩
    · obtain ⟨rest, y5, ds, rfl, h0, s1, hds, hdl, hdb⟩ := hp
      have en : (n : Int).toNat = n := by omega
      rw [en] at hdl
      exact ⟨_, rfl, k L H' ds s1 hL hds hdl hdb⟩
theorem div_pos' {a b : Rat} (ha : 0 < a) (hb : 0 < b) : 0 < a / b := by
  rw [Rat.div_def]
  exact Rat.mul_pos ha (Rat.inv_pos.mpr hb)
theorem div_le_one' {a b : Rat} (hb : 0 < b) (h : a ≤ b) : a / b ≤ 1 := by
  have hi := Rat.inv_pos.mpr hb
  rw [Rat.div_def]
  have h1 := Rat.mul_le_mul_of_nonneg_right h (Rat.le_of_lt hi)
  have h2 : b * b⁻¹ = 1 := Rat.mul_inv_cancel b (fun z => by rw [z] at hb; exact absurd hb (by decide))
  rw [h2] at h1
  exact h1
theorem frac_ok {n d : Int} (hn : 0 < n) (hd : 0 < d) : 0 < (n : Rat) / (d : Rat) ∧ ((n : Rat) / (d : Rat)).num ≤ n ∧ ((((n : Rat) / (d : Rat)).den : Nat) : Int) ≤ d ∧ (n ≤ d → (n : Rat) / (d : Rat) ≤ 1) := by
  have hn2 : (0 : Rat) < (n : Rat) := by exact_mod_cast hn
  have hd2 : (0 : Rat) < (d : Rat) := by exact_mod_cast hd
  refine ⟨div_pos' hn2 hd2, ?_, ?_, fun h => ?_⟩
  · rw [rat_num n d hd]
    exact Int.ediv_le_self _ (by omega)
  · rw [rat_den n d hd]
    exact Int.ediv_le_self _ (by omega)
  · have h2 : (n : Rat) ≤ (d : Rat) := by exact_mod_cast h
    exact div_le_one' hd2 h2
def sp_l_fractions (K : PySem.W.Frag) : Sp := fun vs H Q _ => ∃ (c : Int) (u : Bool), vs = [.int c, .bl u] ∧ 0 ≤ c ∧ ∀ t zx zy (x y : Rat) H', Same H H' → SqT K H' t [zx, zy] → De K H' zx (eF x) → De K H' zy (eF y) → 0 < x → x.num ≤ 6 → x.den ≤ 4 → 0 < y → y.num ≤ 4 → y.den ≤ 3 → (u = true → x ≤ 1) → Q (.ref t) H'
theorem ok_l_fractions (T : Txt K mg) : FnOk P w K mg base CX0 3 T.d_l_fractions.f T.d_l_fractions.d ["_law_cell_here", "_law_unit"] (sp_l_fractions K) := by
  refine T.d_l_fractions.F.ok sc_l_fractions (fun vs H Q E h => ?_) (fun cdv A outer s H vs Q E hr h => ?_)
  · obtain ⟨c, u, rfl, _⟩ := h
    rfl
  · obtain ⟨c, u, rfl, hc, k⟩ := h
    refine ⟨_, (pss_cons
        (ps_set (i := 2) sc_l_fractions.nd rfl (.inl rfl) (pe_op op_add pe_int (pe_op op_mod (pv 0) pe_int)))
        (pss_cons
        (ps_set (i := 3) sc_l_fractions.nd rfl (.inl rfl) (pe_call (ok_l_frac T) hr (by rfl) T.d_l_frac.g T.d_l_frac.F.kp T.d_l_frac.b .nil pass0 (pa_cons (pe_ifExp (pt_val (pv 1)) (pe_op op_add pe_int (pe_op op_mod (pe_op op_fdivW (pv 0) pe_int) (pv 2))) (pe_op op_add pe_int (pe_op op_mod (pe_op op_fdivW (pv 0) pe_int) pe_int))) (pa_cons (pv 2) pa_nil))))
        (pss_one
        (ps_ret (pe_tup (pa_cons (pv 3) (pa_cons (pe_call (ok_l_frac T) hr (by rfl) T.d_l_frac.g T.d_l_frac.F.kp T.d_l_frac.b .nil pass0 (pa_cons (pe_op op_add pe_int (pe_op op_mod (pe_op op_fdivW (pv 0) pe_int) pe_int)) (pa_cons (pe_op op_add pe_int (pe_op op_mod (pe_op op_fdivW (pv 0) pe_int) pe_int)) pa_nil))) pa_nil))))))), ?_⟩
    have m4 := Int.emod_lt_of_pos c (show (0 : Int) < 4 by decide)
    have n4 := Int.emod_nonneg c (show (4 : Int) ≠ 0 by decide)
    have dv : ∀ (i j : Int), 0 < j → j < 1000 → CDivW i j := fun i j h1 h2 => wide_div (b := 60) h1 (by omega) (by decide) (by decide)
    have small : ∀ d : Int, 0 < d → d < 1000 → d.natAbs < 2 ^ 9000 := fun d h1 h2 => Nat.lt_of_lt_of_le (show d.natAbs < 2 ^ 10 by omega) (Nat.pow_le_pow_right (by decide) (by decide))
    refine ⟨_, rfl, _, _, rfl, rfl, (show (0 : Int) < 4 by decide), _, _, rfl, rfl, ?_⟩
    have hb1 : (0 : Int) < 1 + c % 4 := by omega
    have em : ∀ i j : Int, 0 < j → 0 ≤ i % j ∧ i % j < j := fun i j h => ⟨Int.emod_nonneg _ (by omega), Int.emod_lt_of_pos _ h⟩
    have e6 := em (c / 4) 6 (by decide)
    have eb := em (c / 4) (1 + c % 4) hb1
    have e4 := em (c / 32) 4 (by decide)
    have e3 := em (c / 128) 3 (by decide)
    have tail : ∀ (n : Int) (zx : V) (H1 : Hp), Same H H1 → De K H1 zx (eF ((n : Rat) / ((1 + c % 4 : Int) : Rat))) → 0 < n → n ≤ 6 → (u = true → n ≤ 1 + c % 4) →
        (tRet (tTup (tCons (tVar 3) (tCons (tCall (sp_l_frac K) [] E0 (tCons (tOp (rI0 fun i j => .int (i + j)) (tC (.int 1)) (tOp (rI (fun _ j => 0 < j) fun i j => .int (i % j)) (tOp (rI CDivW fun i j => .int (i / j)) (tVar 0) (tC (.int 32))) (tC (.int 4)))) (tCons (tOp (rI0 fun i j => .int (i + j)) (tC (.int 1)) (tOp (rI (fun _ j => 0 < j) fun i j => .int (i % j)) (tOp (rI CDivW fun i j => .int (i / j)) (tVar 0) (tC (.int 128))) (tC (.int 3)))) tNil))) tNil)))) { nx := fun _ H' => Q .non H', rt := Q } [some (.int c), some (.bl u), some (.int (1 + c % 4)), some zx] H1 := by
      intro n zx H1 s1 dzx h0 h6 hu
      obtain ⟨x0, x1, x2, x3⟩ := frac_ok h0 hb1
      have y1 : (0 : Int) < 1 + c / 32 % 4 := by omega
      have y2 : (0 : Int) < 1 + c / 128 % 3 := by omega
      obtain ⟨w0, w1, w2, _⟩ := frac_ok y1 y2
      refine ⟨_, rfl, _, rfl, _, _, rfl, rfl, dv _ _ (by decide) (by decide), _, _, rfl, rfl, (show (0 : Int) < 4 by decide), _, _, rfl, rfl, _, rfl, _, _, rfl, rfl, dv _ _ (by decide) (by decide), _, _, rfl, rfl, (show (0 : Int) < 3 by decide), _, _, rfl, rfl, _, _, rfl, y2, small _ y2 (by omega), fun zy H2 s2 dzy => ⟨by show 2 ≤ sizeLine; decide, fun t ht => ?_⟩⟩
      have st := same_new (o := .tup [zx, zy]) ht
      exact k t zx zy _ _ _ ((s1.trans s2).trans st) (.inl (.inl upd_same)) ((dzx.up s2).up st) (dzy.up st) x0 (by omega) (by omega) w0 (by omega) (by omega) fun z => x3 (hu z)
    cases u with
    | true =>
      refine ⟨_, rfl, _, rfl, _, rfl, _, _, rfl, rfl, dv _ _ (by decide) (by decide), _, rfl, _, _, rfl, rfl, hb1, _, _, rfl, rfl, _, rfl, _, _, rfl, hb1, small _ hb1 (by omega), fun zx H1 s1 dzx => tail _ zx H1 s1 dzx (by omega) (by omega) (fun _ => by omega)⟩
    | false =>
      refine ⟨_, rfl, _, rfl, _, rfl, _, _, rfl, rfl, dv _ _ (by decide) (by decide), _, _, rfl, rfl, (show (0 : Int) < 6 by decide), _, _, rfl, rfl, _, rfl, _, _, rfl, hb1, small _ hb1 (by omega), fun zx H1 s1 dzx => tail _ zx H1 s1 dzx (by omega) (by omega) (fun z => by cases z)⟩
def ePr (p : Nat × Nat) : PyData := .tuple [.int p.1, .int p.2]
/-- two ways that go on in one -/
theorem join {R Fa : V → Hp → Prop} {G : Prop} (main : (∀ v H, Fa v H → R v H) → G) (tl : ∀ v H, Fa v H → R v H) : G := main tl
/-- what _law_spins gives -/
structure SpOk (kind : Int) (most : Nat) (fs : List Int) (es : List (Nat × Nat × Int)) : Prop where
  n1 : 1 ≤ fs.length
  nm : fs.length ≤ most
  fb : ∀ f ∈ fs, -2 ≤ f ∧ f ≤ 2
  f0 : 2 ≤ kind → ∀ f ∈ fs, f = 0
  el : es.length ≤ 10
  ed : ∀ e ∈ es, e.1 < e.2.1 ∧ e.2.1 < fs.length ∧ e.2.2 ≠ 0 ∧ -3 ≤ e.2.2 ∧ e.2.2 ≤ 3
  c0 : kind = 1 ∨ kind = 3 → ∀ e ∈ es, 0 ≤ e.2.2
  asc : es.Pairwise fun p q => p.1 < q.1 ∨ p.1 = q.1 ∧ p.2.1 < q.2.1
theorem SpOk.mkb {kind : Int} {most : Nat} {fs : List Int} {es : List (Nat × Nat × Int)} (h : SpOk kind most fs es) (hm : most ≤ 5) : Mkb fs es :=
  ⟨h.n1, by have := h.nm; omega, by have := h.el; omega, fun f hf => by have := h.fb f hf; omega, fun e he => by have := h.ed e he; omega, h.asc⟩
def sp_l_spins (K : PySem.W.Frag) : Sp := fun vs H Q _ => ∃ (s : Addr) (ns : List Int) (first most : Nat) (kind : Int), vs = [.ref s, .int first, .int most, .int kind] ∧ SqL K H s (ns.map .int) ∧ 1 ≤ most ∧ most ≤ 5 ∧
  ∀ t f e fs es H', Same H H' → SqT K H' t [.ref f, .ref e] → H' f = some (.lst (List.map V.int fs)) → (∃ xs, H' e = some (.lst xs) ∧ DeA K H' xs (es.map eEd)) → SpOk kind most fs es → Q (.ref t) H'
theorem ok_l_spins (T : Txt K mg) : FnOk P w K mg base CX0 3 T.d_l_spins.f T.d_l_spins.d ["_law_script", "_law_first", "_law_most", "_law_kind"] (sp_l_spins K) := by
  refine T.d_l_spins.F.ok sc_l_spins (fun vs H Q E h => ?_) (fun cdv A outer s H vs Q E hr h => ?_)
  · obtain ⟨s, ns, first, most, kind, rfl, _⟩ := h
    rfl
  · obtain ⟨s, ns, first, most, kind, rfl, hs, hm1, hm5, k⟩ := h
    refine ⟨_, (pss_cons
        (ps_set (i := 4) sc_l_spins.nd rfl (.inl rfl) (pe_op op_add pe_int (pe_op op_mod (pe_call (ok_l_cell T) (hr.mono (by decide)) (by rfl) T.d_l_cell.g T.d_l_cell.F.kp T.d_l_cell.b .nil pass0 (pa_cons (pv 0) (pa_cons (pv 1) pa_nil))) (pv 2))))
        (pss_cons
        (ps_set (i := 5) sc_l_spins.nd rfl (.inl rfl) (pe_op op_rep (pe_lst (pa_cons pe_int pa_nil)) (pv 4)))
        (pss_cons
        (ps_if (pt_cmpR op_lt (pv 3) pe_int (nomark _)) (pss_one
        (ps_setLc (i := 5) (own := [("_law_digit", 12)]) rfl sc_l_spins.nd rfl rfl (sw_true rfl rfl rfl (by decide +kernel)) (pi_list (pe_call (ok_l_row T) hr (by rfl) T.d_l_row.g T.d_l_row.F.kp T.d_l_row.b .nil pass0 (pa_cons (pe_call (ok_l_cell T) (hr.mono (by decide)) (by rfl) T.d_l_cell.g T.d_l_cell.F.kp T.d_l_cell.b .nil pass0 (pa_cons (pv 0) (pa_cons (pe_op op_add (pv 1) pe_int) pa_nil))) (pa_cons (pv 4) (pa_cons pe_int pa_nil))))) (blkOk_by (N := ["_law_script", "_law_first", "_law_most", "_law_kind", "_law_count", "_law_fields", "_law_pairs", "_law_u", "_law_edges", "_law_digits", "_law_k", "_law_coupling", "_law_digit", "_law_v"]) (sc := defScope s_l_spins) (own := [("_law_digit", 12)]) (by decide +kernel)) (fun _ _ _ _ _ => (pg_name (i := 12) sc_l_spins.nd rfl (by first | exact .inl rfl | exact .inr rfl))) (fun _ _ _ _ _ => pts_nil) (fun _ _ _ _ _ => (pe_op op_sub (pv 12) pe_int)))) pss_nil)
        (pss_cons
        (ps_set (i := 6) sc_l_spins.nd rfl (.inl rfl) (pe_lst pa_nil))
        (pss_cons
        (ps_for PassesOwn.never rfl (pi_range1 (by rfl) T.m_range (pa_cons (pv 4) pa_nil)) (pg_name (i := 7) sc_l_spins.nd rfl (.inr rfl)) (pss_one
        (ps_aug (i := 6) sc_l_spins.nd rfl (.inl rfl) (pe_lc (own := [("_law_v", 13)]) rfl sc_l_spins.nd (pi_range2 (by rfl) T.m_range (pa_cons (pe_op op_add (pv 7) pe_int) (pa_cons (pv 4) pa_nil))) (blkOk_by (N := ["_law_script", "_law_first", "_law_most", "_law_kind", "_law_count", "_law_fields", "_law_pairs", "_law_u", "_law_edges", "_law_digits", "_law_k", "_law_coupling", "_law_digit", "_law_v"]) (sc := defScope s_l_spins) (own := [("_law_v", 13)]) (by decide +kernel)) (fun _ _ _ _ _ => (pg_name (i := 13) sc_l_spins.nd rfl (by first | exact .inl rfl | exact .inr rfl))) (fun _ _ _ _ _ => pts_nil) (fun _ _ _ _ _ => (pe_tup (pa_cons (pv 7) (pa_cons (pv 13) pa_nil))))) iop_ext)))
        (pss_cons
        (ps_set (i := 8) sc_l_spins.nd rfl (.inl rfl) (pe_lst pa_nil))
        (pss_cons
        (ps_set (i := 9) sc_l_spins.nd rfl (.inl rfl) (pe_call (ok_l_row T) hr (by rfl) T.d_l_row.g T.d_l_row.F.kp T.d_l_row.b .nil pass0 (pa_cons (pe_call (ok_l_cell T) (hr.mono (by decide)) (by rfl) T.d_l_cell.g T.d_l_cell.F.kp T.d_l_cell.b .nil pass0 (pa_cons (pv 0) (pa_cons (pe_op op_add (pv 1) pe_int) pa_nil))) (pa_cons (pe_callB call_len_seq (by rfl) T.m_len PySem.boot_len (pa_cons (pv 6) pa_nil)) (pa_cons pe_int pa_nil)))))
        (pss_cons
        (ps_for PassesOwn.never rfl (pi_range1 (by rfl) T.m_range (pa_cons (pe_callB call_len_seq (by rfl) T.m_len PySem.boot_len (pa_cons (pv 6) pa_nil)) pa_nil)) (pg_name (i := 10) sc_l_spins.nd rfl (.inl rfl)) (pss_cons
        (ps_set (i := 11) sc_l_spins.nd rfl (.inl rfl) (pe_ix ix_tup (pe_tup (pa_cons pe_int (pa_cons (pe_un un_neg pe_int) (pa_cons pe_int (pa_cons pe_int (pa_cons pe_int (pa_cons pe_int (pa_cons (pe_un un_neg pe_int) (pa_cons pe_int (pa_cons pe_int (pa_cons pe_int (pa_cons (pe_un un_neg pe_int) (pa_cons pe_int pa_nil))))))))))))) (pe_ix ix_list (pv 9) (pv 10) (fun _ _ => rfl)) (fun _ _ => rfl)))
        (pss_one
        (ps_if (pt_cmpR op_ne (pv 11) pe_int (nomark _)) (pss_one
        (ps_expr (pe_bm PySem.F.plainAttrs_list PySem.F.slot_list_append PySem.F.type_list_append mt_append (pv 8) (pa_cons (pe_tup (pa_cons (pe_ix ix_tup (pe_ix ix_list (pv 6) (pv 10) (fun _ _ => rfl)) pe_int (fun _ _ => rfl)) (pa_cons (pe_ix ix_tup (pe_ix ix_list (pv 6) (pv 10) (fun _ _ => rfl)) pe_int (fun _ _ => rfl)) (pa_cons (pe_ifExp (pt_cmpR op_in_seq (pv 3) (pe_tup (pa_cons pe_int (pa_cons pe_int pa_nil))) (by rfl)) (pe_callB call_abs (by rfl) T.m_abs (by decide +kernel) (pa_cons (pv 11) pa_nil)) (pv 11)) pa_nil)))) pa_nil)))) pss_nil))))
        (pss_one
        (ps_ret (pe_tup (pa_cons (pv 5) (pa_cons (pv 8) pa_nil))))))))))))), ?_⟩
    have hmi : (0 : Int) < (most : Int) := by omega
    refine ⟨_, rfl, _, rfl, s, ns, first, rfl, hs, _, rfl, _, _, rfl, rfl, hmi, _, _, rfl, rfl, ?_⟩
    have hn0 := Int.emod_nonneg (ns.getD first 0) (show (most : Int) ≠ 0 by omega)
    have hn1 := Int.emod_lt_of_pos (ns.getD first 0) hmi
    obtain ⟨n, en, hn, hnm⟩ : ∃ n : Nat, 1 + ns.getD first 0 % (most : Int) = (n : Int) ∧ 1 ≤ n ∧ n ≤ most := ⟨(1 + ns.getD first 0 % (most : Int)).toNat, by omega, by omega, by omega⟩
    have hn5 : n ≤ 5 := by omega
    refine ⟨by show 1 ≤ sizeLine; decide, fun f0 hf0 => ?_⟩
    have sf0 := same_new (o := .lst [.int 0]) hf0
    refine ⟨_, rfl, f0, n, _, rfl, (congrArg V.int en), upd_same, by omega, by omega, (by rw [List.length_singleton]; exact line _ (by omega)), fun f1 hf1 => ?_⟩
    have e0 : (List.replicate (n : Int).toNat [V.int 0]).flatten = (List.replicate n (0 : Int)).map V.int := by
      rw [List.flatten_replicate_singleton, List.map_replicate]
      congr 1
    rw [e0]
    have sf1 := same_new (o := .lst ((List.replicate n (0 : Int)).map V.int)) hf1
    have hu1 : (upd (upd H f0 (.lst [.int 0])) f1 (.lst ((List.replicate n (0 : Int)).map V.int))) f1 = some (.lst ((List.replicate n (0 : Int)).map V.int)) := upd_same
    have sH := sf0.trans sf1
    generalize (upd (upd H f0 (.lst [.int 0])) f1 (.lst ((List.replicate n (0 : Int)).map V.int))) = HX at hu1 sH ⊢
    dsimp only
    rw [en]
    apply join (Fa := fun v H1 => ∃ f fs, v = .ref f ∧ Same H H1 ∧ H1 f = some (.lst (List.map V.int fs)) ∧ fs.length = n ∧ (∀ f ∈ fs, -2 ≤ f ∧ f ≤ 2) ∧ (2 ≤ kind → ∀ f ∈ fs, f = 0))
    · intro tail
      refine ⟨_, rfl, _, _, rfl, rfl, _, rfl, ite2 (fun hk => ?b1) (fun hk => ?b2)⟩
      case b2 =>
        have hk : ¬ kind < 2 := fun z => hk (decide_eq_true z)
        have facts : ∃ f fs, V.ref f1 = .ref f ∧ Same H HX ∧ HX f = some (.lst (List.map V.int fs)) ∧ fs.length = n ∧ (∀ f ∈ fs, -2 ≤ f ∧ f ≤ 2) ∧ (2 ≤ kind → ∀ f ∈ fs, f = 0) :=
          ⟨f1, List.replicate n 0, rfl, sH, hu1, List.length_replicate, fun f hf => by rw [(List.mem_replicate.mp hf).2]; decide, fun _ f hf => (List.mem_replicate.mp hf).2⟩
        generalize V.ref f1 = fv at facts ⊢
        exact tail fv HX facts
      case b1 =>
        have hk : kind < 2 := of_decide_eq_true hk
        refine ⟨_, rfl, _, rfl, _, _, rfl, rfl, s, ns, first + 1, rfl, sH.seq hs, _, rfl, _, n, 5, rfl, by omega, by decide, by decide, fun p H1 ds s1 np hp hdl hdb => ⟨p, rfl, ⟨_, .inl (.inl hp)⟩, fun D hD => ?_⟩⟩
        have hsl : SqL K H1 p (ds.map V.int) := .inl (.inl hp)
        refine lc_data (K := K) (l := ds) (by rw [← List.length_map (f := V.int)]; exact walk_list (K := K) (xs := ds.map V.int)) .int (fun d => some (d - 2)) (fun G sG => sG.seq hsl) hD (line' _ (by omega)) (fun i d x G G' ei sG y Ky Kn ky kn => ?_) (fun G ys sG hys hyl hd => ?_)
        · obtain ⟨rfl, ex⟩ := y
          have ex : x = .int d := by
            rw [List.getElem?_map, ei] at ex
            exact (Option.some.inj ex).symm
          subst ex
          exact ⟨rfl, _, rfl, _, _, rfl, rfl, ky _ _ _ rfl (Same.refl _) (.int _)⟩
        · have ey := DeA.ints_of hd
          have ef : (ds.filterMap fun d => some (d - 2)) = ds.map fun d => d - 2 := by rw [List.filterMap_eq_map']
          rw [ef] at ey
          subst ey
          have facts : ∃ f fs, V.ref D = .ref f ∧ Same H G ∧ G f = some (.lst (List.map V.int fs)) ∧ fs.length = n ∧ (∀ f ∈ fs, -2 ≤ f ∧ f ≤ 2) ∧ (2 ≤ kind → ∀ f ∈ fs, f = 0) := by
            refine ⟨D, ds.map fun d => d - 2, rfl, (sH.trans s1).trans sG, hys, by rw [List.length_map, hdl], fun f hf => ?_, fun h => by omega⟩
            obtain ⟨d, hd2, rfl⟩ := List.mem_map.mp hf
            have := hdb d hd2
            omega
          exact tail (.ref D) G facts
    · rintro v H1 ⟨f, fs, rfl, s1, hfs, hfl, hfb, hfz⟩
      refine ⟨by show 0 ≤ sizeLine; exact Nat.zero_le _, fun L hL => ?_⟩
      have sL := same_new (o := .lst []) hL
      refine ⟨_, rfl, n, rfl, by omega, by omega, for_range (lo := 0) (n := (n : Int).toNat) (fun i σ G => ∃ y7 y10 y11 y12 y13 ys, σ = [some (.ref s), some (.int first), some (.int most), some (.int kind), some (.int n), some (.ref f), some (.ref L), y7, none, none, y10, y11, y12, y13] ∧ Same H1 G ∧ G L = some (.lst ys) ∧ DeA K G ys (((List.range i).flatMap fun u => (List.range (n - (u + 1))).map fun v => (u, u + 1 + v)).map ePr))
        ⟨_, _, _, _, _, [], rfl, sL, upd_same, .nil⟩ (fun i σ G hi hp => ?_) (fun σ G hp => ?_)⟩
      · obtain ⟨y7, y10, y11, y12, y13, ys, rfl, sG, hys, dys⟩ := hp
        have hin : i < n := by omega
        have e00 : (0 : Int) + (i : Int) = (i : Int) := Int.zero_add _
        rw [e00]
        have ej : ((n : Int) - ((i : Int) + 1)).toNat = n - (i + 1) := by omega
        refine ⟨_, rfl, _, rfl, _, _, rfl, rfl, _, rfl, (i : Int) + 1, (n : Int), rfl, ⟨by omega, by omega, by omega, by omega⟩, fun D hD => ?_⟩
        rw [ej]
        refine lc_data (K := K) (l := List.range (n - (i + 1))) (by rw [List.length_range]; exact walk_range (lo := (i : Int) + 1) (n := n - (i + 1))) ePr (fun v => some (i, i + 1 + v)) (fun _ _ => True.intro) hD (line' _ (by rw [List.length_range]; omega)) (fun j w xx G3 G4 ei2 s3 yy Ky Kn ky kn => ?_) (fun G3 zs s3 hzs hzl hdz => ?_)
        · obtain ⟨rfl, ex⟩ := yy
          have hjw : j = w := by
            have hl := (List.getElem?_eq_some_iff.mp ei2).1
            rw [List.length_range] at hl
            rw [List.getElem?_range hl] at ei2
            exact Option.some.inj ei2
          subst hjw
          have ex : xx = .int ((i + 1 + j : Nat) : Int) := by
            have ex : xx = .int ((i : Int) + 1 + (j : Int)) := ex
            rw [ex]
            congr 1
          subst ex
          refine ⟨rfl, _, rfl, _, rfl, (by show 2 ≤ sizeLine; decide), fun t ht => ky _ _ (i, i + 1 + j) rfl (same_new ht) (de_new ht (.two (.int _) (.int _)))⟩
        · have hysG := s3 _ _ hys
          have hyl : ys.length ≤ 1000 := by
            rw [dys.len, List.length_flatMap]
            have : ∀ (l : List Nat), ((l.map fun u => ((List.range (n - (u + 1))).map fun v => (u, u + 1 + v)).length).sum) ≤ l.length * n := by
              intro l
              induction l with
              | nil => simp
              | cons a l ih =>
                rw [List.map_cons, List.sum_cons, List.length_cons, Nat.succ_mul, List.length_map, List.length_range]
                omega
            have h1 := this (List.range i)
            rw [List.length_range] at h1
            have h2 : i * n ≤ 5 * 5 := Nat.mul_le_mul (by omega) (by omega)
            omega
          rw [List.length_range] at hzl
          refine ⟨L, D, ys, zs, rfl, rfl, hysG, hzs, line _ (by omega), ?_⟩
          have xu : Xt G3 (upd G3 L (.lst (ys ++ zs))) := xt_upd hysG trivial
          refine ⟨_, _, _, _, _, _, rfl, same_mut (sG.trans s3) hL, upd_same, ?_⟩
          rw [List.range_succ, List.flatMap_append, List.flatMap_singleton, List.map_append]
          have ef : ((List.range (n - (i + 1))).filterMap fun v => some (i, i + 1 + v)) = (List.range (n - (i + 1))).map fun v => (i, i + 1 + v) := by rw [List.filterMap_eq_map']
          rw [ef] at hdz
          exact ((dys.up s3).app hdz).xt xu
      · obtain ⟨y7, y10, y11, y12, y13, ys, rfl, sG, hys, dys⟩ := hp
        have ent : (n : Int).toNat = n := by omega
        rw [ent] at dys
        have dys : DeA K G ys ((prsOf n).map ePr) := dys
        have hyl : ys.length = (prsOf n).length := dys.len
        obtain ⟨p1, p2, p3⟩ := prsOf_ok hn5
        have hys0 : SqL K G L ys := .inl (.inl hys)
        refine ⟨by show 0 ≤ sizeLine; exact Nat.zero_le _, fun E hE => ?_⟩
        have sE := same_new (o := .lst []) hE
        refine ⟨_, rfl, _, rfl, _, _, rfl, rfl, s, ns, first + 2, rfl, (((s1.trans sG).trans sE).seq hs), _, rfl, L, ys, rfl, .inl (sE.seq hys0), _, ys.length, 12, rfl, by omega, by decide, by decide, fun p H2 ds s2 np hp hdl hdb => ?_⟩
        have hsd : SqL K H2 p (ds.map V.int) := .inl (.inl hp)
        have hEH : H2 E = some (.lst []) := s2 _ _ upd_same
        have sGE : Same G H2 := sE.trans s2
        have hnE : H1 E = none := sG.free hE
        refine ⟨_, rfl, L, ys, rfl, .inl (sGE.seq hys0), _, rfl, by omega, by omega, for_range (lo := 0) (n := (ys.length : Int).toNat) (fun i σ G5 => ∃ y10 y11 es, σ = [some (.ref s), some (.int first), some (.int most), some (.int kind), some (.int n), some (.ref f), some (.ref L), y7, some (.ref E), some (.ref p), y10, y11, y12, y13] ∧ Same H1 G5 ∧ But E H2 G5 ∧ G5 E = some (.lst es) ∧ es.length ≤ i ∧ DeA K G5 es ((((prsOf n).take i).zip (ds.take i)).filterMap (edOf kind) |>.map eEd))
          ⟨_, _, [], rfl, sG.trans sGE, But.refl _ _, hEH, Nat.le_refl _, .nil⟩ (fun i σ G5 hi hq => ?_) (fun σ G5 hq => ?_)⟩
        · obtain ⟨y10, y11, es, rfl, s5, b5, hes, hel, des⟩ := hq
          have hi2 : i < (prsOf n).length := by omega
          have hi3 : i < ds.length := by omega
          have e00 : (0 : Int) + (i : Int) = (i : Int) := Int.zero_add _
          rw [e00]
          have npE : p ≠ E := fun z => by rw [z, upd_same] at np; cases np
          have nLE : L ≠ E := fun z => by rw [z] at hys; rw [hys] at hE; cases hE
          have hsd5 : SqL K G5 p (ds.map V.int) := sqL_but b5 npE hsd
          have hys5 : SqL K G5 L ys := sqL_but b5 nLE (sGE.seq hys0)
          have x5 : Xt H2 G5 := xt_but hEH trivial b5
          have dsi := hdb ds[i] (List.getElem_mem hi3)
          obtain ⟨j, hj, hj12⟩ : ∃ j : Nat, ds[i] = (j : Int) ∧ j < 12 := ⟨ds[i].toNat, by omega, by omega⟩
          have gd : ds.getD i 0 = (j : Int) := by rw [List.getD, List.getElem?_eq_getElem hi3, ← hj]; rfl
          have hcj : atI (coup.map V.int) (j : Int) = some (.int (coup.getD j 0)) := at_st hj12
          obtain ⟨pv, epv, dpv⟩ := dys.get (i := i) (d := ePr (prsOf n)[i]) (by rw [List.getElem?_map, List.getElem?_eq_getElem hi2]; rfl)
          have ezip : edOf kind ((prsOf n)[i], ds[i]) = edOf kind ((prsOf n)[i], ds[i]) := rfl
          have etake : (((prsOf n).take (i + 1)).zip (ds.take (i + 1))).filterMap (edOf kind) = (((prsOf n).take i).zip (ds.take i)).filterMap (edOf kind) ++ [((prsOf n)[i], ds[i])].filterMap (edOf kind) := by
            rw [List.take_succ_eq_append_getElem hi2, List.take_succ_eq_append_getElem hi3, List.zip_append (by simp; omega), List.filterMap_append]
            rfl
          have ejt : (ds[i]).toNat = j := by omega
          refine ⟨_, rfl, _, rfl, _, rfl, (by show 12 ≤ sizeLine; decide), fun tc htc => ?_⟩
          have stc := same_new (o := .tup (coup.map V.int)) htc
          refine ⟨_, rfl, _, rfl, p, _, _, _, rfl, rfl, stc.seq hsd5, at_st hi3, tc, coup.map V.int, _, _, rfl, congrArg V.int gd, .inl (.inl upd_same), hcj, ?_⟩
          refine ⟨_, rfl, rfl, _, rfl, ?_⟩
          have hdn : (!decide (V.int (coup.getD j 0) = V.int 0)) = !decide (coup.getD j 0 = 0) := by rw [dec_int]
          rw [hdn]
          by_cases hc0 : coup.getD j 0 = 0
          · rw [decide_eq_true hc0]
            refine ⟨some (.int (i : Int)), some (.int (coup.getD j 0)), es, rfl, s5.trans stc, b5.trans (but_same stc), stc _ _ hes, by omega, ?_⟩
            rw [etake]
            have : [((prsOf n)[i], ds[i])].filterMap (edOf kind) = [] := by
              rw [List.filterMap_cons_none]
              · rfl
              · unfold edOf
                rw [ejt, if_pos hc0]
            rw [this, List.append_nil]
            exact des.up stc
          · rw [decide_eq_false hc0]
            have hes6 := stc _ _ hes
            have hys6 := stc.seq hys5
            have dpv6 := ((dpv.up sGE).xt x5).up stc
            obtain ⟨pa, ps, rfl, hps, dps⟩ := dpv6.tup_of
            have ez := DeA.ints_of (ns := [((prsOf n)[i].1 : Int), (prsOf n)[i].2]) dps
            subst ez
            refine ⟨_, rfl, .inl ⟨rfl, _, .inl (.inl hes6)⟩, ?_⟩
            refine ⟨_, rfl, _, rfl, L, ys, _, _, rfl, rfl, hys6, atI_nat epv, pa, _, 0, _, rfl, rfl, hps, rfl, ?_⟩
            refine ⟨_, rfl, _, rfl, L, ys, _, _, rfl, rfl, hys6, atI_nat epv, pa, _, 1, _, rfl, rfl, hps, rfl, ?_⟩
            -- the coupling
            refine ⟨_, rfl, (by show 2 ≤ sizeLine; decide), fun tk htk => ?_⟩
            have stk := same_new (o := .tup [.int 1, .int 3]) htk
            refine ⟨tk, [.int 1, .int 3], rfl, .inr (.inl (.inl upd_same)), rfl, rfl, _, rfl, ?_⟩
            have fin : ∀ c : Int, c = (if kind = 1 ∨ kind = 3 then (if coup.getD j 0 < 0 then -coup.getD j 0 else coup.getD j 0) else coup.getD j 0) → ∀ r, (upd (upd G5 tc (.tup (coup.map V.int))) tk (.tup [.int 1, .int 3])) r = none →
                ∃ y10 y11 es', [some (V.ref s), some (.int first), some (.int most), some (.int kind), some (.int n), some (.ref f), some (.ref L), y7, some (.ref E), some (.ref p), some (.int (i : Int)), some (.int (coup.getD j 0)), y12, y13] = [some (V.ref s), some (.int first), some (.int most), some (.int kind), some (.int n), some (.ref f), some (.ref L), y7, some (.ref E), some (.ref p), y10, y11, y12, y13] ∧
                Same H1 (upd (upd (upd (upd G5 tc (.tup (coup.map V.int))) tk (.tup [.int 1, .int 3])) r (.tup [.int (prsOf n)[i].1, .int (prsOf n)[i].2, .int c])) E (.lst (es ++ [.ref r]))) ∧
                But E H2 (upd (upd (upd (upd G5 tc (.tup (coup.map V.int))) tk (.tup [.int 1, .int 3])) r (.tup [.int (prsOf n)[i].1, .int (prsOf n)[i].2, .int c])) E (.lst (es ++ [.ref r]))) ∧
                (upd (upd (upd (upd G5 tc (.tup (coup.map V.int))) tk (.tup [.int 1, .int 3])) r (.tup [.int (prsOf n)[i].1, .int (prsOf n)[i].2, .int c])) E (.lst (es ++ [.ref r]))) E = some (.lst es') ∧ es'.length ≤ i + 1 ∧
                DeA K (upd (upd (upd (upd G5 tc (.tup (coup.map V.int))) tk (.tup [.int 1, .int 3])) r (.tup [.int (prsOf n)[i].1, .int (prsOf n)[i].2, .int c])) E (.lst (es ++ [.ref r]))) es' ((((prsOf n).take (i + 1)).zip (ds.take (i + 1))).filterMap (edOf kind) |>.map eEd) := by
              intro c hc r hr
              have sr := same_new (o := .tup [.int (prsOf n)[i].1, .int (prsOf n)[i].2, .int c]) hr
              have sA := (stc.trans stk).trans sr
              have hesA := sA _ _ hes
              have xu := xt_upd (o := .lst (es ++ [.ref r])) hesA trivial
              refine ⟨_, _, es ++ [.ref r], rfl, same_mut (s5.trans sA) hnE, (b5.trans (but_same sA)).trans but_upd, upd_same, by rw [List.length_append]; show es.length + 1 ≤ i + 1; omega, ?_⟩
              rw [etake, List.map_append]
              refine ((des.up sA).app ?_).xt xu
              have : [((prsOf n)[i], ds[i])].filterMap (edOf kind) = [((prsOf n)[i].1, (prsOf n)[i].2, c)] := by
                rw [List.filterMap_cons_some (b := ((prsOf n)[i].1, (prsOf n)[i].2, c))]
                · rfl
                · unfold edOf
                  rw [ejt, if_neg hc0, hc]
              rw [this]
              exact .one (de_new hr (.three (.int _) (.int _) (.int _)))
            have hin : inV (.int kind) [.int 1, .int 3] = decide (kind = 1 ∨ kind = 3) := by
              show ((1 : Int) == kind || ((3 : Int) == kind || false)) = _
              by_cases h1 : kind = 1
              · subst h1
                rfl
              · by_cases h3 : kind = 3
                · subst h3
                  rfl
                · have e1 : ((1 : Int) == kind) = false := by simp; omega
                  have e2 : ((3 : Int) == kind) = false := by simp; omega
                  rw [e1, e2, decide_eq_false (fun z => z.elim h1 h3)]
                  rfl
            show if inV (.int kind) [.int 1, .int 3] = true then _ else _
            rw [hin]
            by_cases hk : kind = 1 ∨ kind = 3
            · rw [decide_eq_true hk]
              refine ⟨_, rfl, _, rfl, (by show 3 ≤ sizeLine; decide), fun r hr2 => ⟨E, es, _, rfl, rfl, (by rw [upd_ne (fun z => by rw [← z] at hr2; rw [stk _ _ hes6] at hr2; cases hr2)]; exact stk _ _ hes6), line' _ (by omega), ?_⟩⟩
              exact fin _ (by rw [if_pos hk]) r hr2
            · rw [decide_eq_false hk]
              refine ⟨_, rfl, (by show 3 ≤ sizeLine; decide), fun r hr2 => ⟨E, es, _, rfl, rfl, (by rw [upd_ne (fun z => by rw [← z] at hr2; rw [stk _ _ hes6] at hr2; cases hr2)]; exact stk _ _ hes6), line' _ (by omega), ?_⟩⟩
              exact fin _ (by rw [if_neg hk]) r hr2
        · obtain ⟨y10, y11, es, rfl, s5, b5, hes, hel, des⟩ := hq
          have ent : (ys.length : Int).toNat = (prsOf n).length := by omega
          rw [ent, List.take_length, List.take_of_length_le (by omega)] at des
          obtain ⟨q1, q2, q3⟩ := edsOf_ok (kind := kind) (ds := ds) hn5
          refine ⟨_, rfl, _, rfl, (by show 2 ≤ sizeLine; decide), fun t ht => ?_⟩
          have st := same_new (o := .tup [.ref f, .ref E]) ht
          refine k t f E fs (edsOf kind n ds) _ ((s1.trans s5).trans st) (.inl (.inl upd_same)) (st _ _ (s5 _ _ hfs)) ⟨es, st _ _ hes, des.up st⟩ ⟨by omega, by omega, hfb, hfz, q1, fun e he => ?_, fun hk e he => ?_, q3⟩
          · have := q2 e he
            rw [hfl]
            exact ⟨this.1, this.2.1, this.2.2.1, this.2.2.2.1, this.2.2.2.2.1⟩
          · exact (q2 e he).2.2.2.2.2 hk
end
end K49
namespace K49
open PySem PySem.Spec PyProof.Rows L2
section
variable {P : Program} {w : World} {K : PySem.W.Frag} {mg : Str → Option Value} {base : Heap}
def sp_l_weights (K : PySem.W.Frag) : Sp := fun vs H Q _ => ∃ (f e : Addr) (fs : List Int) (es : List (Nat × Nat × Int)) (u v : V) (x y : Rat), vs = [.ref f, .ref e, u, v] ∧ SqL K H f (fs.map .int) ∧ Ls K H e (es.map eEd) ∧ De K H u (eF x) ∧ De K H v (eF y) ∧ Good fs es x y ∧ PwOk fs es x y ∧
  ∀ p H', Same H H' → H p = none → Ls K H' p ((wts fs es x y).map eF) → Q (.ref p) H'
theorem ok_l_weights (T : Txt K mg) : FnOk P w K mg base CX0 5 T.d_l_weights.f T.d_l_weights.d ["_law_fields", "_law_edges", "_law_x", "_law_y"] (sp_l_weights K) := by
  refine T.d_l_weights.F.ok sc_l_weights (fun vs H Q E h => ?_) (fun cdv A outer s H vs Q E hr h => ?_)
  · obtain ⟨f, e, fs, es, u, v, x, y, rfl, _⟩ := h
    rfl
  · obtain ⟨f, e, fs, es, u, v, x, y, rfl, hf, he, hu, hv, G, W, k⟩ := h
    refine ⟨_, (pss_cons
        (ps_set (i := 4) sc_l_weights.nd rfl (.inl rfl) (pe_lst pa_nil))
        (pss_cons
        (ps_for PassesOwn.never rfl (pi_list (pe_call (ok_l_states T) (hr.mono (by decide)) (by rfl) T.d_l_states.g T.d_l_states.F.kp T.d_l_states.b .nil pass0 (pa_cons (pe_callB call_len_seq (by rfl) T.m_len PySem.boot_len (pa_cons (pv 0) pa_nil)) pa_nil))) (pg_name (i := 5) sc_l_weights.nd rfl (.inl rfl)) (pss_one
        (ps_expr (pe_bm PySem.F.plainAttrs_list PySem.F.slot_list_append PySem.F.type_list_append mt_append (pv 4) (pa_cons (pe_call (ok_l_mul T) (hr.mono (by decide)) (by rfl) T.d_l_mul.g T.d_l_mul.F.kp T.d_l_mul.b .nil pass0 (pa_cons (pe_call (ok_l_pow T) hr (by rfl) T.d_l_pow.g T.d_l_pow.F.kp T.d_l_pow.b .nil pass0 (pa_cons (pv 2) (pa_cons (pe_call (ok_l_cost T) (hr.mono (by decide)) (by rfl) T.d_l_cost.g T.d_l_cost.F.kp T.d_l_cost.b .nil pass0 (pa_cons (pv 0) (pa_cons (pv 1) (pa_cons (pv 5) pa_nil)))) pa_nil))) (pa_cons (pe_call (ok_l_pow T) hr (by rfl) T.d_l_pow.g T.d_l_pow.F.kp T.d_l_pow.b .nil pass0 (pa_cons (pv 3) (pa_cons (pe_callB (cr_sumT rfl) (by rfl) T.m_sum (by decide +kernel) (pa_cons (pv 5) pa_nil)) pa_nil))) pa_nil))) pa_nil)))))
        (pss_one
        (ps_ret (pv 4))))), ?_⟩
    have h5 := G.n5
    have h32 : 2 ^ fs.length ≤ 32 := Nat.pow_le_pow_right (n := 2) (by decide) h5
    refine ⟨by show 0 ≤ sizeLine; exact Nat.zero_le _, fun L hL => ?_⟩
    have sL := same_new (o := .lst []) hL
    refine ⟨_, rfl, f, _, rfl, .inl (sL.seq hf), fs.length, (by rw [List.length_map]; rfl), by omega, fun p H1 s1 np hl => ⟨p, rfl, ?_⟩⟩
    obtain ⟨xs, hxs, dxs⟩ := hl
    have hlen : xs.length = (sts fs.length).length := dxs.len
    have sH1 := sL.trans s1
    refine ⟨⟨xs, hxs⟩, for_data (l := sts fs.length) (by rw [← hlen]; exact walk_list (K := K) (xs := xs)) (fun pre σ G => ∃ y5 ys, σ = [some (.ref f), some (.ref e), some u, some v, some (.ref L), y5] ∧ Same H G ∧ But L H1 G ∧ G L = some (.lst ys) ∧ ys.length ≤ pre.length ∧ DeA K G ys ((pre.map (wt fs es x y)).map eF))
      ⟨_, [], rfl, sH1, But.refl _ _, s1 _ _ upd_same, Nat.le_refl _, .nil⟩ (fun pre σ G p => ?_) (fun pre s post xv σ G G2 el ei p yy => ?_) (fun σ G p => ?_)⟩
    · obtain ⟨y5, ys, rfl, _, bt, _⟩ := p
      exact sqL_but bt (fun z => by rw [z, upd_same] at np; cases np) hxs
    · obtain ⟨y5, ys, rfl, sG, bt, hys, hyl, dys⟩ := p
      obtain ⟨rfl, ex⟩ := yy
      have hLH : H1 L = some (.lst []) := s1 _ _ upd_same
      have dst : De K G2 xv (eS s) := (dxs.at_ ex ei).xt (xt_but hLH trivial bt)
      have hm := List.mem_of_getElem? ei
      have hsl := sts_mem _ _ hm
      have hpre : pre.length ≤ 32 := by
        have h1 := congrArg List.length el
        rw [sts_len, List.length_append] at h1
        omega
      refine ⟨_, rfl, .inl ⟨rfl, _, .inl (.inl hys)⟩, _, rfl, _, rfl, _, rfl, _, rfl, f, e, xv, fs, es, s, rfl, sG.seq hf, he.up sG, dst, hsl.1, by omega, hsl.2, (fun a ha => by have := G.fb a ha; omega), (fun a ha => by have := G.ed a ha; omega), ?_⟩
      obtain ⟨b, rfl, hb⟩ := eS_of dst
      refine ⟨u, x, _, rfl, hu.up sG, G.x0, G.c40 hm, W.x s hm, Sb_sz G.bx, fun z1 H3 e3 d1 => ?_⟩
      refine ⟨_, rfl, _, rfl, b, s, rfl, sqT_xt (xt_same e3) hb, ?_⟩
      refine ⟨v, y, _, rfl, (hv.up sG).up e3, G.y0, G.u40 hm, W.y s hm, Sb_sz G.by_, fun z2 H4 e4 d2 => ?_⟩
      refine ⟨z1, z2, _, _, rfl, d1.up e4, d2, G.szx hm, G.szy hm, trivial, fun z3 H5 e5 d3 => ?_⟩
      have sA := (e3.trans e4).trans e5
      have hysA := sA _ _ hys
      refine ⟨L, ys, z3, rfl, rfl, hysA, line' _ (by omega), ?_⟩
      have xu := xt_upd (o := .lst (ys ++ [z3])) hysA trivial
      refine ⟨_, _, rfl, same_mut (sG.trans sA) hL, (bt.trans (but_same sA)).trans but_upd, upd_same, by simp; omega, ?_⟩
      rw [List.map_append, List.map_append]
      exact ((dys.up sA).snoc d3).xt xu
    · obtain ⟨y5, ys, rfl, sG, bt, hys, hyl, dys⟩ := p
      exact ⟨_, rfl, k L G sG hL ⟨ys, .inl (.inl hys), dys⟩⟩
def sp_l_shares (K : PySem.W.Frag) : Sp := fun vs H Q _ => ∃ (a : Addr) (qs : List Rat), vs = [.ref a] ∧ Ls K H a (qs.map eF) ∧ SzAll qs ∧ 0 < qs.sum ∧ qs.length ≤ 64 ∧ ∀ z H', Same H H' → De K H' z (eD (dist qs)) → Q z H'
theorem sz_inv {q : Rat} (h : 0 < q) (s : Sz q) : Sz (1 / q) := by
  obtain ⟨e1, e2⟩ := inv_parts q h
  have hn := num_pos' h
  have h1 := s.1
  have h2 := s.2
  refine ⟨?_, ?_⟩
  · rw [e1]
    exact h2
  · omega
theorem ok_l_shares (T : Txt K mg) : FnOk P w K mg base CX0 4 T.d_l_shares.f T.d_l_shares.d ["_law_weights_here"] (sp_l_shares K) := by
  refine T.d_l_shares.F.ok sc_l_shares (fun vs H Q E h => ?_) (fun cdv A outer s H vs Q E hr h => ?_)
  · obtain ⟨a, qs, rfl, _⟩ := h
    rfl
  · obtain ⟨a, qs, rfl, hl, hs, h0, h64, k⟩ := h
    refine ⟨_, (pss_cons
        (ps_set (i := 1) sc_l_shares.nd rfl (.inr rfl) (pe_tup (pa_cons pe_int (pa_cons pe_int pa_nil))))
        (pss_cons
        (ps_for PassesOwn.never rfl (pi_list (pv 0)) (pg_name (i := 2) sc_l_shares.nd rfl (.inl rfl)) (pss_one
        (ps_set (i := 1) sc_l_shares.nd rfl (.inr rfl) (pe_call (ok_l_add T) hr (by rfl) T.d_l_add.g T.d_l_add.F.kp T.d_l_add.b .nil pass0 (pa_cons (pv 1) (pa_cons (pv 2) pa_nil))))))
        (pss_one
        (ps_ret (pe_callTy call_tuple_of (by rfl) T.m_tuple (by decide +kernel) (pa_cons (pe_lc (own := [("_law_weight", 2)]) rfl sc_l_shares.nd (pi_list (pv 0)) (blkOk_by (N := ["_law_weights_here", "_law_total", "_law_weight"]) (sc := defScope s_l_shares) (own := [("_law_weight", 2)]) (by decide +kernel)) (fun _ _ _ _ _ => (pg_name (i := 2) sc_l_shares.nd rfl (by first | exact .inl rfl | exact .inr rfl))) (fun _ _ _ _ _ => pts_nil) (fun _ _ _ _ _ => (pe_call (ok_l_mul T) hr (by rfl) T.d_l_mul.g T.d_l_mul.F.kp T.d_l_mul.b .nil pass0 (pa_cons (pv 2) (pa_cons (pe_call (ok_l_frac T) (hr.mono (by decide)) (by rfl) T.d_l_frac.g T.d_l_frac.F.kp T.d_l_frac.b .nil pass0 (pa_cons (pe_ix (ix_tupK (K := K) rfl) (pv 1) pe_int (fun _ _ => rfl)) (pa_cons (pe_ix (ix_tupK (K := K) rfl) (pv 1) pe_int (fun _ _ => rfl)) pa_nil))) pa_nil))))) pa_nil)))))), ?_⟩
    obtain ⟨xs, hx, hd⟩ := hl
    have hlen : xs.length = qs.length := hd.len
    refine ⟨by show 2 ≤ sizeLine; decide, fun t ht => ?_⟩
    have st := same_new (o := .tup [.int 0, .int 1]) ht
    refine ⟨.ref a, rfl, a, rfl, ⟨xs, st.seq hx⟩, for_data (l := qs) (by rw [← hlen]; exact walk_list (K := K) (xs := xs)) (fun pre σ H' => ∃ z y, σ = [some (.ref a), some z, y] ∧ Same H H' ∧ De K H' z (eF pre.sum)) ⟨_, none, rfl, st, de_new ht (.two (.int 0) (.int 1))⟩
      (fun pre σ H' p => ?_) (fun pre q post x σ H' H2 el ei p y => ?_) (fun σ H' p => ?_)⟩
    · obtain ⟨z, y, rfl, e, _⟩ := p
      exact e.seq hx
    · obtain ⟨z, y0, rfl, e, dz⟩ := p
      obtain ⟨rfl, ex⟩ := y
      have dx := (hd.at_ ex ei).up e
      have h1 : Sz pre.sum := by
        have := hs.1 pre.length
        rw [el, List.take_left] at this
        exact this
      refine ⟨_, rfl, _, rfl, _, _, _, _, rfl, dz, dx, h1, hs.2 q (by rw [el]; simp), trivial, fun z2 H3 e3 d3 => ⟨z2, _, rfl, e.trans e3, ?_⟩⟩
      rw [sum_snoc]
      exact d3
    · obtain ⟨z, y, rfl, e, dz⟩ := p
      have hxe := e.seq hx
      obtain ⟨ta, rfl, hta⟩ := eF_of dz
      have sT : Sz qs.sum := by
        have := hs.1 qs.length
        rw [List.take_length] at this
        exact this
      refine ⟨_, rfl, a, rfl, ⟨xs, hxe⟩, fun D hD => ?_⟩
      refine lc_data (K := K) (l := qs) (by rw [← hlen]; exact walk_list (K := K) (xs := xs)) eF (fun q => some (q / qs.sum)) (fun G2 s2 => s2.seq hxe) hD (line' _ (by omega)) (fun i q c G2 G3 ei s3 yy Ky Kn ky kn => ?_) (fun G2 ys s3 hys hyl hd2 => ?_)
      · obtain ⟨rfl, ex⟩ := yy
        have dc := (hd.at_ ex ei).up (e.trans s3)
        have hm := List.mem_of_getElem? ei
        have ht3 := sqT_xt (xt_same s3) hta
        refine ⟨rfl, _, rfl, _, rfl, ta, _, 1, _, rfl, rfl, ht3, rfl, _, rfl, ta, _, 0, _, rfl, rfl, ht3, rfl, _, _, rfl, num_pos' h0, Nat.lt_of_lt_of_le sT.n (Nat.pow_le_pow_right (by decide) (by decide)), fun z1 H4 e4 d1 => ?_⟩
        rw [inv_self h0] at d1
        refine ⟨c, z1, q, _, rfl, dc.up e4, d1, hs.2 q hm, sz_inv h0 sT, trivial, fun z2 H5 e5 d2 => ky z2 H5 _ rfl (e4.trans e5) ?_⟩
        have eq : q * (1 / qs.sum) = q / qs.sum := by rw [Rat.div_def, Rat.div_def, Rat.one_mul]
        show De K H5 z2 (eF (q / qs.sum))
        rw [← eq]
        exact d2
      · refine ⟨D, ys, rfl, .inl ⟨.inl (.inl hys), fun t2 ht2 => k _ _ ((e.trans s3).trans (same_new ht2)) (de_new ht2 ?_)⟩⟩
        have e1 : (qs.filterMap fun q => some (q / qs.sum)) = dist qs := by
          unfold dist
          rw [List.filterMap_eq_map']
        rw [← e1]
        exact hd2
/-! ### tuples of tuples of ints -/
def TI : Nat → PyData → Prop
  | 0, _ => False
  | d + 1, pd => (∃ i, pd = .int i) ∨ ∃ ds, pd = .tuple ds ∧ ds.length ≤ 64 ∧ ∀ x ∈ ds, TI d x
def spT (K : PySem.W.Frag) (Pd : PyData → Prop) : Sp := fun vs H Q _ => ∃ (v : V) (pd : PyData), vs = [v] ∧ De K H v pd ∧ Pd pd ∧ ∀ H', Same H H' → Q (.bl true) H'
theorem ty_tup {H : Hp} {a : Addr} {xs : List V} (h : SqT K H a xs) : TyX K H (.ref a) (.type "tuple") := by
  rcases h with (h | ⟨o, h⟩) | ⟨o, _, _, h, c, _⟩
  · exact .base (.tup h)
  · exact .fTuple h
  · exact .kTuple h c
theorem tuples_step (T : Txt K mg) (d : Nat) (ih : FnOk P w K mg base CX0 d T.d_l_tuples.f T.d_l_tuples.d ["_law_thing"] (spT K (TI d))) : FnOk P w K mg base CX0 (d + 1) T.d_l_tuples.f T.d_l_tuples.d ["_law_thing"] (spT K (TI (d + 1))) := by
  refine T.d_l_tuples.F.ok sc_l_tuples (fun vs H Q E h => ?_) (fun cdv A outer s H vs Q E hr h => ?_)
  · obtain ⟨v, pd, rfl, _⟩ := h
    rfl
  · obtain ⟨v, pd, rfl, dv, hp, k⟩ := h
    refine ⟨_, (pss_cons
        (ps_if (pt_val (pe_callB call_isi (by rfl) T.m_isinstance (by decide +kernel) (pa_cons (pv 0) (pa_cons (pe_bltn (v := .ty "tuple") (by rfl) T.m_tuple (by decide +kernel) rfl) pa_nil)))) (pss_one
        (ps_ret (pe_callB (cr_all rfl) (by rfl) T.m_all (by decide +kernel) (pa_cons (pe_lc (own := [("_law_part", 1)]) rfl sc_l_tuples.nd (pi_tup (pv 0)) (blkOk_by (N := ["_law_thing", "_law_part"]) (sc := defScope s_l_tuples) (own := [("_law_part", 1)]) (by decide +kernel)) (fun _ _ _ _ _ => (pg_name (i := 1) sc_l_tuples.nd rfl (by first | exact .inl rfl | exact .inr rfl))) (fun _ _ _ _ _ => pts_nil) (fun _ _ _ _ _ => (pe_call ih hr (by rfl) T.d_l_tuples.g T.d_l_tuples.F.kp T.d_l_tuples.b .nil pass0 (pa_cons (pv 1) pa_nil)))) pa_nil)))) pss_nil)
        (pss_one
        (ps_ret (pe_and (pe_callB call_isi (by rfl) T.m_isinstance (by decide +kernel) (pa_cons (pv 0) (pa_cons (pe_bltn (v := .ty "int") (by rfl) T.m_int (by decide +kernel) rfl) pa_nil))) (pe_one (pe_not (pe_callB call_isi (by rfl) T.m_isinstance (by decide +kernel) (pa_cons (pv 0) (pa_cons (pe_bltn (v := .ty "bool") (by rfl) T.m_bool (by decide +kernel) rfl) pa_nil))))))))), ?_⟩
    rcases hp with ⟨i, rfl⟩ | ⟨ds, rfl, hl, hds⟩
    · have ev := dv.int_of
      subst ev
      refine ⟨_, rfl, _, _, _, _, _, rfl, .ty _, .base (.int i), kit_ty (r := false) (by decide +kernel), _, rfl, ?_⟩
      refine ⟨_, rfl, _, _, _, _, _, rfl, .ty _, .base (.int i), kit_ty (r := true) (by decide +kernel), ?_⟩
      refine ⟨_, rfl, ?_⟩
      refine ⟨_, rfl, _, _, _, _, _, rfl, .ty _, .base (.int i), kit_ty (r := false) (by decide +kernel), _, rfl, k H (Same.refl _)⟩
    · obtain ⟨a, xs, rfl, hs, ha⟩ := dv.tup_of
      have hxl : xs.length = ds.length := ha.length
      refine ⟨_, rfl, _, _, _, _, _, rfl, .ty _, ty_tup hs, kit_ty (r := true) (by decide +kernel), _, rfl, ?_⟩
      refine ⟨_, rfl, a, rfl, ⟨xs, hs⟩, fun D hD => ?_⟩
      refine lc_data (K := K) (l := ds) (by rw [← hxl]; exact walk_tup (K := K) (xs := xs)) .bool (fun _ => some true) (fun G sG => sqT_xt (xt_same sG) hs) hD (line' _ (by omega)) (fun i p x G G' ei sG y Ky Kn ky kn => ?_) (fun G ys sG hys hyl hd => ?_)
      · obtain ⟨rfl, ex⟩ := y
        obtain ⟨d2, e1, dx⟩ := ha.tog ex
        rw [ei] at e1
        cases e1
        exact ⟨rfl, _, rfl, x, p, rfl, dx.up sG, hds p (List.mem_of_getElem? ei), fun H2 s2 => ky _ _ true rfl s2 (.bl true)⟩
      · have ey := bls_of hd
        refine ⟨D, _, rfl, .inl (.inl (by rw [hys, ey])), ?_⟩
        have e2 : ((ds.filterMap fun _ => some true).all id) = true := by
          rw [List.all_eq_true]
          intro b hb
          obtain ⟨f, hf, e⟩ := List.mem_filterMap.mp hb
          cases e
          rfl
        rw [e2]
        exact k G sG
theorem ok_tuplesN (T : Txt K mg) : ∀ d, FnOk P w K mg base CX0 d T.d_l_tuples.f T.d_l_tuples.d ["_law_thing"] (spT K (TI d))
  | 0 => ⟨fun vs H Q E h => by obtain ⟨v, pd, rfl, _⟩ := h; rfl, fun A outer s H args us vs Q E _ _ _ _ h => by obtain ⟨v, pd, _, _, z, _⟩ := h; exact z.elim⟩
  | d + 1 => tuples_step T d (ok_tuplesN T d)
theorem ok_l_tuples (T : Txt K mg) : FnOk P w K mg base CX0 7 T.d_l_tuples.f T.d_l_tuples.d ["_law_thing"] (spT K (TI 7)) := ok_tuplesN T 7
theorem ti_eT {N : Nat} {R : Nat → Nat → Rat} (hN : N ≤ 32) : TI 7 (eT (tab N R)) := by
  refine .inr ⟨_, rfl, ?_, fun x hx => ?_⟩
  · unfold tab
    rw [List.length_map, List.length_map, List.length_range]
    omega
  · obtain ⟨r, hr, rfl⟩ := List.mem_map.mp hx
    unfold tab at hr
    obtain ⟨i, _, rfl⟩ := List.mem_map.mp hr
    refine .inr ⟨_, rfl, ?_, fun x hx => ?_⟩
    · rw [List.length_map]
      have := row_len N (R i)
      omega
    · obtain ⟨p, _, rfl⟩ := List.mem_map.mp hx
      refine .inr ⟨_, rfl, (by show 2 ≤ 64; decide), fun x hx => ?_⟩
      rcases List.mem_cons.mp hx with rfl | hx
      · exact .inl ⟨_, rfl⟩
      · rw [List.mem_singleton.mp hx]
        refine .inr ⟨_, rfl, (by show 2 ≤ 64; decide), fun x hx => ?_⟩
        rcases List.mem_cons.mp hx with rfl | hx
        · exact .inl ⟨_, rfl⟩
        · rw [List.mem_singleton.mp hx]
          exact .inl ⟨_, rfl⟩
def sp_l_are_rows (K : PySem.W.Frag) : Sp := fun vs H Q _ => ∃ (v : V) (N : Nat) (R : Nat → Nat → Rat), vs = [v, .int N] ∧ De K H v (eT (tab N R)) ∧ N ≤ 32 ∧ RowOk N R ∧ ∀ H', Same H H' → Q (.bl true) H'
theorem ok_l_are_rows (T : Txt K mg) : FnOk P w K mg base CX0 8 T.d_l_are_rows.f T.d_l_are_rows.d ["_law_table", "_law_count"] (sp_l_are_rows K) := by
  refine T.d_l_are_rows.F.ok sc_l_are_rows (fun vs H Q E h => ?_) (fun cdv A outer s H vs Q E hr h => ?_)
  · obtain ⟨v, N, R, rfl, _⟩ := h
    rfl
  · obtain ⟨v, N, R, rfl, hv, hN, ok, k⟩ := h
    refine ⟨_, (pss_cons
        (ps_if (PW.pt (pw_or (pt_not (pt_val (pe_callB call_isi (by rfl) T.m_isinstance (by decide +kernel) (pa_cons (pv 0) (pa_cons (pe_bltn (v := .ty "tuple") (by rfl) T.m_tuple (by decide +kernel) rfl) pa_nil))))) (pw_or (pt_cmpR op_ne (pe_callB call_len_seq (by rfl) T.m_len PySem.boot_len (pa_cons (pv 0) pa_nil)) (pv 1) (nomark _)) (pw_or1 (pt_not (pt_val (pe_call (ok_l_tuples T) hr (by rfl) T.d_l_tuples.g T.d_l_tuples.F.kp T.d_l_tuples.b .nil pass0 (pa_cons (pv 0) pa_nil)))))))) (pss_one
        (ps_ret pe_bl)) pss_nil)
        (pss_cons
        (ps_for PassesOwn.never rfl (pi_tup (pv 0)) (pg_name (i := 2) sc_l_are_rows.nd rfl (.inl rfl)) (pss_cons
        (ps_set (i := 3) sc_l_are_rows.nd rfl (.inl rfl) (pe_tup (pa_cons pe_int (pa_cons pe_int pa_nil))))
        (pss_cons
        (ps_set (i := 4) sc_l_are_rows.nd rfl (.inl rfl) (pe_un un_neg pe_int))
        (pss_cons
        (ps_for PassesOwn.never rfl (pi_tup (pv 2)) (pg_tup rfl (pgs_cons (pg_name (i := 5) sc_l_are_rows.nd rfl (.inl rfl)) (pgs_cons (pg_name (i := 6) sc_l_are_rows.nd rfl (.inl rfl)) pgs_nil))) (pss_cons
        (ps_if (PW.pt (pw_or (pt_cmpR op_le (pv 5) (pv 4) (nomark _)) (pw_or (pt_cmpR op_ge (pv 5) (pv 1) (nomark _)) (pw_or (pt_cmpR op_lt (pe_ix ix_tup (pv 6) pe_int (fun _ _ => rfl)) pe_int (nomark _)) (pw_or1 (pt_cmpR (op_neD hr.units) (pe_call (ok_l_frac T) (hr.mono (by decide)) (by rfl) T.d_l_frac.g T.d_l_frac.F.kp T.d_l_frac.b .nil pass0 (pa_cons (pe_ix ix_tup (pv 6) pe_int (fun _ _ => rfl)) (pa_cons (pe_ix ix_tup (pv 6) pe_int (fun _ _ => rfl)) pa_nil))) (pv 6) (nomark _))))))) (pss_one
        (ps_ret pe_bl)) pss_nil)
        (pss_cons
        (ps_set (i := 4) sc_l_are_rows.nd rfl (.inl rfl) (pv 5))
        (pss_one
        (ps_set (i := 3) sc_l_are_rows.nd rfl (.inl rfl) (pe_call (ok_l_add T) (hr.mono (by decide)) (by rfl) T.d_l_add.g T.d_l_add.F.kp T.d_l_add.b .nil pass0 (pa_cons (pv 3) (pa_cons (pv 6) pa_nil))))))))
        (pss_one
        (ps_if (pt_cmpR (op_neD hr.units) (pv 3) (pe_tup (pa_cons pe_int (pa_cons pe_int pa_nil))) (nomark _)) (pss_one
        (ps_ret pe_bl)) pss_nil))))))
        (pss_one
        (ps_ret pe_bl)))), ?_⟩
    obtain ⟨ta, ts, rfl, hts, dts⟩ := eT_of hv
    have lt : ts.length = N := by rw [dts.len]; unfold tab; rw [List.length_map, List.length_range]
    refine ⟨_, rfl, _, _, _, _, _, rfl, .ty _, ty_tup hts, kit_ty (r := true) (by decide +kernel), _, rfl, ?_⟩
    refine ⟨_, rfl, ta, _, rfl, .inr hts, _, rfl, rfl, _, rfl, ?_⟩
    rw [dec_int, decide_eq_true (by omega)]
    refine ⟨_, rfl, _, _, rfl, hv, ti_eT hN, fun H1 s1 => ⟨_, rfl, ?_⟩⟩
    have hts1 := sqT_xt (xt_same s1) hts
    refine ⟨_, rfl, ta, rfl, ⟨ts, hts1⟩, ?_⟩
    refine for_data (l := List.range N) (by rw [List.length_range, ← lt]; exact walk_tup (K := K) (xs := ts)) (fun pre σ G => ∃ y2 y3 y4 y5 y6, σ = [some (.ref ta), some (.int N), y2, y3, y4, y5, y6] ∧ Same H G) ⟨none, none, none, none, none, rfl, s1⟩ (fun pre σ G p => ?_) (fun pre i post x σ G G2 el ei p y => ?_) (fun σ G p => ?_)
    · obtain ⟨y2, y3, y4, y5, y6, rfl, sG⟩ := p
      exact sqT_xt (xt_same sG) hts
    · obtain ⟨y2, y3, y4, y5, y6, rfl, sG⟩ := p
      obtain ⟨rfl, ex⟩ := y
      obtain ⟨hip, hiN, hpre, hpl⟩ := range_split el
      have d2 : De K G2 x (eR (rowOf N (R i))) := (dts.at_ (l := tab N R) ex (by unfold tab; rw [← hip, List.getElem?_map, List.getElem?_range hiN]; rfl)).up sG
      obtain ⟨ra, rs, rfl, hrs, drs⟩ := eR_of d2
      have lr : rs.length = (rowOf N (R i)).length := drs.len
      refine ⟨by show 2 ≤ sizeLine; decide, fun t ht => ?_⟩
      have st := same_new (o := .tup [.int 0, .int 1]) ht
      refine ⟨_, rfl, ?_⟩
      refine ⟨_, rfl, ra, rfl, ⟨rs, sqT_xt (xt_same st) hrs⟩, ?_⟩
      refine for_data (l := rowOf N (R i)) (by rw [← lr]; exact walk_tup (K := K) (xs := rs)) (fun pr σ G3 => ∃ z b y5 y6, σ = [some (.ref ta), some (.int N), some (.ref ra), some z, some (.int b), y5, y6] ∧ Same G2 G3 ∧ De K G3 z (eF ((pr.map (·.2)).sum)) ∧ ∀ q ∈ (rowOf N (R i)).drop pr.length, b < (q.1 : Int))
        ⟨_, -1, _, _, rfl, st, de_new ht (.two (.int 0) (.int 1)), fun q _ => by omega⟩ (fun pr σ G3 p => ?_) (fun pr q po xq σ G3 G4 el2 ei2 p y => ?_) (fun σ G3 p => ?_)
      · obtain ⟨z, b, y5, y6, rfl, s3, _⟩ := p
        exact sqT_xt (xt_same s3) hrs
      · obtain ⟨z, b, y5, y6, rfl, s3, dz, hb⟩ := p
        obtain ⟨rfl, exq⟩ := y
        obtain ⟨tt, zq, rfl, htt, dzq⟩ := pair_of ((drs.at_ exq ei2).up s3)
        have hq : q ∈ rowOf N (R i) := List.mem_of_getElem? ei2
        obtain ⟨hq1, hq2, hq3⟩ := mem_row.mp hq
        have hq0 : 0 < q.2 := by
          have h1 := ok.p0 i q.1 hiN hq1
          rw [← hq3] at h1 hq2
          exact Rat.lt_of_le_of_ne h1 fun z => hq2 z.symm
        have hqn := num_pos' hq0
        have szq : Sz q.2 := by rw [hq3]; exact ok.sz i q.1 hiN hq1
        have hbq := hb q (by rw [el2, List.drop_left]; exact List.mem_cons_self)
        obtain ⟨qa, rfl, hqa⟩ := eF_of dzq
        refine ⟨tt, _, rfl, htt, rfl, _, _, rfl, _, _, rfl, rfl, ?_⟩
        refine ⟨_, rfl, _, rfl, _, _, rfl, rfl, _, rfl, ?_⟩
        rw [decide_eq_false (by omega)]
        refine ⟨_, rfl, _, rfl, _, _, rfl, rfl, _, rfl, ?_⟩
        rw [decide_eq_false (by omega)]
        refine ⟨_, rfl, qa, _, 0, _, rfl, rfl, hqa, rfl, _, _, rfl, rfl, _, rfl, ?_⟩
        rw [decide_eq_false (by omega)]
        refine ⟨_, rfl, qa, _, 0, _, rfl, rfl, hqa, rfl, _, rfl, qa, _, 1, _, rfl, rfl, hqa, rfl, _, _, rfl, den_pos' q.2, Nat.lt_of_lt_of_le szq.d (Nat.pow_le_pow_right (by decide) (by decide)), fun z1 H5 e5 d1 => ?_⟩
        rw [rat_self] at d1
        refine ⟨_, rfl, _, _, d1.dp, (dzq.up e5).dp, shaped_eF _, shaped_eF _, _, rfl, ?_⟩
        rw [eqv_eF, decide_eq_true rfl]
        refine ⟨_, rfl, ?_⟩
        refine ⟨_, rfl, _, rfl, z, .ref qa, _, _, rfl, dz.up e5, dzq.up e5, ok.pre i hiN pr (q :: po) el2, szq, trivial, fun z2 H6 e6 d2 => ?_⟩
        refine ⟨z2, q.1, _, _, rfl, (s3.trans e5).trans e6, ?_, fun r hr => ?_⟩
        · rw [List.map_append, List.map_singleton, sum_snoc]
          exact d2
        · have hr2 : r ∈ po := by
            rw [el2, List.length_append, List.length_singleton, show pr ++ q :: po = (pr ++ [q]) ++ po by simp, ← List.length_singleton (a := q), ← List.length_append, List.drop_left] at hr
            exact hr
          have hinc := row_inc N (R i)
          rw [el2] at hinc
          have := (List.pairwise_cons.mp (List.pairwise_append.mp hinc).2.1).1 r hr2
          omega
      · obtain ⟨z, b, y5, y6, rfl, s3, dz, hb⟩ := p
        rw [ok.one i hiN] at dz
        refine ⟨_, rfl, (by show 2 ≤ sizeLine; decide), fun t2 ht2 => ?_⟩
        have st2 := same_new (o := .tup [.int 1, .int 1]) ht2
        have d1 : De K (upd G3 t2 (.tup [.int 1, .int 1])) (.ref t2) (eF 1) := de_new ht2 (.two (.int 1) (.int 1))
        refine ⟨_, _, (dz.up st2).dp, d1.dp, shaped_eF _, shaped_eF _, _, rfl, ?_⟩
        rw [eqv_eF, decide_eq_true rfl]
        exact ⟨_, _, _, _, _, rfl, (sG.trans s3).trans st2⟩
    · obtain ⟨y2, y3, y4, y5, y6, rfl, sG⟩ := p
      exact k G sG
def sp_l_goes (K : PySem.W.Frag) : Sp := fun vs H Q _ => ∃ (v : V) (N i j : Nat) (R : Nat → Nat → Rat), vs = [v, .int i, .int j] ∧ De K H v (eT (tab N R)) ∧ i < N ∧ j < N ∧ ∀ z H', Same H H' → De K H' z (eF (R i j)) → Q z H'
theorem ok_l_goes (T : Txt K mg) : FnOk P w K mg base CX0 1 T.d_l_goes.f T.d_l_goes.d ["_law_table", "_law_start", "_law_end"] (sp_l_goes K) := by
  refine T.d_l_goes.F.ok sc_l_goes (fun vs H Q E h => ?_) (fun cdv A outer s H vs Q E hr h => ?_)
  · obtain ⟨v, N, i, j, R, rfl, _⟩ := h
    rfl
  · obtain ⟨v, N, i, j, R, rfl, hv, hi, hj, k⟩ := h
    refine ⟨_, (pss_cons
        (ps_for PassesOwn.never rfl (pi_tup (pe_ix ix_tup (pv 0) (pv 1) (fun _ _ => rfl))) (pg_tup rfl (pgs_cons (pg_name (i := 3) sc_l_goes.nd rfl (.inl rfl)) (pgs_cons (pg_name (i := 4) sc_l_goes.nd rfl (.inl rfl)) pgs_nil))) (pss_one
        (ps_if (pt_cmpR op_eq (pv 3) (pv 2) (nomark _)) (pss_one
        (ps_ret (pv 4))) pss_nil)))
        (pss_one
        (ps_ret (pe_tup (pa_cons pe_int (pa_cons pe_int pa_nil)))))), ?_⟩
    obtain ⟨ta, ts, rfl, hts, dts⟩ := eT_of hv
    obtain ⟨rv, erv, drv⟩ := dts.get (i := i) (d := eR (rowOf N (R i))) (by unfold tab; rw [List.getElem?_map, List.getElem?_map, List.getElem?_range hi]; rfl)
    obtain ⟨ra, rs, rfl, hrs, drs⟩ := eR_of drv
    have lr : rs.length = (rowOf N (R i)).length := drs.len
    refine ⟨_, rfl, _, rfl, ta, ts, i, _, rfl, rfl, hts, atI_nat erv, ra, rfl, ⟨rs, hrs⟩, ?_⟩
    refine for_data (l := rowOf N (R i)) (by rw [← lr]; exact walk_tup (K := K) (xs := rs)) (fun pr σ G3 => ∃ y3 y4, σ = [some (.ref ta), some (.int i), some (.int j), y3, y4] ∧ G3 = H ∧ ∀ p ∈ pr, p.1 ≠ j) ⟨none, none, rfl, rfl, fun p hp => by cases hp⟩ (fun pr σ G3 p => ?_) (fun pr q po xq σ G3 G4 el2 ei2 p y => ?_) (fun σ G3 p => ?_)
    · obtain ⟨y3, y4, rfl, rfl, _⟩ := p
      exact hrs
    · obtain ⟨y3, y4, rfl, rfl, hne⟩ := p
      obtain ⟨rfl, exq⟩ := y
      obtain ⟨tt, zq, rfl, htt, dzq⟩ := pair_of (drs.at_ exq ei2)
      obtain ⟨hq1, hq2, hq3⟩ := mem_row.mp (List.mem_of_getElem? ei2)
      refine ⟨tt, _, rfl, htt, rfl, _, _, rfl, _, _, rfl, rfl, ?_⟩
      refine ⟨_, rfl, _, rfl, rfl, _, rfl, ?_⟩
      rw [dec_int]
      by_cases hc : q.1 = j
      · rw [decide_eq_true (by omega)]
        subst hc
        rw [hq3] at dzq
        exact ⟨_, rfl, k zq G4 (Same.refl _) dzq⟩
      · rw [decide_eq_false (by omega)]
        refine ⟨_, _, rfl, rfl, fun p hp => ?_⟩
        rcases List.mem_append.mp hp with hp | hp
        · exact hne p hp
        · rw [List.mem_singleton.mp hp]
          exact hc
    · obtain ⟨y3, y4, rfl, rfl, hne⟩ := p
      refine ⟨by show 2 ≤ sizeLine; decide, fun t ht => k _ _ (same_new ht) ?_⟩
      have hz : R i j = 0 := Classical.byContradiction fun h => hne (j, R i j) (mem_row.mpr ⟨hj, h, rfl⟩) rfl
      rw [hz]
      exact de_new ht (.two (.int 0) (.int 1))
def sp_l_is_kept (K : PySem.W.Frag) : Sp := fun vs H Q _ => ∃ (a : Addr) (v : V) (N : Nat) (W : Nat → Rat) (R : Nat → Nat → Rat), vs = [.ref a, v] ∧ Ls K H a (((List.range N).map W).map eF) ∧ De K H v (eT (tab N R)) ∧ N ≤ 32 ∧ (∀ i, i < N → Sz (W i)) ∧ (∀ i j, i < N → j < N → Sz (R i j)) ∧ (∀ i j, i < N → j < N → W i * R i j = W j * R j i) ∧ ∀ H', Same H H' → Q (.bl true) H'
theorem ok_l_is_kept (T : Txt K mg) : FnOk P w K mg base CX0 4 T.d_l_is_kept.f T.d_l_is_kept.d ["_law_weights_here", "_law_table"] (sp_l_is_kept K) := by
  refine T.d_l_is_kept.F.ok sc_l_is_kept (fun vs H Q E h => ?_) (fun cdv A outer s H vs Q E hr h => ?_)
  · obtain ⟨a, v, N, W, R, rfl, _⟩ := h
    rfl
  · obtain ⟨a, v, N, W, R, rfl, hl, hv, hN, sW, sR, bal, k⟩ := h
    refine ⟨_, (pss_cons
        (ps_for PassesOwn.never rfl (pi_range1 (by rfl) T.m_range (pa_cons (pe_callB call_len_seq (by rfl) T.m_len PySem.boot_len (pa_cons (pv 0) pa_nil)) pa_nil)) (pg_name (i := 2) sc_l_is_kept.nd rfl (.inl rfl)) (pss_one
        (ps_for PassesOwn.never rfl (pi_range1 (by rfl) T.m_range (pa_cons (pv 2) pa_nil)) (pg_name (i := 3) sc_l_is_kept.nd rfl (.inl rfl)) (pss_cons
        (ps_set (i := 4) sc_l_is_kept.nd rfl (.inl rfl) (pe_call (ok_l_mul T) hr (by rfl) T.d_l_mul.g T.d_l_mul.F.kp T.d_l_mul.b .nil pass0 (pa_cons (pe_ix ix_list (pv 0) (pv 2) (fun _ _ => rfl)) (pa_cons (pe_call (ok_l_goes T) (hr.mono (by decide)) (by rfl) T.d_l_goes.g T.d_l_goes.F.kp T.d_l_goes.b .nil pass0 (pa_cons (pv 1) (pa_cons (pv 2) (pa_cons (pv 3) pa_nil)))) pa_nil))))
        (pss_one
        (ps_if (pt_cmpR (op_neD hr.units) (pv 4) (pe_call (ok_l_mul T) hr (by rfl) T.d_l_mul.g T.d_l_mul.F.kp T.d_l_mul.b .nil pass0 (pa_cons (pe_ix ix_list (pv 0) (pv 3) (fun _ _ => rfl)) (pa_cons (pe_call (ok_l_goes T) (hr.mono (by decide)) (by rfl) T.d_l_goes.g T.d_l_goes.F.kp T.d_l_goes.b .nil pass0 (pa_cons (pv 1) (pa_cons (pv 3) (pa_cons (pv 2) pa_nil)))) pa_nil))) (nomark _)) (pss_one
        (ps_ret pe_bl)) pss_nil))))))
        (pss_one
        (ps_ret pe_bl))), ?_⟩
    obtain ⟨xs, hx, dx⟩ := hl
    have hxl : xs.length = N := by rw [dx.len, List.length_map, List.length_range]
    have getW : ∀ i, i < N → ∃ z, xs[i]? = some z ∧ De K H z (eF (W i)) := fun i hi => dx.get (i := i) (d := eF (W i)) (by rw [List.getElem?_map, List.getElem?_map, List.getElem?_range hi]; rfl)
    refine ⟨_, rfl, a, xs, rfl, .inl hx, _, rfl, by omega, by omega, for_range (lo := 0) (n := (xs.length : Int).toNat) (fun i σ G => ∃ y2 y3 y4, σ = [some (.ref a), some v, y2, y3, y4] ∧ Same H G) ⟨none, none, none, rfl, Same.refl _⟩ (fun i σ G hi p => ?_) (fun σ G p => ?_)⟩
    · obtain ⟨y2, y3, y4, rfl, sG⟩ := p
      have e0 : (0 : Int) + (i : Int) = (i : Int) := Int.zero_add _
      rw [e0]
      have hiN : i < N := by omega
      refine ⟨_, rfl, i, rfl, by omega, by omega, for_range (lo := 0) (n := (i : Int).toNat) (fun j σ G => ∃ y3 y4, σ = [some (.ref a), some v, some (.int (i : Int)), y3, y4] ∧ Same H G) ⟨_, _, rfl, sG⟩ (fun j σ G hj p => ?_) (fun σ G p => ?_)⟩
      · obtain ⟨y3, y4, rfl, s2⟩ := p
        have e0 : (0 : Int) + (j : Int) = (j : Int) := Int.zero_add _
        rw [e0]
        have hjN : j < N := by omega
        obtain ⟨wi, ewi, dwi⟩ := getW i hiN
        obtain ⟨wj, ewj, dwj⟩ := getW j hjN
        refine ⟨_, rfl, _, rfl, a, xs, i, wi, rfl, rfl, s2.seq hx, atI_nat ewi, _, rfl, _, rfl, _, rfl, v, N, i, j, R, rfl, hv.up s2, hiN, hjN, fun z1 H1 e1 d1 => ?_⟩
        refine ⟨wi, z1, _, _, rfl, (dwi.up s2).up e1, d1, sW i hiN, sR i j hiN hjN, trivial, fun z2 H2 e2 d2 => ?_⟩
        have s3 := (s2.trans e1).trans e2
        refine ⟨_, rfl, _, rfl, _, rfl, a, xs, j, wj, rfl, rfl, s3.seq hx, atI_nat ewj, _, rfl, _, rfl, _, rfl, v, N, j, i, R, rfl, hv.up s3, hjN, hiN, fun z3 H3 e3 d3 => ?_⟩
        refine ⟨wj, z3, _, _, rfl, (dwj.up s3).up e3, d3, sW j hjN, sR j i hjN hiN, trivial, fun z4 H4 e4 d4 => ?_⟩
        refine ⟨_, _, (d2.up (e3.trans e4)).dp, d4.dp, shaped_eF _, shaped_eF _, _, rfl, ?_⟩
        rw [eqv_eF, decide_eq_true (bal i j hiN hjN)]
        exact ⟨_, _, rfl, (s3.trans e3).trans e4⟩
      · obtain ⟨y3, y4, rfl, s2⟩ := p
        exact ⟨_, _, _, rfl, s2⟩
    · obtain ⟨y2, y3, y4, rfl, sG⟩ := p
      exact k G sG
end
end K49
/-! finite sums -/
namespace K49
/-- the sum below N -/
def S (N : Nat) (f : Nat → Rat) : Rat := ((List.range N).map f).sum
theorem S_zero (f : Nat → Rat) : S 0 f = 0 := rfl
theorem S_succ (N : Nat) (f : Nat → Rat) : S (N + 1) f = S N f + f N := by
  unfold S
  rw [List.range_succ, List.map_append, List.map_singleton, sum_snoc]
theorem S_congr {N : Nat} {f g : Nat → Rat} (h : ∀ i, i < N → f i = g i) : S N f = S N g := by
  unfold S
  rw [List.map_congr_left fun i hi => h i (List.mem_range.mp hi)]
theorem S_add (N : Nat) (f g : Nat → Rat) : S N (fun i => f i + g i) = S N f + S N g := by
  induction N with
  | zero => rw [S_zero, S_zero, S_zero, Rat.add_zero]
  | succ n ih => rw [S_succ, S_succ, S_succ, ih]; grind
theorem S_mul (N : Nat) (c : Rat) (f : Nat → Rat) : S N (fun i => c * f i) = c * S N f := by
  induction N with
  | zero => rw [S_zero, S_zero, Rat.mul_zero]
  | succ n ih => rw [S_succ, S_succ, ih, Rat.mul_add]
theorem S_mulr (N : Nat) (c : Rat) (f : Nat → Rat) : S N (fun i => f i * c) = S N f * c := by
  induction N with
  | zero => rw [S_zero, S_zero, Rat.zero_mul]
  | succ n ih => rw [S_succ, S_succ, ih, Rat.add_mul]
theorem S_const0 (N : Nat) : S N (fun _ => 0) = 0 := by
  induction N with
  | zero => rfl
  | succ n ih => rw [S_succ, ih, Rat.add_zero]
theorem S_swap (N M : Nat) (f : Nat → Nat → Rat) : S N (fun i => S M (fun j => f i j)) = S M (fun j => S N (fun i => f i j)) := by
  induction N with
  | zero =>
    have : (fun j => S 0 (fun i => f i j)) = fun _ => (0 : Rat) := rfl
    rw [this, S_const0]
    rfl
  | succ n ih =>
    rw [S_succ, ih, ← S_add]
    exact S_congr fun j _ => (S_succ n fun i => f i j).symm
theorem S_nonneg {N : Nat} {f : Nat → Rat} (h : ∀ i, i < N → 0 ≤ f i) : 0 ≤ S N f := by
  induction N with
  | zero => exact Rat.le_refl
  | succ n ih =>
    rw [S_succ]
    have h1 := ih fun i hi => h i (by omega)
    have h2 := h n (by omega)
    grind
theorem S_le {N : Nat} {f : Nat → Rat} (h : ∀ i, i < N → 0 ≤ f i) {k : Nat} (hk : k < N) : f k ≤ S N f := by
  induction N with
  | zero => omega
  | succ n ih =>
    rw [S_succ]
    have h2 := h n (by omega)
    have h3 := S_nonneg fun i (hi : i < n) => h i (by omega)
    by_cases e : k = n
    · subst e
      grind
    · have h1 := ih (fun i hi => h i (by omega)) (by omega)
      grind
theorem S_one (N j : Nat) (c : Rat) : S N (fun k => if j = k then c else 0) = if j < N then c else 0 := by
  induction N with
  | zero => rfl
  | succ n ih =>
    rw [S_succ, ih]
    by_cases h1 : j < n
    · rw [if_pos h1, if_neg (by omega), if_pos (by omega), Rat.add_zero]
    · rw [if_neg h1, Rat.zero_add]
      by_cases h2 : j = n
      · rw [if_pos h2, if_pos (by omega)]
      · rw [if_neg h2, if_neg (by omega)]
theorem S_int {N : Nat} {f : Nat → Rat} {D : Nat} (h : ∀ i, i < N → ∃ z : Int, f i * (D : Rat) = (z : Rat)) : ∃ z : Int, S N f * (D : Rat) = (z : Rat) := by
  induction N with
  | zero => exact ⟨0, by rw [S_zero, Rat.zero_mul]; rfl⟩
  | succ n ih =>
    obtain ⟨z, hz⟩ := ih fun i hi => h i (by omega)
    obtain ⟨y, hy⟩ := h n (by omega)
    exact ⟨z + y, by rw [S_succ, Rat.add_mul, hz, hy, Rat.intCast_add]⟩
theorem row_sum (N : Nat) (c : Nat → Rat) : ((rowOf N c).map (·.2)).sum = S N c := by
  unfold rowOf S
  induction List.range N with
  | nil => rfl
  | cons a l ih =>
    rw [List.filterMap_cons, List.map_cons, List.sum_cons, ← ih]
    by_cases h : c a = 0
    · simp only [if_pos h]
      rw [h, Rat.zero_add]
    · simp only [if_neg h]
      rw [List.map_cons, List.sum_cons]
theorem tm_pre {D : Nat} : ∀ {l : List Rat}, (∀ q ∈ l, Tm D q) → 0 ≤ l.sum ∧ l.sum ≤ (l.length : Rat) ∧ ∃ z : Int, l.sum * (D : Rat) = (z : Rat)
  | [], _ => ⟨Rat.le_refl, Rat.le_refl, 0, by rw [List.sum_nil, Rat.zero_mul]; rfl⟩
  | a :: l, h => by
    obtain ⟨i0, i1, z, iz⟩ := tm_pre fun q hq => h q (List.mem_cons_of_mem _ hq)
    obtain ⟨a0, a1, y, ay⟩ := h a List.mem_cons_self
    have el : (((a :: l).length : Nat) : Rat) = (l.length : Rat) + 1 := by
      rw [List.length_cons]
      exact_mod_cast rfl
    rw [el, List.sum_cons]
    exact ⟨by grind, by grind, y + z, by rw [Rat.add_mul, ay, iz, Rat.intCast_add]⟩
theorem tm_sum_sz {D : Nat} {l : List Rat} (h : ∀ q ∈ l, Tm D q) (hl : l.length ≤ 65536) (hD : 0 < D) (hd : D < 2 ^ 4400) : Sz l.sum := by
  obtain ⟨h0, h1, z, hz⟩ := tm_pre h
  refine sz_of (B := 65536) hz hD h0 ?_ ?_ (by decide)
  · have : (l.length : Rat) ≤ ((65536 : Nat) : Rat) := by exact_mod_cast hl
    grind
  · have : (65536 : Nat) * 2 ^ 4400 ≤ 2 ^ 4500 := by
      have e : (65536 : Nat) = 2 ^ 16 := by decide
      rw [e, ← Nat.pow_add]
      exact Nat.pow_le_pow_right (by decide) (by decide)
    omega
theorem Tm.mul {D E : Nat} {p q : Rat} (h : Tm D p) (g : Tm E q) : Tm (D * E) (p * q) := by
  obtain ⟨h0, h1, z, hz⟩ := h
  obtain ⟨g0, g1, y, gy⟩ := g
  refine ⟨Rat.mul_nonneg h0 g0, ?_, z * y, ?_⟩
  · have := Rat.mul_le_mul_of_nonneg_left g1 h0
    rw [Rat.mul_one] at this
    grind
  · rw [Rat.natCast_mul, Rat.intCast_mul, ← hz, ← gy]
    grind
theorem Tm.sub {D : Nat} {q : Rat} (h : Tm D q) : Tm D (1 - q) := by
  obtain ⟨h0, h1, z, hz⟩ := h
  refine ⟨by grind, by grind, (D : Int) - z, ?_⟩
  rw [Rat.intCast_sub, ← hz]
  have : (((D : Int)) : Rat) = (D : Rat) := rfl
  rw [this]
  grind
theorem Tm.up {D E : Nat} {q : Rat} (h : Tm D q) (d : D ∣ E) : Tm E q := by
  obtain ⟨h0, h1, z, hz⟩ := h
  obtain ⟨c, rfl⟩ := d
  refine ⟨h0, h1, z * (c : Int), ?_⟩
  rw [Rat.natCast_mul, Rat.intCast_mul, ← hz]
  have : (((c : Int)) : Rat) = (c : Rat) := rfl
  rw [this]
  grind
theorem Tm.zero (D : Nat) : Tm D 0 := ⟨Rat.le_refl, by decide, 0, by rw [Rat.zero_mul]; rfl⟩
theorem Tm.one (D : Nat) : Tm D 1 := ⟨by decide, Rat.le_refl, (D : Int), by rw [Rat.one_mul]; rfl⟩
theorem rowOk_of {N : Nat} {R : Nat → Nat → Rat} {D : Nat} (hN : N ≤ 32) (hD : 0 < D) (hd : D < 2 ^ 4400) (h : ∀ i k, i < N → k < N → Tm D (R i k)) (one : ∀ i, i < N → S N (R i) = 1) : RowOk N R := by
  refine ⟨fun i k hi hk => (h i k hi hk).1, fun i hi => by rw [row_sum, one i hi], fun i k hi hk => (h i k hi hk).sz hD hd, fun i hi pre post e => ?_⟩
  have hl := row_len N (R i)
  have he := congrArg List.length e
  rw [List.length_append] at he
  refine tm_sum_sz (D := D) (fun q hq => ?_) (by rw [List.length_map]; omega) hD hd
  obtain ⟨p, hp, rfl⟩ := List.mem_map.mp hq
  obtain ⟨h1, _, h3⟩ := mem_row.mp (show p ∈ rowOf N (R i) by rw [e]; exact List.mem_append_left _ hp)
  rw [h3]
  exact h i p.1 hi h1
end K49
/-! tables that keep the shares -/
namespace K49
variable {fs : List Int} {es : List (Nat × Nat × Int)} {x y : Rat}
/-- the core of it: chances over one bottom, rows of sum 1, balance -/
structure Core (fs : List Int) (es : List (Nat × Nat × Int)) (x y : Rat) (R : Nat → Nat → Rat) : Prop where
  one : ∀ i, i < 2 ^ fs.length → S (2 ^ fs.length) (R i) = 1
  bal : ∀ i j, i < 2 ^ fs.length → j < 2 ^ fs.length → wN fs es x y i * R i j = wN fs es x y j * R j i
  tm : ∃ D : Nat, 0 < D ∧ D ≤ 2 ^ 2400 ∧ ∀ i k, i < 2 ^ fs.length → k < 2 ^ fs.length → Tm D (R i k)
theorem tm_of {N D : Nat} {R : Nat → Rat} (p0 : ∀ k, k < N → 0 ≤ R k) (one : S N R = 1) (h : ∀ k, k < N → ∃ z : Int, R k * (D : Rat) = (z : Rat)) {k : Nat} (hk : k < N) : Tm D (R k) :=
  ⟨p0 k hk, by have := S_le p0 hk; rw [one] at this; exact this, h k hk⟩
theorem pairs16 {n v : Nat} (hn : n ≤ 5) (hv : v < n) : ((List.range (2 ^ n)).filter fun i => decide (i < turnN n i v)).length ≤ 16 := by
  have h1 : n = 1 ∨ n = 2 ∨ n = 3 ∨ n = 4 ∨ n = 5 := by omega
  have h : ∀ v, v < n → ((List.range (2 ^ n)).filter fun i => decide (i < turnN n i v)).length ≤ 16 := by
    rcases h1 with rfl | rfl | rfl | rfl | rfl <;> decide
  exact h v hv
theorem prod_le {B : Nat} (hB : 1 ≤ B) : ∀ {l : List Nat}, (∀ a ∈ l, a ≤ B) → (l.foldr (· * ·) 1) ≤ B ^ l.length
  | [], _ => Nat.le_refl 1
  | a :: l, h => by
    have ih := prod_le hB fun b hb => h b (List.mem_cons_of_mem _ hb)
    have ha := h a List.mem_cons_self
    rw [List.foldr_cons, List.length_cons, Nat.pow_succ, Nat.mul_comm]
    exact Nat.mul_le_mul ih ha
theorem prod_pos : ∀ {l : List Nat}, (∀ a ∈ l, 0 < a) → 0 < (l.foldr (· * ·) 1)
  | [], _ => Nat.one_pos
  | a :: l, h => by
    rw [List.foldr_cons]
    exact Nat.mul_pos (h a List.mem_cons_self) (prod_pos fun b hb => h b (List.mem_cons_of_mem _ hb))
theorem prod_dvd : ∀ {l : List Nat} {a : Nat}, a ∈ l → a ∣ (l.foldr (· * ·) 1)
  | b :: l, a, h => by
    rw [List.foldr_cons]
    rcases List.mem_cons.mp h with rfl | h
    · exact Nat.dvd_mul_right _ _
    · exact Nat.dvd_mul_left_of_dvd (prod_dvd h) b
theorem half {a b : Rat} (ha : 0 < a) (hb : 0 < b) : 0 ≤ a / (a + b) := by
  rw [Rat.div_def]
  have : 0 < a + b := by grind
  exact Rat.le_of_lt (Rat.mul_pos ha (Rat.inv_pos.mpr this))
theorem S_two {N i j : Nat} (hi : i < N) (hj : j < N) (hne : j ≠ i) (a b : Rat) : S N (fun k => if j = k then a else if i = k then b else 0) = a + b := by
  have e : S N (fun k => if j = k then a else if i = k then b else 0) = S N (fun k => (if j = k then a else 0) + if i = k then b else 0) := S_congr fun k _ => by
    by_cases h1 : j = k
    · subst h1
      rw [if_pos rfl, if_pos rfl, if_neg (fun z => hne z.symm), Rat.add_zero]
    · rw [if_neg h1, if_neg h1, Rat.zero_add]
  rw [e, S_add, S_one, S_one, if_pos hj, if_pos hi]
theorem Good.pow32 (G : Good fs es x y) : 2 ^ fs.length ≤ 32 := Nat.pow_le_pow_right (n := 2) (by decide) G.n5
theorem Good.ne0 (G : Good fs es x y) {i : Nat} (h : i < 2 ^ fs.length) : wN fs es x y i ≠ 0 := fun z => by
  have := G.pos h
  rw [z] at this
  exact absurd this (by decide)
/-- the heat bath's bottom -/
def hbD (fs : List Int) (es : List (Nat × Nat × Int)) (x y : Rat) (v : Nat) : Nat :=
  (((List.range (2 ^ fs.length)).filter fun i => decide (i < turnN fs.length i v)).map fun i => mN fs es x y i + mN fs es x y (turnN fs.length i v)).foldr (· * ·) 1
theorem Good.mlt (G : Good fs es x y) {i : Nat} (h : i < 2 ^ fs.length) : mN fs es x y i < 2 ^ 114 := G.mB (stN_mem h)
theorem Good.mpos (G : Good fs es x y) (i : Nat) : 0 < mN fs es x y i := G.m0
theorem Good.hbD_ok (G : Good fs es x y) {v : Nat} (hv : v < fs.length) : 0 < hbD fs es x y v ∧ hbD fs es x y v ≤ 2 ^ 1840 ∧ ∀ i, i < 2 ^ fs.length → (mN fs es x y i + mN fs es x y (turnN fs.length i v)) ∣ hbD fs es x y v := by
  have hlt : ∀ i, i < 2 ^ fs.length → turnN fs.length i v < 2 ^ fs.length := fun i hi => turnN_lt hi (by omega)
  refine ⟨prod_pos fun a ha => ?_, ?_, fun i hi => ?_⟩
  · obtain ⟨i, _, rfl⟩ := List.mem_map.mp ha
    have := G.mpos i
    omega
  · have h1 := prod_le (B := 2 ^ 115) (by decide) (l := ((List.range (2 ^ fs.length)).filter fun i => decide (i < turnN fs.length i v)).map fun i => mN fs es x y i + mN fs es x y (turnN fs.length i v)) fun a ha => by
      obtain ⟨i, hi, rfl⟩ := List.mem_map.mp ha
      have hi := List.mem_range.mp (List.mem_filter.mp hi).1
      have a1 := G.mlt hi
      have a2 := G.mlt (hlt i hi)
      have : (2 : Nat) ^ 115 = 2 ^ 114 + 2 ^ 114 := by decide
      omega
    rw [List.length_map] at h1
    have h2 := pairs16 G.n5 hv
    refine Nat.le_trans h1 (Nat.le_trans (Nat.pow_le_pow_right (by decide) h2) ?_)
    rw [← Nat.pow_mul]
    exact Nat.le_refl _
  · by_cases h : i < turnN fs.length i v
    · exact prod_dvd (List.mem_map.mpr ⟨i, List.mem_filter.mpr ⟨List.mem_range.mpr hi, decide_eq_true h⟩, rfl⟩)
    · have hne := turnN_ne fs.length i v
      have hj := hlt i hi
      have e : turnN fs.length (turnN fs.length i v) v = i := turnN_turnN _ _ _
      refine prod_dvd (List.mem_map.mpr ⟨turnN fs.length i v, List.mem_filter.mpr ⟨List.mem_range.mpr hj, decide_eq_true (by rw [e]; omega)⟩, ?_⟩)
      rw [e, Nat.add_comm]
theorem Good.hb_int (G : Good fs es x y) {i j : Nat} (hi : i < 2 ^ fs.length) (hj : j < 2 ^ fs.length) : wN fs es x y j / (wN fs es x y i + wN fs es x y j) * ((mN fs es x y i + mN fs es x y j : Nat) : Rat) = (mN fs es x y j : Rat) ∧ wN fs es x y i / (wN fs es x y i + wN fs es x y j) * ((mN fs es x y i + mN fs es x y j : Nat) : Rat) = (mN fs es x y i : Rat) := by
  have hk := G.kap0
  have m1 := G.mpos i
  have m2 := G.mpos j
  have hs : ((mN fs es x y i : Nat) : Rat) + ((mN fs es x y j : Nat) : Rat) ≠ 0 := by
    have : mN fs es x y i + mN fs es x y j ≠ 0 := by omega
    rw [← Rat.natCast_add]
    exact_mod_cast this
  rw [Rat.natCast_add, G.wmN hi, G.wmN hj]
  generalize (mN fs es x y i : Rat) = a at *
  generalize (mN fs es x y j : Rat) = b at *
  generalize kap fs es x y = c at *
  have hc : c ≠ 0 := fun z => by rw [z] at hk; exact absurd hk (by decide)
  constructor <;> grind
theorem core_heat (G : Good fs es x y) {v : Nat} (hv : v < fs.length) : Core fs es x y (hbP (wN fs es x y) fs.length v) ∧ ∀ i k, i < 2 ^ fs.length → k < 2 ^ fs.length → Tm (hbD fs es x y v) (hbP (wN fs es x y) fs.length v i k) := by
  have hlt : ∀ i, i < 2 ^ fs.length → turnN fs.length i v < 2 ^ fs.length := fun i hi => turnN_lt hi (by omega)
  obtain ⟨d0, d1, d2⟩ := G.hbD_ok hv
  have one : ∀ i, i < 2 ^ fs.length → S (2 ^ fs.length) (hbP (wN fs es x y) fs.length v i) = 1 := fun i hi => by
    have h1 := S_two hi (hlt i hi) (turnN_ne fs.length i v) (wN fs es x y (turnN fs.length i v) / (wN fs es x y i + wN fs es x y (turnN fs.length i v))) (wN fs es x y i / (wN fs es x y i + wN fs es x y (turnN fs.length i v)))
    have a1 := G.pos hi
    have a2 := G.pos (hlt i hi)
    have e : hbP (wN fs es x y) fs.length v i = fun k => if turnN fs.length i v = k then wN fs es x y (turnN fs.length i v) / (wN fs es x y i + wN fs es x y (turnN fs.length i v)) else if i = k then wN fs es x y i / (wN fs es x y i + wN fs es x y (turnN fs.length i v)) else 0 := rfl
    rw [e, h1]
    generalize wN fs es x y i = a at *
    generalize wN fs es x y (turnN fs.length i v) = b at *
    have : a + b ≠ 0 := by grind
    grind
  have p0 : ∀ i k, i < 2 ^ fs.length → k < 2 ^ fs.length → 0 ≤ hbP (wN fs es x y) fs.length v i k := fun i k hi hk => by
    have a1 := G.pos hi
    have a2 := G.pos (hlt i hi)
    unfold hbP
    split
    · rw [Rat.add_comm]
      exact half a2 a1
    · split
      · exact half a1 a2
      · exact Rat.le_refl
  have tm : ∀ i k, i < 2 ^ fs.length → k < 2 ^ fs.length → Tm (hbD fs es x y v) (hbP (wN fs es x y) fs.length v i k) := fun i k hi hk => by
    refine tm_of (p0 i · hi) (one i hi) (fun k hk => ?_) hk
    obtain ⟨c, hc⟩ := d2 i hi
    obtain ⟨i1, i2⟩ := G.hb_int hi (hlt i hi)
    rw [hc]
    unfold hbP
    split
    · refine ⟨((mN fs es x y (turnN fs.length i v) * c : Nat) : Int), ?_⟩
      rw [Rat.natCast_mul, ← Rat.mul_assoc, i1, ← Rat.natCast_mul]
      rfl
    · split
      · refine ⟨((mN fs es x y i * c : Nat) : Int), ?_⟩
        rw [Rat.natCast_mul, ← Rat.mul_assoc, i2, ← Rat.natCast_mul]
        rfl
      · exact ⟨0, by rw [Rat.zero_mul]; rfl⟩
  refine ⟨⟨one, fun i j hi hj => ?_, _, d0, Nat.le_trans d1 (Nat.pow_le_pow_right (by decide) (by decide)), tm⟩, tm⟩
  unfold hbP
  have e1 : turnN fs.length i v = j ↔ turnN fs.length j v = i := ⟨fun h => by rw [← h, turnN_turnN], fun h => by rw [← h, turnN_turnN]⟩
  by_cases h1 : turnN fs.length i v = j
  · rw [if_pos h1, if_pos (e1.mp h1), h1, e1.mp h1]
    have a1 := G.pos hi
    have a2 := G.pos hj
    generalize wN fs es x y i = a at *
    generalize wN fs es x y j = b at *
    have : a + b ≠ 0 := by grind
    grind
  · rw [if_neg h1, if_neg (fun z => h1 (e1.mpr z))]
    by_cases h2 : i = j
    · subst h2
      rfl
    · rw [if_neg h2, if_neg (fun z => h2 z.symm), Rat.mul_zero, Rat.mul_zero]
/-- the whole of the weights -/
def mS (fs : List Int) (es : List (Nat × Nat × Int)) (x y : Rat) : Nat := ((List.range (2 ^ fs.length)).map (mN fs es x y)).sum
theorem sum_nat (f : Nat → Nat) : ∀ l : List Nat, (((l.map f).sum : Nat) : Rat) = (l.map fun i => ((f i : Nat) : Rat)).sum
  | [] => rfl
  | a :: l => by rw [List.map_cons, List.sum_cons, List.map_cons, List.sum_cons, Rat.natCast_add, sum_nat f l]
theorem wts_sum : (wts fs es x y).sum = S (2 ^ fs.length) (wN fs es x y) := by
  unfold S
  congr 1
  have h := map_at (wts fs es x y) 0 id
  rw [List.map_id, wts_len] at h
  exact h
theorem Good.mS_ok (G : Good fs es x y) : 0 < mS fs es x y ∧ mS fs es x y < 2 ^ 119 ∧ (wts fs es x y).sum = kap fs es x y * (mS fs es x y : Rat) := by
  have e : (wts fs es x y).sum = kap fs es x y * (mS fs es x y : Rat) := by
    rw [wts_sum, mS, sum_nat, ← S, ← S_mul]
    exact S_congr fun i hi => G.wmN hi
  refine ⟨?_, ?_, e⟩
  · have h1 := G.tot0
    rw [e] at h1
    refine Nat.pos_of_ne_zero fun z => ?_
    rw [z] at h1
    have : kap fs es x y * ((0 : Nat) : Rat) = 0 := Rat.mul_zero _
    rw [this] at h1
    exact absurd h1 (by decide)
  · have h : ∀ l : List Nat, (∀ i ∈ l, mN fs es x y i < 2 ^ 114) → (l.map (mN fs es x y)).sum ≤ l.length * 2 ^ 114 := by
      intro l
      induction l with
      | nil => intro _; simp
      | cons a l ih =>
        intro h
        have h1 := ih fun i hi => h i (List.mem_cons_of_mem _ hi)
        have h2 := h a List.mem_cons_self
        rw [List.map_cons, List.sum_cons, List.length_cons, Nat.succ_mul]
        omega
    have h1 := h (List.range (2 ^ fs.length)) fun i hi => G.mlt (List.mem_range.mp hi)
    rw [List.length_range] at h1
    have h2 : 2 ^ fs.length * 2 ^ 114 ≤ 32 * 2 ^ 114 := Nat.mul_le_mul_right _ G.pow32
    have h3 : mS fs es x y ≤ 32 * 2 ^ 114 := Nat.le_trans h1 h2
    have h4 : mS fs es x y ≠ 32 * 2 ^ 114 ∨ mS fs es x y < 2 ^ 119 := by
      by_cases hh : mS fs es x y < 2 ^ 119
      · exact .inr hh
      · refine .inl fun z => ?_
        have hpos : 0 < 2 ^ fs.length := Nat.pow_pos (by decide)
        -- strictly below
        have hs : ∀ l : List Nat, l ≠ [] → (∀ i ∈ l, mN fs es x y i < 2 ^ 114) → (l.map (mN fs es x y)).sum < l.length * 2 ^ 114 := by
          intro l
          induction l with
          | nil => intro h _; exact absurd rfl h
          | cons a l ih =>
            intro _ hl
            have h2 := hl a List.mem_cons_self
            have h1 := h l fun i hi => hl i (List.mem_cons_of_mem _ hi)
            rw [List.map_cons, List.sum_cons, List.length_cons, Nat.succ_mul]
            omega
        have hne : List.range (2 ^ fs.length) ≠ [] := fun q => by
          have := congrArg List.length q
          rw [List.length_range, List.length_nil] at this
          omega
        have h5 := hs _ hne fun i hi => G.mlt (List.mem_range.mp hi)
        rw [List.length_range] at h5
        have : mS fs es x y < 32 * 2 ^ 114 := Nat.lt_of_lt_of_le h5 h2
        omega
    have h6 : (32 : Nat) * 2 ^ 114 = 2 ^ 119 := by decide
    omega
theorem Good.shr_tm (G : Good fs es x y) {i : Nat} (hi : i < 2 ^ fs.length) : Tm (mS fs es x y) (shr fs es x y i) := by
  obtain ⟨h0, h1, h2⟩ := G.mS_ok
  have hw := G.pos hi
  have ht := G.tot0
  have hle : wN fs es x y i ≤ (wts fs es x y).sum := by
    rw [wts_sum]
    exact S_le (fun j hj => Rat.le_of_lt (G.pos hj)) hi
  have e : shr fs es x y i * (mS fs es x y : Rat) = (mN fs es x y i : Rat) := by
    unfold shr
    have hk := G.kap0
    have hm : ((mS fs es x y : Nat) : Rat) ≠ 0 := by
      have : mS fs es x y ≠ 0 := by omega
      exact_mod_cast this
    rw [h2, G.wmN hi]
    generalize (mS fs es x y : Rat) = a at *
    generalize (mN fs es x y i : Rat) = b at *
    generalize kap fs es x y = c at *
    have hc : c ≠ 0 := fun z => by rw [z] at hk; exact absurd hk (by decide)
    grind
  refine ⟨?_, ?_, (mN fs es x y i : Int), by rw [e]; rfl⟩
  · unfold shr
    rw [Rat.div_def]
    exact Rat.le_of_lt (Rat.mul_pos hw (Rat.inv_pos.mpr ht))
  · unfold shr
    have hi2 := Rat.inv_pos.mpr ht
    rw [Rat.div_def]
    have h3 := Rat.mul_le_mul_of_nonneg_right hle (Rat.le_of_lt hi2)
    have h4 : (wts fs es x y).sum * (wts fs es x y).sum⁻¹ = 1 := Rat.mul_inv_cancel _ fun z => by rw [z] at ht; exact absurd ht (by decide)
    rw [h4] at h3
    exact h3
theorem comp_S {N : Nat} (A B : Nat → Nat → Rat) (i : Nat) {k : Nat} (hk : k < N) : comp N A B i k = S N (fun j => A i j * B j k) := by
  unfold comp S
  rw [acc_flow N (A i) B (List.range N) hk]
/-- from the core to all that the law asks -/
theorem tab_of (G : Good fs es x y) {R : Nat → Nat → Rat} (C : Core fs es x y R) : TabOk fs es x y R := by
  obtain ⟨one, bal, D, D0, DB, tm⟩ := C
  obtain ⟨M0, M1, _⟩ := G.mS_ok
  have h32 := G.pow32
  have ht := G.tot0
  have p22 : (2 : Nat) ^ 2400 ≤ 2 ^ 4300 := Nat.pow_le_pow_right (by decide) (by decide)
  have D4 : D < 2 ^ 4400 := Nat.lt_of_le_of_lt DB (Nat.pow_lt_pow_right (by decide) (by decide))
  have M4 : mS fs es x y < 2 ^ 4400 := Nat.lt_trans M1 (Nat.pow_lt_pow_right (by decide) (by decide))
  have MD : mS fs es x y * D < 2 ^ 4400 := by
    have h1 : mS fs es x y * D ≤ 2 ^ 119 * 2 ^ 2400 := Nat.mul_le_mul (Nat.le_of_lt M1) DB
    rw [← Nat.pow_add] at h1
    exact Nat.lt_of_le_of_lt h1 (Nat.pow_lt_pow_right (by decide) (by decide))
  have ebal : ∀ i j, i < 2 ^ fs.length → j < 2 ^ fs.length → shr fs es x y i * R i j = shr fs es x y j * R j i := fun i j hi hj => by
    unfold shr
    have := bal i j hi hj
    rw [Rat.div_def, Rat.div_def]
    generalize (wts fs es x y).sum⁻¹ = t
    generalize wN fs es x y i = a at *
    generalize wN fs es x y j = b at *
    grind
  have flS : ∀ (e : Nat → Rat) (Q : Nat → Nat → Rat) k, k < 2 ^ fs.length → acc k (flow (2 ^ fs.length) e Q (List.range (2 ^ fs.length))) = S (2 ^ fs.length) (fun i => e i * Q i k) := fun e Q k hk => by
    rw [acc_flow _ _ _ _ hk]
    rfl
  have keepE : ∀ (Q : Nat → Nat → Rat), (∀ i, i < 2 ^ fs.length → S (2 ^ fs.length) (Q i) = 1) → (∀ i j, i < 2 ^ fs.length → j < 2 ^ fs.length → shr fs es x y i * Q i j = shr fs es x y j * Q j i) → ∀ k, k < 2 ^ fs.length → S (2 ^ fs.length) (fun i => shr fs es x y i * Q i k) = shr fs es x y k := fun Q q1 q2 k hk => by
    rw [S_congr (g := fun i => shr fs es x y k * Q k i) fun i hi => q2 i k hi hk, S_mul]
    have e : S (2 ^ fs.length) (fun i => Q k i) = 1 := q1 k hk
    rw [e, Rat.mul_one]
  have hb : ∀ v, v < fs.length → Core fs es x y (hbP (wN fs es x y) fs.length v) ∧ ∀ i k, i < 2 ^ fs.length → k < 2 ^ fs.length → Tm (hbD fs es x y v) (hbP (wN fs es x y) fs.length v i k) := fun v hv => core_heat G hv
  have hbE : ∀ v, v < fs.length → ∀ i j, i < 2 ^ fs.length → j < 2 ^ fs.length → shr fs es x y i * hbP (wN fs es x y) fs.length v i j = shr fs es x y j * hbP (wN fs es x y) fs.length v j i := fun v hv i j hi hj => by
    have := (hb v hv).1.bal i j hi hj
    unfold shr
    rw [Rat.div_def, Rat.div_def]
    generalize (wts fs es x y).sum⁻¹ = t
    generalize wN fs es x y i = a at *
    generalize wN fs es x y j = b at *
    grind
  have H4 : ∀ v, v < fs.length → hbD fs es x y v < 2 ^ 4400 := fun v hv => Nat.lt_of_le_of_lt (G.hbD_ok hv).2.1 (Nat.pow_lt_pow_right (by decide) (by decide))
  have DH : ∀ v, v < fs.length → D * hbD fs es x y v ≤ 2 ^ 4240 := fun v hv => by
    have h1 : D * hbD fs es x y v ≤ 2 ^ 2400 * 2 ^ 1840 := Nat.mul_le_mul DB (G.hbD_ok hv).2.1
    rw [← Nat.pow_add] at h1
    exact h1
  have DH0 : ∀ v, v < fs.length → 0 < D * hbD fs es x y v := fun v hv => Nat.mul_pos D0 (G.hbD_ok hv).1
  -- two moves
  have cOne : ∀ v, v < fs.length → ∀ i, i < 2 ^ fs.length → S (2 ^ fs.length) (comp (2 ^ fs.length) R (hbP (wN fs es x y) fs.length v) i) = 1 := fun v hv i hi => by
    rw [S_congr fun k hk => comp_S R _ i hk, S_swap]
    rw [S_congr (g := R i) fun j hj => by
      rw [S_mul]
      have e : S (2 ^ fs.length) (fun k => hbP (wN fs es x y) fs.length v j k) = 1 := (hb v hv).1.one j hj
      rw [e, Rat.mul_one]]
    exact one i hi
  have cTm : ∀ v, v < fs.length → ∀ i k, i < 2 ^ fs.length → k < 2 ^ fs.length → Tm (D * hbD fs es x y v) (comp (2 ^ fs.length) R (hbP (wN fs es x y) fs.length v) i k) := fun v hv i k hi hk => by
    refine tm_of (fun k hk => ?_) (cOne v hv i hi) (fun k hk => ?_) hk
    · rw [comp_S R _ i hk]
      exact S_nonneg fun j hj => Rat.mul_nonneg (tm i j hi hj).1 ((hb v hv).2 j k hj hk).1
    · rw [comp_S R _ i hk]
      exact S_int fun j hj => ((tm i j hi hj).mul ((hb v hv).2 j k hj hk)).2.2
  have pT : (2 : Nat) ^ 4240 < 2 ^ 4400 := Nat.pow_lt_pow_right (by decide) (by decide)
  refine ⟨rowOk_of h32 D0 D4 tm one, bal, ⟨h32, fun i hi => (G.shr_tm hi).sz M0 M4, fun i k hi hk => (tm i k hi hk).sz D0 D4, _, Nat.mul_pos M0 D0, MD, fun i k hi hk => (G.shr_tm hi).mul (tm i k hi hk)⟩, ebal, fun k hk => ?_, fun v hv i hi => ?_, fun v hv => ?_, fun v hv k hk => ?_, fun v hv => ?_⟩
  · rw [flS _ _ k hk]
    exact keepE R one ebal k hk
  · exact ⟨h32, fun k hk => (tm i k hi hk).sz D0 D4, fun j k hj hk => ((hb v hv).2 j k hj hk).sz (G.hbD_ok hv).1 (H4 v hv), _, DH0 v hv, Nat.lt_of_le_of_lt (DH v hv) pT, fun j k hj hk => (tm i j hi hj).mul ((hb v hv).2 j k hj hk)⟩
  · refine ⟨h32, fun i hi => (G.shr_tm hi).sz M0 M4, fun i k hi hk => (cTm v hv i k hi hk).sz (DH0 v hv) (Nat.lt_of_le_of_lt (DH v hv) pT), _, Nat.mul_pos M0 (DH0 v hv), ?_, fun i k hi hk => (G.shr_tm hi).mul (cTm v hv i k hi hk)⟩
    have h1 : mS fs es x y * (D * hbD fs es x y v) ≤ 2 ^ 119 * 2 ^ 4240 := Nat.mul_le_mul (Nat.le_of_lt M1) (DH v hv)
    rw [← Nat.pow_add] at h1
    exact Nat.lt_of_le_of_lt h1 (Nat.pow_lt_pow_right (by decide) (by decide))
  · rw [flS _ _ k hk]
    rw [S_congr (g := fun i => S (2 ^ fs.length) (fun j => (shr fs es x y i * R i j) * hbP (wN fs es x y) fs.length v j k)) fun i hi => by
      rw [comp_S R _ i hk, ← S_mul]
      exact S_congr fun j _ => by rw [Rat.mul_assoc]]
    rw [S_swap]
    rw [S_congr (g := fun j => shr fs es x y j * hbP (wN fs es x y) fs.length v j k) fun j hj => by
      rw [S_mulr, keepE R one ebal j hj]]
    exact keepE _ (hb v hv).1.one (hbE v hv) k hk
  · exact rowOk_of h32 (DH0 v hv) (Nat.lt_of_le_of_lt (DH v hv) pT) (cTm v hv) (cOne v hv)
theorem cap_bd {r : Rat} (h : 0 < r) : 0 ≤ cap r ∧ cap r ≤ 1 := by
  unfold cap
  split
  · exact ⟨by decide, Rat.le_refl⟩
  · exact ⟨Rat.le_of_lt h, by grind⟩
/-- the trial's bottom -/
def trD (x y : Rat) : Nat := (x.num.toNat ^ 40 * x.den ^ 40) * (y.num.toNat ^ 5 * y.den ^ 5)
theorem Good.trD_ok (G : Good fs es x y) : 0 < trD x y ∧ trD x y ≤ 2 ^ 2400 ∧ ∀ i, i < 2 ^ fs.length → mN fs es x y i ∣ trD x y := by
  have h1 := num_pos' G.x0
  have h2 := num_pos' G.y0
  have b1 : x.num.toNat ≤ 6 := by have := G.xn; omega
  have b2 : x.den ≤ 6 := by have := G.xd; omega
  have b3 : y.num.toNat ≤ 4 := by have := G.yn; omega
  have b4 : y.den ≤ 4 := by have := G.yd; omega
  refine ⟨Nat.mul_pos (Nat.mul_pos (Nat.pow_pos (by omega)) (Nat.pow_pos x.den_pos)) (Nat.mul_pos (Nat.pow_pos (by omega)) (Nat.pow_pos y.den_pos)), ?_, fun i hi => ?_⟩
  · have c : trD x y ≤ (6 ^ 40 * 6 ^ 40) * (4 ^ 5 * 4 ^ 5) := Nat.mul_le_mul (Nat.mul_le_mul (Nat.pow_le_pow_left b1 _) (Nat.pow_le_pow_left b2 _)) (Nat.mul_le_mul (Nat.pow_le_pow_left b3 _) (Nat.pow_le_pow_left b4 _))
    have c2 : (6 ^ 40 * 6 ^ 40) * (4 ^ 5 * 4 ^ 5) ≤ 2 ^ 230 := by decide
    exact Nat.le_trans c (Nat.le_trans c2 (Nat.pow_le_pow_right (by decide) (by decide)))
  · have r := G.rng (stN_mem hi)
    have u := G.ups (stN_mem hi)
    unfold mN mI trD
    exact Nat.mul_dvd_mul (Nat.mul_dvd_mul (Nat.pow_dvd_pow _ (by omega)) (Nat.pow_dvd_pow _ (by omega))) (Nat.mul_dvd_mul (Nat.pow_dvd_pow _ (by omega)) (Nat.pow_dvd_pow _ (by omega)))
theorem core_trial (G : Good fs es x y) {v : Nat} (hv : v < fs.length) : Core fs es x y (trP (wN fs es x y) fs.length v) := by
  have hlt : ∀ i, i < 2 ^ fs.length → turnN fs.length i v < 2 ^ fs.length := fun i hi => turnN_lt hi (by omega)
  obtain ⟨d0, d1, d2⟩ := G.trD_ok
  have rp : ∀ i j, i < 2 ^ fs.length → j < 2 ^ fs.length → 0 < wN fs es x y j / wN fs es x y i := fun i j hi hj => by
    rw [Rat.div_def]
    exact Rat.mul_pos (G.pos hj) (Rat.inv_pos.mpr (G.pos hi))
  have ct : ∀ i j, i < 2 ^ fs.length → j < 2 ^ fs.length → Tm (trD x y) (cap (wN fs es x y j / wN fs es x y i)) := fun i j hi hj => by
    obtain ⟨c0, c1⟩ := cap_bd (rp i j hi hj)
    refine ⟨c0, c1, ?_⟩
    unfold cap
    split
    · exact (Tm.one _).2.2
    · obtain ⟨c, hc⟩ := d2 i hi
      refine ⟨((mN fs es x y j * c : Nat) : Int), ?_⟩
      rw [hc, Rat.natCast_mul, ← Rat.mul_assoc, G.ratio hi hj, ← Rat.natCast_mul]
      rfl
  have tm : ∀ i k, i < 2 ^ fs.length → k < 2 ^ fs.length → Tm (trD x y) (trP (wN fs es x y) fs.length v i k) := fun i k hi hk => by
    unfold trP
    split
    · exact ct i _ hi (hlt i hi)
    · split
      · exact (ct i _ hi (hlt i hi)).sub
      · exact Tm.zero _
  refine ⟨fun i hi => ?_, fun i j hi hj => ?_, _, d0, d1, tm⟩
  · have e : trP (wN fs es x y) fs.length v i = fun k => if turnN fs.length i v = k then cap (wN fs es x y (turnN fs.length i v) / wN fs es x y i) else if i = k then 1 - cap (wN fs es x y (turnN fs.length i v) / wN fs es x y i) else 0 := rfl
    rw [e, S_two hi (hlt i hi) (turnN_ne fs.length i v)]
    grind
  · unfold trP
    have e1 : turnN fs.length i v = j ↔ turnN fs.length j v = i := ⟨fun h => by rw [← h, turnN_turnN], fun h => by rw [← h, turnN_turnN]⟩
    by_cases h1 : turnN fs.length i v = j
    · rw [if_pos h1, if_pos (e1.mp h1), h1, e1.mp h1]
      have a1 := G.pos hi
      have a2 := G.pos hj
      unfold cap
      generalize wN fs es x y i = a at *
      generalize wN fs es x y j = b at *
      have na : a ≠ 0 := by grind
      have nb : b ≠ 0 := by grind
      have l1 : 1 < b / a ↔ a < b := by rw [Rat.lt_div_iff a1, Rat.one_mul]
      have l2 : 1 < a / b ↔ b < a := by rw [Rat.lt_div_iff a2, Rat.one_mul]
      by_cases q1 : a < b
      · rw [if_pos (l1.mpr q1), if_neg (fun z => by have := l2.mp z; grind)]
        grind
      · by_cases q2 : b < a
        · rw [if_neg (fun z => q1 (l1.mp z)), if_pos (l2.mpr q2)]
          grind
        · have : a = b := by grind
          subst this
          rfl
    · rw [if_neg h1, if_neg (fun z => h1 (e1.mpr z))]
      by_cases h2 : i = j
      · subst h2
        rfl
      · rw [if_neg h2, if_neg (fun z => h2 z.symm), Rat.mul_zero, Rat.mul_zero]
end K49
/-! the clusters: what they are -/
namespace K49
theorem getD_map {l : List Nat} {g : Nat → Nat} {i : Nat} (h : i < l.length) : (l.map g).getD i 0 = g (l.getD i 0) := by
  rw [List.getD, List.getD, List.getElem?_map, List.getElem?_eq_getElem h]
  rfl
theorem getD_range {n i : Nat} (h : i < n) : (List.range n).getD i 0 = i := by
  rw [List.getD, List.getElem?_range h]
  rfl
theorem getD_snoc {l : List Nat} {a i : Nat} (h : i < l.length) : (l ++ [a]).getD i 0 = l.getD i 0 := by
  rw [List.getD, List.getD, List.getElem?_append_left h]
theorem getD_last {l : List Nat} {a : Nat} : (l ++ [a]).getD l.length 0 = a := by
  rw [List.getD, List.getElem?_append_right (Nat.le_refl _), Nat.sub_self]
  rfl
/-- the vertices of a group are those with its part -/
theorem grp_mem (ps : List Nat) : (∀ q ∈ grp ps, (∀ v, v ∈ q.2 ↔ v < ps.length ∧ ps.getD v 0 = q.1) ∧ q.2.Nodup ∧ q.2 ≠ []) ∧ ∀ v, v < ps.length → ∃ q ∈ grp ps, q.1 = ps.getD v 0 := by
  induction ps using snocInd with
  | h0 => exact ⟨fun q hq => (by cases hq), fun v hv => by simp at hv⟩
  | hs l p ih =>
    obtain ⟨i1, i2⟩ := ih
    rw [grp_snoc]
    have hll : (l ++ [p]).length = l.length + 1 := by rw [List.length_append]; rfl
    have out : ∀ q ∈ grp l, l.length ∉ q.2 := fun q hq hm => by
      have := ((i1 q hq).1 l.length).mp hm
      omega
    refine ⟨fun q hq => ?_, fun v hv => ?_⟩
    · rcases mem_gput hq with ⟨hne, hq⟩ | ⟨hn, rfl⟩ | ⟨vs, hv, rfl⟩
      · obtain ⟨j1, j2, j3⟩ := i1 q hq
        refine ⟨fun v => ?_, j2, j3⟩
        rw [j1, hll]
        constructor
        · rintro ⟨h1, h2⟩
          exact ⟨by omega, by rw [getD_snoc h1]; exact h2⟩
        · rintro ⟨h1, h2⟩
          by_cases h3 : v < l.length
          · rw [getD_snoc h3] at h2
            exact ⟨h3, h2⟩
          · have : v = l.length := by omega
            subst this
            rw [getD_last] at h2
            exact absurd h2.symm hne
      · refine ⟨fun v => ?_, by simp, by simp⟩
        rw [List.mem_singleton, hll]
        constructor
        · rintro rfl
          exact ⟨by omega, getD_last⟩
        · rintro ⟨h1, h2⟩
          by_cases h3 : v < l.length
          · rw [getD_snoc h3] at h2
            obtain ⟨q, hq, e⟩ := i2 v h3
            have h4 : q.1 = p := by rw [e]; exact h2
            exact absurd (List.mem_map.mpr ⟨q, hq, h4⟩) hn
          · omega
      · obtain ⟨j1, j2, j3⟩ := i1 (p, vs) hv
        refine ⟨fun v => ?_, ?_, by simp⟩
        · rw [List.mem_append, List.mem_singleton, hll]
          constructor
          · rintro (h | rfl)
            · obtain ⟨h1, h2⟩ := (j1 v).mp h
              exact ⟨by omega, by rw [getD_snoc h1]; exact h2⟩
            · exact ⟨by omega, getD_last⟩
          · rintro ⟨h1, h2⟩
            by_cases h3 : v < l.length
            · rw [getD_snoc h3] at h2
              exact .inl ((j1 v).mpr ⟨h3, h2⟩)
            · exact .inr (by omega)
        · show (vs ++ [l.length]).Nodup
          rw [List.nodup_append]
          exact ⟨j2, by simp, fun a ha b hb => by simp at hb; subst hb; exact fun z => out _ hv (z ▸ ha)⟩
    · by_cases h3 : v < l.length
      · obtain ⟨q, hq, e⟩ := i2 v h3
        have hk : q.1 ∈ (gput (grp l) p l.length).map (·.1) := by
          rw [gput_keys]
          split
          · exact List.mem_map.mpr ⟨q, hq, rfl⟩
          · exact List.mem_append_left _ (List.mem_map.mpr ⟨q, hq, rfl⟩)
        obtain ⟨r, hr, e2⟩ := List.mem_map.mp hk
        exact ⟨r, hr, by rw [e2, e, getD_snoc h3]⟩
      · have : v = l.length := by omega
        subst this
        have hk : p ∈ (gput (grp l) p l.length).map (·.1) := by
          rw [gput_keys]
          split
          · assumption
          · exact List.mem_append_right _ (by simp)
        obtain ⟨r, hr, e2⟩ := List.mem_map.mp hk
        exact ⟨r, hr, by rw [e2, getD_last]⟩
/-- a sum and a product over the vertices, by groups -/
theorem grp_sum (f : Nat → Rat) (ps : List Nat) : ((grp ps).map fun q => (q.2.map f).sum).sum = S ps.length f := by
  induction ps using snocInd with
  | h0 => rfl
  | hs l p ih =>
    rw [grp_snoc, List.length_append, List.length_singleton, S_succ, ← ih]
    have nd := grp_nodup l
    generalize grp l = g at nd
    unfold gput
    split
    · rename_i hp
      clear ih
      induction g with
      | nil => simp at hp
      | cons q g ihg =>
        rw [List.map_cons, List.nodup_cons] at nd
        rw [List.map_cons, List.map_cons, List.sum_cons, List.map_cons, List.sum_cons]
        by_cases hq : q.1 = p
        · have e : g.map (fun q => if q.1 = p then (q.1, q.2 ++ [l.length]) else q) = g := by
            rw [List.map_congr_left (g := id), List.map_id]
            intro r hr
            rw [if_neg fun z => nd.1 (List.mem_map.mpr ⟨r, hr, by rw [z, hq]⟩)]
            rfl
          rw [if_pos hq, e]
          show ((q.2 ++ [l.length]).map f).sum + _ = _
          rw [List.map_append, List.map_singleton, sum_snoc]
          grind
        · have hp2 : p ∈ g.map (·.1) := by
            rw [List.map_cons] at hp
            rcases List.mem_cons.mp hp with h | h
            · exact absurd h.symm hq
            · exact h
          rw [if_neg hq, ihg nd.2 hp2]
          grind
    · rw [List.map_append, List.map_singleton, sum_snoc]
      show _ + (List.map f [l.length]).sum = _
      rw [List.map_singleton, List.sum_cons, List.sum_nil, Rat.add_zero]
/-- products -/
def pr (l : List Rat) : Rat := l.foldr (· * ·) 1
theorem pr_nil : pr [] = 1 := rfl
theorem pr_cons (a : Rat) (l : List Rat) : pr (a :: l) = a * pr l := rfl
theorem pr_append (l m : List Rat) : pr (l ++ m) = pr l * pr m := by
  induction l with
  | nil => rw [List.nil_append, pr_nil, Rat.one_mul]
  | cons a l ih => rw [List.cons_append, pr_cons, pr_cons, ih, Rat.mul_assoc]
theorem pr_one (a : Rat) : pr [a] = a := Rat.mul_one a
theorem pr_mul {α : Type} (f g : α → Rat) (l : List α) : pr (l.map fun a => f a * g a) = pr (l.map f) * pr (l.map g) := by
  induction l with
  | nil => rw [List.map_nil, List.map_nil, List.map_nil, pr_nil, Rat.mul_one]
  | cons a l ih => rw [List.map_cons, List.map_cons, List.map_cons, pr_cons, pr_cons, pr_cons, ih]; grind
theorem pr_pos : ∀ {l : List Rat}, (∀ a ∈ l, 0 < a) → 0 < pr l
  | [], _ => by decide
  | a :: l, h => by
    rw [pr_cons]
    exact Rat.mul_pos (h a List.mem_cons_self) (pr_pos fun b hb => h b (List.mem_cons_of_mem _ hb))
theorem pr_const1 {α : Type} (l : List α) : pr (l.map fun _ => 1) = 1 := by
  induction l with
  | nil => rfl
  | cons a l ih => rw [List.map_cons, pr_cons, ih, Rat.one_mul]
/-- the product below n -/
def Pr (n : Nat) (f : Nat → Rat) : Rat := pr ((List.range n).map f)
theorem Pr_succ (n : Nat) (f : Nat → Rat) : Pr (n + 1) f = Pr n f * f n := by
  unfold Pr
  rw [List.range_succ, List.map_append, List.map_singleton, pr_append, pr_one]
theorem Pr_congr {n : Nat} {f g : Nat → Rat} (h : ∀ i, i < n → f i = g i) : Pr n f = Pr n g := by
  unfold Pr
  rw [List.map_congr_left fun i hi => h i (List.mem_range.mp hi)]
theorem grp_pr (f : Nat → Rat) (ps : List Nat) : pr ((grp ps).map fun q => pr (q.2.map f)) = Pr ps.length f := by
  induction ps using snocInd with
  | h0 => rfl
  | hs l p ih =>
    rw [grp_snoc, List.length_append, List.length_singleton, Pr_succ, ← ih]
    have nd := grp_nodup l
    generalize grp l = g at nd
    unfold gput
    split
    · rename_i hp
      clear ih
      induction g with
      | nil => simp at hp
      | cons q g ihg =>
        rw [List.map_cons, List.nodup_cons] at nd
        rw [List.map_cons, List.map_cons, pr_cons, List.map_cons, pr_cons]
        by_cases hq : q.1 = p
        · have e : g.map (fun q => if q.1 = p then (q.1, q.2 ++ [l.length]) else q) = g := by
            rw [List.map_congr_left (g := id), List.map_id]
            intro r hr
            rw [if_neg fun z => nd.1 (List.mem_map.mpr ⟨r, hr, by rw [z, hq]⟩)]
            rfl
          rw [if_pos hq, e]
          show pr ((q.2 ++ [l.length]).map f) * _ = _
          rw [List.map_append, List.map_singleton, pr_append, pr_one]
          grind
        · have hp2 : p ∈ g.map (·.1) := by
            rw [List.map_cons] at hp
            rcases List.mem_cons.mp hp with h | h
            · exact absurd h.symm hq
            · exact h
          rw [if_neg hq, ihg nd.2 hp2]
          grind
    · rw [List.map_append, List.map_singleton, pr_append, pr_one]
      show _ * pr (List.map f [l.length]) = _
      rw [List.map_singleton, pr_one]
/-! ### the parts of the pairs -/
/-- s tells the same on the ends of each pair -/
def cst (s : List Int) (prs : List (Nat × Nat)) : Prop := ∀ e ∈ prs, s.getD e.1 0 = s.getD e.2 0
instance (s : List Int) (prs : List (Nat × Nat)) : Decidable (cst s prs) := by unfold cst; infer_instance
theorem cst_snoc (s : List Int) (prs : List (Nat × Nat)) (e : Nat × Nat) : cst s (prs ++ [e]) ↔ cst s prs ∧ s.getD e.1 0 = s.getD e.2 0 := by
  unfold cst
  constructor
  · intro h
    exact ⟨fun a ha => h a (List.mem_append_left _ ha), h e (by simp)⟩
  · rintro ⟨h1, h2⟩ a ha
    rcases List.mem_append.mp ha with ha | ha
    · exact h1 a ha
    · rw [List.mem_singleton.mp ha]
      exact h2
theorem parts_eq {n : Nat} (prs : List (Nat × Nat)) (hp : ∀ e ∈ prs, e.1 < n ∧ e.2 < n) : ∀ e ∈ prs, (partsF (List.range n) prs).getD e.1 0 = (partsF (List.range n) prs).getD e.2 0 := by
  induction prs using snocInd with
  | h0 => intro e he; cases he
  | hs l e0 ih =>
    have ih := ih fun e he => hp e (List.mem_append_left _ he)
    have hlen : (partsF (List.range n) l).length = n := by rw [partsF_len, List.length_range]
    have h0 := hp e0 (by simp)
    intro e he
    have hpe := hp e he
    rw [partsF_snoc]
    unfold partU
    rw [getD_map (by rw [hlen]; exact hpe.1), getD_map (by rw [hlen]; exact hpe.2)]
    rcases List.mem_append.mp he with he | he
    · rw [ih e he]
    · rw [List.mem_singleton.mp he]
      rw [if_pos rfl]
      split <;> rfl
theorem parts_cst {n : Nat} {s : List Int} (prs : List (Nat × Nat)) (hp : ∀ e ∈ prs, e.1 < n ∧ e.2 < n) (hc : cst s prs) : ∀ a b, a < n → b < n → (partsF (List.range n) prs).getD a 0 = (partsF (List.range n) prs).getD b 0 → s.getD a 0 = s.getD b 0 := by
  induction prs using snocInd with
  | h0 =>
    intro a b ha hb h
    have e1 : (partsF (List.range n) []).getD a 0 = a := getD_range ha
    have e2 : (partsF (List.range n) []).getD b 0 = b := getD_range hb
    rw [e1, e2] at h
    rw [h]
  | hs l e0 ih =>
    obtain ⟨c1, c2⟩ := (cst_snoc _ _ _).mp hc
    have ih := ih (fun e he => hp e (List.mem_append_left _ he)) c1
    have hlen : (partsF (List.range n) l).length = n := by rw [partsF_len, List.length_range]
    have h0 := hp e0 (by simp)
    intro a b ha hb
    rw [partsF_snoc]
    unfold partU
    rw [getD_map (by rw [hlen]; exact ha), getD_map (by rw [hlen]; exact hb)]
    by_cases q1 : (partsF (List.range n) l).getD a 0 = (partsF (List.range n) l).getD e0.2 0
    · rw [if_pos q1]
      have r1 := ih a e0.2 ha h0.2 q1
      by_cases q2 : (partsF (List.range n) l).getD b 0 = (partsF (List.range n) l).getD e0.2 0
      · intro _
        rw [r1, ih b e0.2 hb h0.2 q2]
      · rw [if_neg q2]
        intro h
        rw [r1, ← c2, ih e0.1 b h0.1 hb h]
    · rw [if_neg q1]
      by_cases q2 : (partsF (List.range n) l).getD b 0 = (partsF (List.range n) l).getD e0.2 0
      · rw [if_pos q2]
        intro h
        rw [ih a e0.1 ha h0.1 h, c2, ih b e0.2 hb h0.2 q2]
      · rw [if_neg q2]
        exact ih a b ha hb
/-- what the clusters are -/
structure Part (n : Nat) (cs : List (List Nat)) : Prop where
  nd : ∀ c ∈ cs, c.Nodup
  ne : ∀ c ∈ cs, c ≠ []
  lt : ∀ c ∈ cs, ∀ v ∈ c, v < n
  all : ∀ v, v < n → ∃ c ∈ cs, v ∈ c
  dis : cs.Pairwise fun c d => ∀ v ∈ c, v ∉ d
  len : cs.length ≤ n
  sum : ∀ f : Nat → Rat, (cs.map fun c => (c.map f).sum).sum = S n f
  prd : ∀ f : Nat → Rat, pr (cs.map fun c => pr (c.map f)) = Pr n f
theorem part_clus (n : Nat) (prs : List (Nat × Nat)) : Part n (clus n prs) := by
  have hlen : (partsF (List.range n) prs).length = n := by rw [partsF_len, List.length_range]
  unfold clus
  generalize partsF (List.range n) prs = ps at hlen
  obtain ⟨g1, g2⟩ := grp_mem ps
  refine ⟨fun c hc => ?_, fun c hc => ?_, fun c hc v hv => ?_, fun v hv => ?_, ?_, ?_, fun f => ?_, fun f => ?_⟩
  · obtain ⟨q, hq, rfl⟩ := List.mem_map.mp hc
    exact (g1 q hq).2.1
  · obtain ⟨q, hq, rfl⟩ := List.mem_map.mp hc
    exact (g1 q hq).2.2
  · obtain ⟨q, hq, rfl⟩ := List.mem_map.mp hc
    have := ((g1 q hq).1 v).mp hv
    omega
  · obtain ⟨q, hq, e⟩ := g2 v (by omega)
    exact ⟨q.2, List.mem_map.mpr ⟨q, hq, rfl⟩, ((g1 q hq).1 v).mpr ⟨by omega, e.symm⟩⟩
  · rw [List.pairwise_map]
    have nd := grp_nodup ps
    rw [List.Nodup, List.pairwise_map] at nd
    refine nd.imp_of_mem fun {q r} hq hr hne v hv hv2 => hne ?_
    rw [← (((g1 q hq).1 v).mp hv).2, (((g1 r hr).1 v).mp hv2).2]
  · rw [List.length_map]
    have := grp_len ps
    omega
  · rw [List.map_map]
    have := grp_sum f ps
    rw [hlen] at this
    exact this
  · rw [List.map_map]
    have := grp_pr f ps
    rw [hlen] at this
    exact this
def cstC (s : List Int) (cs : List (List Nat)) : Prop := ∀ c ∈ cs, ∀ a ∈ c, ∀ b ∈ c, s.getD a 0 = s.getD b 0
instance (s : List Int) (cs : List (List Nat)) : Decidable (cstC s cs) := by unfold cstC; infer_instance
theorem cst_iff {n : Nat} {s : List Int} {prs : List (Nat × Nat)} (hp : ∀ e ∈ prs, e.1 < n ∧ e.2 < n) : cst s prs ↔ cstC s (clus n prs) := by
  have hlen : (partsF (List.range n) prs).length = n := by rw [partsF_len, List.length_range]
  obtain ⟨g1, g2⟩ := grp_mem (partsF (List.range n) prs)
  constructor
  · intro hc c hcm a ha b hb
    unfold clus at hcm
    obtain ⟨q, hq, rfl⟩ := List.mem_map.mp hcm
    have h1 := ((g1 q hq).1 a).mp ha
    have h2 := ((g1 q hq).1 b).mp hb
    exact parts_cst prs hp hc a b (by omega) (by omega) (by rw [h1.2, h2.2])
  · intro hc e he
    have hpe := hp e he
    obtain ⟨q, hq, e1⟩ := g2 e.1 (by omega)
    refine hc q.2 (List.mem_map.mpr ⟨q, hq, rfl⟩) e.1 (((g1 q hq).1 _).mpr ⟨by omega, e1.symm⟩) e.2 (((g1 q hq).1 _).mpr ⟨by omega, ?_⟩)
    rw [← parts_eq prs hp e he, e1]
end K49
/-! states and their numbers; the colours -/
namespace K49
theorem flat2 {α β : Type} (f g : α → β) : ∀ (l : List α) (i : Nat), (l.flatMap fun s => [f s, g s])[2 * i]? = l[i]?.map f ∧ (l.flatMap fun s => [f s, g s])[2 * i + 1]? = l[i]?.map g
  | [], i => by simp
  | a :: l, 0 => by simp
  | a :: l, i + 1 => by
    have ih := flat2 f g l i
    have e : ((a :: l).flatMap fun s => [f s, g s]) = f a :: g a :: l.flatMap fun s => [f s, g s] := rfl
    rw [e, show 2 * (i + 1) = 2 * i + 1 + 1 by omega, List.getElem?_cons_succ, List.getElem?_cons_succ, List.getElem?_cons_succ, List.getElem?_cons_succ, List.getElem?_cons_succ]
    exact ih
theorem idx_at : ∀ (n i : Nat) (s : List Int), (sts n)[i]? = some s → idx s = i
  | 0, i, s, h => by
    have h : ([[]] : List (List Int))[i]? = some s := h
    match i, h with
    | 0, h => cases h; rfl
  | n + 1, i, s, h => by
    unfold sts at h
    obtain ⟨h1, h2⟩ := flat2 (fun s : List Int => s ++ [0]) (fun s => s ++ [1]) (sts n) (i / 2)
    by_cases hm : i % 2 = 0
    · have e : 2 * (i / 2) = i := by omega
      rw [e, h] at h1
      obtain ⟨t, e1, e2⟩ := Option.map_eq_some_iff.mp h1.symm
      have := idx_at n _ t e1
      rw [← e2, idx_snoc, this]
      show 2 * (i / 2) + 0 = i
      omega
    · have e : 2 * (i / 2) + 1 = i := by omega
      rw [e, h] at h2
      obtain ⟨t, e1, e2⟩ := Option.map_eq_some_iff.mp h2.symm
      have := idx_at n _ t e1
      rw [← e2, idx_snoc, this]
      show 2 * (i / 2) + 1 = i
      omega
theorem mem_sts (s : List Int) (hb : ∀ b ∈ s, b = 0 ∨ b = 1) : s ∈ sts s.length := by
  induction s using snocInd with
  | h0 => exact List.mem_singleton.mpr rfl
  | hs l a ih =>
    have ih := ih fun b h => hb b (List.mem_append_left _ h)
    rw [List.length_append, List.length_singleton]
    unfold sts
    refine List.mem_flatMap.mpr ⟨l, ih, ?_⟩
    rcases hb a (by simp) with rfl | rfl
    · exact List.mem_cons_self
    · exact List.mem_cons_of_mem _ List.mem_cons_self
theorem st_idx {n : Nat} {s : List Int} (hl : s.length = n) (hb : ∀ b ∈ s, b = 0 ∨ b = 1) : stN n (idx s) = s ∧ idx s < 2 ^ n := by
  have hm := mem_sts s hb
  rw [hl] at hm
  obtain ⟨i, hi⟩ := List.getElem?_of_mem hm
  have e := idx_at n i s hi
  have hlt := (List.getElem?_eq_some_iff.mp hi).1
  rw [sts_len] at hlt
  rw [e]
  refine ⟨?_, hlt⟩
  unfold stN
  rw [List.getD, hi]
  rfl
theorem idx_st {n i : Nat} (h : i < 2 ^ n) : idx (stN n i) = i := by
  have hl : i < (sts n).length := by rw [sts_len]; exact h
  refine idx_at n i _ ?_
  unfold stN
  rw [List.getD, List.getElem?_eq_getElem hl]
  rfl
theorem st_inj {n i j : Nat} (hi : i < 2 ^ n) (hj : j < 2 ^ n) (h : stN n i = stN n j) : i = j := by
  rw [← idx_st hi, ← idx_st hj, h]
/-! ### the weight without edges -/
def Fw (fs : List Int) (x y : Rat) (s : List Int) : Rat := x ^ paid fs s * y ^ s.sum
def phi (fs : List Int) (x y : Rat) (v : Nat) (b : Int) : Rat := if b = 1 then x ^ fs.getD v 0 * y else 1
theorem wt_Fw {fs : List Int} {es : List (Nat × Nat × Int)} {x y : Rat} (hx : x ≠ 0) (s : List Int) : wt fs es x y s = Fw fs x y s * x ^ cut es s := by
  unfold wt Fw costI
  rw [Rat.zpow_add hx]
  grind
theorem Fw_pr {fs s : List Int} {x y : Rat} (hx : x ≠ 0) (hl : s.length = fs.length) (hb : ∀ b ∈ s, b = 0 ∨ b = 1) (hy : y ≠ 0) : Fw fs x y s = Pr fs.length (fun v => phi fs x y v (s.getD v 0)) := by
  have h : ∀ k, k ≤ fs.length → x ^ paid (fs.take k) (s.take k) * y ^ (s.take k).sum = Pr k (fun v => phi fs x y v (s.getD v 0)) := by
    intro k
    induction k with
    | zero =>
      intro _
      have e1 : paid (fs.take 0) (s.take 0) = 0 := rfl
      have e2 : (s.take 0).sum = 0 := rfl
      rw [e1, e2, Rat.zpow_zero, Rat.zpow_zero, Rat.mul_one]
      rfl
    | succ k ih =>
      intro hk
      have hs : k < s.length := by omega
      have e2 : (s.take (k + 1)).sum = (s.take k).sum + s.getD k 0 := by
        rw [List.take_succ_eq_append_getElem hs, List.sum_append, List.getD, List.getElem?_eq_getElem hs]
        show _ + (s[k] + 0) = _
        rw [Int.add_zero]
        rfl
      rw [Pr_succ, ← ih (by omega), paid_step (by omega) hs, e2, Rat.zpow_add hx, Rat.zpow_add hy]
      have hbk : s.getD k 0 = 0 ∨ s.getD k 0 = 1 := by
        rw [List.getD, List.getElem?_eq_getElem hs]
        exact hb _ (List.getElem_mem hs)
      unfold phi
      rcases hbk with h | h
      · rw [h, if_neg (by decide), if_neg (by decide), Rat.zpow_zero, Rat.zpow_zero]
        grind
      · rw [h, if_pos rfl, if_pos rfl, Rat.zpow_one]
        grind
  have := h fs.length (Nat.le_refl _)
  rw [List.take_length, ← hl, List.take_length] at this
  unfold Fw
  rw [this, hl]
theorem pr_upW {fs : List Int} {x y : Rat} (hx : x ≠ 0) (hy : y ≠ 0) : ∀ c : List Nat, pr (c.map fun v => x ^ fs.getD v 0 * y) = upW fs x y c
  | [] => by
    unfold upW fieldSum
    rw [List.map_nil, List.map_nil, List.sum_nil, Rat.zpow_zero]
    show (1 : Rat) = 1 * y ^ (0 : Int)
    rw [Rat.zpow_zero, Rat.mul_one]
  | v :: c => by
    have ih := pr_upW (fs := fs) hx hy c
    unfold upW fieldSum at *
    rw [List.map_cons, pr_cons, ih, List.map_cons, List.sum_cons, Rat.zpow_add hx, List.length_cons, Int.natCast_add, Rat.zpow_add hy]
    have : ((1 : Nat) : Int) = 1 := rfl
    rw [this, Rat.zpow_one]
    grind
/-! ### puts -/
theorem putL_out {k : Nat} {l : List (Nat × Rat)} (h : ∀ p ∈ l, p.1 ≠ k) : putL l k = 0 := by
  induction l using snocInd with
  | h0 => rfl
  | hs l a ih =>
    rw [putL_snoc]
    show (if a.1 = k then a.2 else putL l k) = 0
    rw [if_neg (h a (by simp))]
    exact ih fun p hp => h p (List.mem_append_left _ hp)
theorem putL_in {k : Nat} {q : Rat} {l : List (Nat × Rat)} (he : ∃ p ∈ l, p.1 = k) (h : ∀ p ∈ l, p.1 = k → p.2 = q) : putL l k = q := by
  induction l using snocInd with
  | h0 => obtain ⟨p, hp, _⟩ := he; cases hp
  | hs l a ih =>
    rw [putL_snoc]
    show (if a.1 = k then a.2 else putL l k) = q
    by_cases ha : a.1 = k
    · rw [if_pos ha]
      exact h a (by simp) ha
    · rw [if_neg ha]
      obtain ⟨p, hp, e⟩ := he
      rcases List.mem_append.mp hp with hp | hp
      · exact ih ⟨p, hp, e⟩ fun r hr => h r (List.mem_append_left _ hr)
      · rw [List.mem_singleton.mp hp] at e
        exact absurd e ha
theorem putL_sum {N : Nat} {l : List (Nat × Rat)} (nd : (l.map (·.1)).Nodup) (lt : ∀ p ∈ l, p.1 < N) : S N (putL l) = (l.map (·.2)).sum := by
  induction l using snocInd with
  | h0 => exact S_const0 N
  | hs l a ih =>
    rw [List.map_append, List.nodup_append] at nd
    have ih := ih nd.1 fun p hp => lt p (List.mem_append_left _ hp)
    have hout : putL l a.1 = 0 := putL_out fun p hp z => nd.2.2 p.1 (List.mem_map.mpr ⟨p, hp, rfl⟩) a.1 (by simp) z
    rw [putL_snoc, List.map_append, List.map_singleton, sum_snoc, ← ih]
    have e : S N (fun k => if a.1 = k then a.2 else putL l k) = S N (fun k => putL l k + if a.1 = k then a.2 else 0) := S_congr fun k _ => by
      by_cases hk : a.1 = k
      · rw [if_pos hk, if_pos hk, ← hk, hout, Rat.zero_add]
      · rw [if_neg hk, if_neg hk, Rat.add_zero]
    rw [e, S_add, S_one, if_pos (lt a (by simp))]
/-! ### the colours -/
def upA (a : Nat → Int) (c : List Nat) : Bool := c.any fun v => decide (a v = 1)
def hc (fs : List Int) (x y : Rat) (a : Nat → Int) (c : List Nat) : Rat := if upA a c = true then upP fs x y c else 1 - upP fs x y c
def cstA (a : Nat → Int) (cs : List (List Nat)) : Prop := ∀ c ∈ cs, ∀ u ∈ c, ∀ v ∈ c, a u = a v
theorem upA_congr {a b : Nat → Int} {c : List Nat} (h : ∀ v ∈ c, a v = b v) : upA a c = upA b c := by
  unfold upA
  induction c with
  | nil => rfl
  | cons v c ih => rw [List.any_cons, List.any_cons, h v List.mem_cons_self, ih fun w hw => h w (List.mem_cons_of_mem _ hw)]
section
variable {fs : List Int} {x y : Rat}
theorem setA_in {a : Nat → Int} {c : List Nat} {b : Int} {v : Nat} (h : v ∈ c) : setA a c b v = b := if_pos h
theorem setA_out {a : Nat → Int} {c : List Nat} {b : Int} {v : Nat} (h : v ∉ c) : setA a c b v = a v := if_neg h
theorem col_ent (cs : List (List Nat)) (dis : cs.Pairwise fun c d => ∀ v ∈ c, v ∉ d) (ne : ∀ c ∈ cs, c ≠ []) : ∀ p ∈ col fs x y cs, cstA p.1 cs ∧ p.2 = pr (cs.map (hc fs x y p.1)) := by
  induction cs using snocInd with
  | h0 =>
    intro p hp
    rw [List.mem_singleton.mp hp]
    exact ⟨fun c hc => (by cases hc), rfl⟩
  | hs cs c ih =>
    obtain ⟨d1, _, d2⟩ := List.pairwise_append.mp dis
    have ih := ih d1 fun c hc => ne c (List.mem_append_left _ hc)
    have hcne := ne c (by simp)
    rw [col_snoc]
    intro p hp
    unfold paint at hp
    obtain ⟨b, hb, hp⟩ := List.mem_flatMap.mp hp
    obtain ⟨q, hq, rfl⟩ := List.mem_map.mp hp
    obtain ⟨i1, i2⟩ := ih q hq
    have off : ∀ c' ∈ cs, ∀ v ∈ c', setA q.1 c b.1 v = q.1 v := fun c' hc' v hv => setA_out (d2 c' hc' c (by simp) v hv)
    refine ⟨fun c' hc' u hu v hv => ?_, ?_⟩
    · rcases List.mem_append.mp hc' with hc' | hc'
      · show setA q.1 c b.1 u = setA q.1 c b.1 v
        rw [off c' hc' u hu, off c' hc' v hv]
        exact i1 c' hc' u hu v hv
      · rw [List.mem_singleton.mp hc'] at hu hv
        show setA q.1 c b.1 u = setA q.1 c b.1 v
        rw [setA_in hu, setA_in hv]
    · show q.2 * b.2 = pr ((cs ++ [c]).map (hc fs x y (setA q.1 c b.1)))
      rw [List.map_append, pr_append, List.map_singleton, pr_one, i2]
      have e1 : cs.map (hc fs x y (setA q.1 c b.1)) = cs.map (hc fs x y q.1) := List.map_congr_left fun c' hc' => by
        unfold hc
        rw [upA_congr (off c' hc')]
      rw [e1]
      congr 1
      obtain ⟨w, hw⟩ := List.exists_mem_of_ne_nil c hcne
      unfold hc
      rcases List.mem_cons.mp hb with rfl | hb
      · have : upA (setA q.1 c 1) c = true := List.any_eq_true.mpr ⟨w, hw, decide_eq_true (setA_in hw)⟩
        rw [if_pos this]
      · have eb := List.mem_singleton.mp hb
        subst eb
        have : upA (setA q.1 c 0) c = false := by
          unfold upA
          rw [List.any_eq_false]
          intro v hv
          rw [setA_in hv]
          decide
        rw [this]
        rfl
theorem col_all (cs : List (List Nat)) (dis : cs.Pairwise fun c d => ∀ v ∈ c, v ∉ d) (a : Nat → Int) (hb : ∀ v, a v = 0 ∨ a v = 1) (hc : cstA a cs) : ∃ p ∈ col fs x y cs, ∀ c ∈ cs, ∀ v ∈ c, p.1 v = a v := by
  induction cs using snocInd with
  | h0 => exact ⟨_, List.mem_singleton.mpr rfl, fun c hc => by cases hc⟩
  | hs cs c ih =>
    obtain ⟨d1, _, d2⟩ := List.pairwise_append.mp dis
    obtain ⟨p, hp, e⟩ := ih d1 fun c' hc' => hc c' (List.mem_append_left _ hc')
    have hcc := hc c (by simp)
    have key : ∀ b : Int × Rat, b ∈ ([(1, upP fs x y c), (0, 1 - upP fs x y c)] : List (Int × Rat)) → (∀ v ∈ c, a v = b.1) → ∃ p ∈ col fs x y (cs ++ [c]), ∀ c' ∈ cs ++ [c], ∀ v ∈ c', p.1 v = a v := fun b hbm hv => by
      refine ⟨(setA p.1 c b.1, p.2 * b.2), ?_, fun c' hc' v hv2 => ?_⟩
      · rw [col_snoc]
        exact List.mem_flatMap.mpr ⟨b, hbm, List.mem_map.mpr ⟨p, hp, rfl⟩⟩
      · rcases List.mem_append.mp hc' with hc' | hc'
        · show setA p.1 c b.1 v = a v
          rw [setA_out (d2 c' hc' c (by simp) v hv2)]
          exact e c' hc' v hv2
        · rw [List.mem_singleton.mp hc'] at hv2
          show setA p.1 c b.1 v = a v
          rw [setA_in hv2, hv v hv2]
    by_cases h1 : ∃ w ∈ c, a w = 1
    · obtain ⟨w, hw, e1⟩ := h1
      exact key (1, upP fs x y c) List.mem_cons_self fun v hv => by rw [hcc v hv w hw, e1]
    · refine key (0, 1 - upP fs x y c) (by simp) fun v hv => ?_
      rcases hb v with h | h
      · exact h
      · exact absurd ⟨v, hv, h⟩ h1
theorem col_dis (cs : List (List Nat)) (dis : cs.Pairwise fun c d => ∀ v ∈ c, v ∉ d) (ne : ∀ c ∈ cs, c ≠ []) : (col fs x y cs).Pairwise fun p q => ∃ c ∈ cs, ∃ v ∈ c, p.1 v ≠ q.1 v := by
  induction cs using snocInd with
  | h0 => exact List.pairwise_singleton _ _
  | hs cs c ih =>
    obtain ⟨d1, _, d2⟩ := List.pairwise_append.mp dis
    have ih := ih d1 fun c hc => ne c (List.mem_append_left _ hc)
    obtain ⟨w, hw⟩ := List.exists_mem_of_ne_nil c (ne c (by simp))
    rw [col_snoc]
    unfold paint
    rw [List.flatMap_cons, List.flatMap_cons, List.flatMap_nil, List.append_nil, List.pairwise_append]
    have one : ∀ b : Int × Rat, ((col fs x y cs).map fun p => (setA p.1 c b.1, p.2 * b.2)).Pairwise fun p q => ∃ c' ∈ cs ++ [c], ∃ v ∈ c', p.1 v ≠ q.1 v := fun b => by
      rw [List.pairwise_map]
      refine ih.imp fun {p q} h => ?_
      obtain ⟨c', hc', v, hv, hne⟩ := h
      refine ⟨c', List.mem_append_left _ hc', v, hv, ?_⟩
      show setA p.1 c b.1 v ≠ setA q.1 c b.1 v
      have ho := d2 c' hc' c (by simp) v hv
      rw [setA_out ho, setA_out ho]
      exact hne
    refine ⟨one _, one _, fun p hp q hq => ?_⟩
    obtain ⟨p', _, rfl⟩ := List.mem_map.mp hp
    obtain ⟨q', _, rfl⟩ := List.mem_map.mp hq
    refine ⟨c, by simp, w, hw, ?_⟩
    show setA p'.1 c 1 w ≠ setA q'.1 c 0 w
    rw [setA_in hw, setA_in hw]
    decide
theorem map_scale (l : List ((Nat → Int) × Rat)) (c : List Nat) (b : Int) (t : Rat) : ((l.map fun p => (setA p.1 c b, p.2 * t)).map (·.2)).sum = (l.map (·.2)).sum * t := by
  induction l with
  | nil => show (0 : Rat) = 0 * t; rw [Rat.zero_mul]
  | cons a l ih => rw [List.map_cons, List.map_cons, List.sum_cons, ih, List.map_cons, List.sum_cons, Rat.add_mul]
theorem col_sum (cs : List (List Nat)) : ((col fs x y cs).map (·.2)).sum = 1 := by
  induction cs using snocInd with
  | h0 => show (1 : Rat) + 0 = 1; exact Rat.add_zero _
  | hs cs c ih =>
    rw [col_snoc]
    unfold paint
    rw [List.flatMap_cons, List.flatMap_cons, List.flatMap_nil, List.append_nil, List.map_append, List.sum_append, map_scale, map_scale, ih]
    grind
end
/-- the assignment that a state tells -/
def asg (s : List Int) : Nat → Int := fun v => s.getD v 0
theorem asg_bits {s : List Int} (hb : ∀ b ∈ s, b = 0 ∨ b = 1) (v : Nat) : asg s v = 0 ∨ asg s v = 1 := by
  unfold asg
  by_cases h : v < s.length
  · rw [List.getD, List.getElem?_eq_getElem h]
    exact hb _ (List.getElem_mem h)
  · rw [List.getD, List.getElem?_eq_none (by omega)]
    exact .inl rfl
theorem st_of_a {n : Nat} {a : Nat → Int} (hb : ∀ v, a v = 0 ∨ a v = 1) : stN n (aIdx n a) = (List.range n).map a := (st_idx (by rw [List.length_map, List.length_range]) fun b h => by
  obtain ⟨v, _, rfl⟩ := List.mem_map.mp h
  exact hb v).1
theorem asg_a {n : Nat} {a : Nat → Int} (hb : ∀ v, a v = 0 ∨ a v = 1) {v : Nat} (hv : v < n) : asg (stN n (aIdx n a)) v = a v := by
  rw [st_of_a hb]
  unfold asg
  rw [List.getD, List.getElem?_map, List.getElem?_range hv]
  rfl
theorem aIdx_st {n k : Nat} (hk : k < 2 ^ n) : aIdx n (asg (stN n k)) = k := by
  have hm := sts_mem n _ (stN_mem hk)
  have e : (List.range n).map (asg (stN n k)) = stN n k := by
    apply List.ext_getElem?
    intro i
    rw [List.getElem?_map]
    by_cases hi : i < n
    · have hi2 : i < (stN n k).length := by omega
      rw [List.getElem?_range hi, List.getElem?_eq_getElem hi2]
      show some ((stN n k).getD i 0) = _
      rw [List.getD, List.getElem?_eq_getElem hi2]
      rfl
    · have e1 : (List.range n)[i]? = none := List.getElem?_eq_none (by rw [List.length_range]; omega)
      have e2 : (stN n k)[i]? = none := List.getElem?_eq_none (by omega)
      rw [e1, e2]
      rfl
  unfold aIdx
  rw [e, idx_st hk]
section
variable {n : Nat} {fs : List Int} {x y : Rat} {cs : List (List Nat)}
theorem colP_sum (p : Part n cs) : S (2 ^ n) (colP n fs x y cs) = 1 := by
  unfold colP
  rw [putL_sum]
  · rw [List.map_map]
    exact col_sum cs
  · rw [List.map_map]
    show ((col fs x y cs).map fun p => aIdx n p.1).Nodup
    rw [List.Nodup, List.pairwise_map]
    refine (col_dis cs p.dis p.ne).imp_of_mem fun {a b} ha hb h z => ?_
    obtain ⟨c, hc, v, hv, hne⟩ := h
    have hvn := p.lt c hc v hv
    have e1 := asg_a (n := n) (col_bits fs x y cs a ha) hvn
    have e2 := asg_a (n := n) (col_bits fs x y cs b hb) hvn
    rw [z] at e1
    exact hne (e1.symm.trans e2)
  · intro q hq
    obtain ⟨r, hr, rfl⟩ := List.mem_map.mp hq
    exact aIdx_lt (col_bits fs x y cs r hr)
/-- the chance of a colouring -/
theorem colP_at (p : Part n cs) {k : Nat} (hk : k < 2 ^ n) : colP n fs x y cs k = if cstC (stN n k) cs then pr (cs.map (hc fs x y (asg (stN n k)))) else 0 := by
  have hbits := (sts_mem n _ (stN_mem hk)).2
  have agree : ∀ q ∈ col fs x y cs, aIdx n q.1 = k → ∀ v, v < n → q.1 v = asg (stN n k) v := fun q hq e v hv => by
    rw [← e, asg_a (col_bits fs x y cs q hq) hv]
  unfold colP
  by_cases hcs : cstC (stN n k) cs
  · rw [if_pos hcs]
    refine putL_in ?_ fun r hr e => ?_
    · obtain ⟨q, hq, e⟩ := col_all (fs := fs) (x := x) (y := y) cs p.dis (asg (stN n k)) (asg_bits hbits) hcs
      refine ⟨_, List.mem_map.mpr ⟨q, hq, rfl⟩, ?_⟩
      show aIdx n q.1 = k
      have : (List.range n).map q.1 = (List.range n).map (asg (stN n k)) := List.map_congr_left fun v hv => by
        obtain ⟨c, hc, hvc⟩ := p.all v (List.mem_range.mp hv)
        exact e c hc v hvc
      unfold aIdx
      rw [this]
      exact aIdx_st hk
    · obtain ⟨q, hq, rfl⟩ := List.mem_map.mp hr
      have ag := agree q hq e
      show q.2 = _
      rw [(col_ent cs p.dis p.ne q hq).2]
      congr 1
      refine List.map_congr_left fun c hcm => ?_
      unfold hc
      rw [upA_congr fun v hv => ag v (p.lt c hcm v hv)]
  · rw [if_neg hcs]
    refine putL_out fun r hr e => ?_
    obtain ⟨q, hq, rfl⟩ := List.mem_map.mp hr
    have ag := agree q hq e
    refine hcs fun c hcm a ha b hb => ?_
    have := (col_ent cs p.dis p.ne q hq).1 c hcm a ha b hb
    rw [ag a (p.lt c hcm a ha), ag b (p.lt c hcm b hb)] at this
    exact this
/-- the colours' chances and the weight of the state -/
theorem hc_Fw (p : Part fs.length cs) (hx : 0 < x) (hy : 0 < y) {s : List Int} (hl : s.length = fs.length) (hb : ∀ b ∈ s, b = 0 ∨ b = 1) (hcs : cstC s cs) : pr (cs.map (hc fs x y (asg s))) * pr (cs.map fun c => 1 + upW fs x y c) = Fw fs x y s := by
  have hx0 : x ≠ 0 := fun z => by rw [z] at hx; exact absurd hx (by decide)
  have hy0 : y ≠ 0 := fun z => by rw [z] at hy; exact absurd hy (by decide)
  rw [Fw_pr hx0 hl hb hy0, ← pr_mul, ← p.prd]
  congr 1
  refine List.map_congr_left fun c hcm => ?_
  have hw : 0 < upW fs x y c := Rat.mul_pos (zpow_pos' hx _) (zpow_pos' hy _)
  have h1 : 1 + upW fs x y c ≠ 0 := by grind
  unfold hc
  by_cases hu : upA (asg s) c = true
  · rw [if_pos hu]
    obtain ⟨w, hw1, hw2⟩ := List.any_eq_true.mp hu
    have hw2 := of_decide_eq_true hw2
    have e : c.map (fun v => phi fs x y v (s.getD v 0)) = c.map fun v => x ^ fs.getD v 0 * y := List.map_congr_left fun v hv => by
      have : s.getD v 0 = 1 := by rw [hcs c hcm v hv w hw1]; exact hw2
      unfold phi
      rw [if_pos this]
    rw [e, pr_upW hx0 hy0]
    unfold upP
    generalize upW fs x y c = W at *
    grind
  · rw [if_neg hu]
    have e : c.map (fun v => phi fs x y v (s.getD v 0)) = c.map fun _ => (1 : Rat) := List.map_congr_left fun v hv => by
      unfold phi
      have hz : ¬ s.getD v 0 = 1 := fun z => hu (List.any_eq_true.mpr ⟨v, hv, decide_eq_true z⟩)
      rw [if_neg hz]
    rw [e, pr_const1]
    unfold upP
    generalize upW fs x y c = W at *
    grind
end
end K49
/-! the kept sets -/
namespace K49
/-- a sum over a list, weighed -/
def wsum {α : Type} (l : List (α × Rat)) (f : α → Rat) : Rat := (l.map fun p => p.2 * f p.1).sum
theorem wsum_append {α : Type} (l m : List (α × Rat)) (f : α → Rat) : wsum (l ++ m) f = wsum l f + wsum m f := by
  unfold wsum
  rw [List.map_append, List.sum_append]
theorem wsum_congr {α : Type} {l : List (α × Rat)} {f g : α → Rat} (h : ∀ p ∈ l, f p.1 = g p.1) : wsum l f = wsum l g := by
  unfold wsum
  congr 1
  exact List.map_congr_left fun p hp => by rw [h p hp]
theorem wsum_scale {α β : Type} (l : List (α × Rat)) (g : α → β) (t : Rat) (f : β → Rat) : wsum (l.map fun p => (g p.1, p.2 * t)) f = t * wsum l (fun a => f (g a)) := by
  unfold wsum
  induction l with
  | nil => show (0 : Rat) = t * 0; rw [Rat.mul_zero]
  | cons a l ih =>
    rw [List.map_cons, List.map_cons, List.sum_cons, ih, List.map_cons, List.sum_cons]
    grind
theorem wsum_mul {α : Type} (l : List (α × Rat)) (c : Rat) (f : α → Rat) : wsum l (fun a => c * f a) = c * wsum l f := by
  unfold wsum
  induction l with
  | nil => show (0 : Rat) = c * 0; rw [Rat.mul_zero]
  | cons a l ih =>
    rw [List.map_cons, List.sum_cons, ih, List.map_cons, List.sum_cons]
    grind
theorem wsum_S {α : Type} (N : Nat) (l : List (α × Rat)) (f : Nat → α → Rat) : S N (fun k => wsum l (f k)) = wsum l (fun a => S N fun k => f k a) := by
  unfold wsum
  induction l with
  | nil => exact S_const0 N
  | cons a l ih =>
    rw [List.map_cons, List.sum_cons, ← ih]
    rw [show (fun k => (List.map (fun p => p.2 * f k p.1) (a :: l)).sum) = fun k => a.2 * f k a.1 + (List.map (fun p => p.2 * f k p.1) l).sum from rfl, S_add, S_mul]
theorem wsum_zero {α : Type} {l : List (α × Rat)} {f : α → Rat} (h : ∀ p ∈ l, f p.1 = 0) : wsum l f = 0 := by
  rw [wsum_congr (g := fun _ => 0) h]
  unfold wsum
  induction l with
  | nil => rfl
  | cons a l ih =>
    rw [List.map_cons, List.sum_cons, ih fun p hp => h p (List.mem_cons_of_mem _ hp), Rat.mul_zero, Rat.add_zero]
theorem step_sum (x : Rat) (l : List (List (Nat × Nat) × Rat)) (e : Nat × Nat × Int) (f : List (Nat × Nat) → Rat) : wsum (keptStep x l e) f = (1 - x ^ e.2.2) * wsum l (fun p => f (p ++ [(e.1, e.2.1)])) + x ^ e.2.2 * wsum l f := by
  unfold keptStep
  rw [wsum_append, wsum_scale l (fun p => p ++ [(e.1, e.2.1)]), wsum_scale l (fun p => p)]
/-- the chances of the kept sets sum to 1 -/
theorem kept_sum (x : Rat) (s : List Int) (es : List (Nat × Nat × Int)) : wsum (kept x s es) (fun _ => 1) = 1 := by
  induction es using snocInd with
  | h0 => show (1 * 1 : Rat) + 0 = 1; rw [Rat.add_zero, Rat.mul_one]
  | hs l e ih =>
    rw [kept_snoc]
    split
    · rw [step_sum, ih]
      grind
    · exact ih
/-- the sets of all edges, as if all were equal -/
def subs (x : Rat) (es : List (Nat × Nat × Int)) : List (List (Nat × Nat) × Rat) := es.foldl (fun l e => keptStep x l e) [([], 1)]
theorem subs_snoc (x : Rat) (es : List (Nat × Nat × Int)) (e : Nat × Nat × Int) : subs x (es ++ [e]) = keptStep x (subs x es) e := by
  unfold subs
  rw [List.foldl_append]
  rfl
theorem subs_prs (x : Rat) (es : List (Nat × Nat × Int)) {n : Nat} (h : ∀ e ∈ es, e.1 < n ∧ e.2.1 < n) : ∀ p ∈ subs x es, ∀ q ∈ p.1, q.1 < n ∧ q.2 < n := by
  induction es using snocInd with
  | h0 =>
    intro p hp
    rw [List.mem_singleton.mp hp]
    intro q hq
    cases hq
  | hs l a ih =>
    have ih := ih fun e he => h e (List.mem_append_left _ he)
    have ha := h a (by simp)
    rw [subs_snoc]
    intro p hp q hq
    unfold keptStep at hp
    rcases List.mem_append.mp hp with hp | hp
    · obtain ⟨r, hr, rfl⟩ := List.mem_map.mp hp
      rcases List.mem_append.mp hq with hq | hq
      · exact ih r hr q hq
      · rw [List.mem_singleton.mp hq]
        exact ha
    · obtain ⟨r, hr, rfl⟩ := List.mem_map.mp hp
      exact ih r hr q hq
/-- the weight of the cut and the kept sets -/
theorem U_sum {x : Rat} (hx : x ≠ 0) (s : List Int) (es : List (Nat × Nat × Int)) : ∀ f : List (Nat × Nat) → Rat, x ^ cut es s * wsum (kept x s es) f = wsum (subs x es) (fun p => if cst s p then f p else 0) := by
  induction es using snocInd with
  | h0 =>
    intro f
    have e1 : cut [] s = 0 := rfl
    have e2 : cst s [] := fun e he => by cases he
    rw [e1, Rat.zpow_zero, Rat.one_mul]
    show (1 * f [] : Rat) + 0 = 1 * (if cst s [] then f [] else 0) + 0
    rw [if_pos e2]
  | hs l e ih =>
    intro f
    rw [kept_snoc, subs_snoc, step_sum, cut_snoc, Rat.zpow_add hx]
    by_cases he : s.getD e.1 0 = s.getD e.2.1 0
    · rw [if_pos he, if_pos he, Rat.zpow_zero, Rat.mul_one, step_sum]
      have i1 := ih fun p => f (p ++ [(e.1, e.2.1)])
      have i2 := ih f
      have e3 : wsum (subs x l) (fun p => if cst s (p ++ [(e.1, e.2.1)]) then f (p ++ [(e.1, e.2.1)]) else 0) = wsum (subs x l) (fun p => if cst s p then f (p ++ [(e.1, e.2.1)]) else 0) := wsum_congr fun p _ => by
        by_cases hc : cst s p.1
        · rw [if_pos hc, if_pos ((cst_snoc _ _ _).mpr ⟨hc, he⟩)]
        · rw [if_neg hc, if_neg fun z => hc ((cst_snoc _ _ _).mp z).1]
      rw [e3, ← i1, ← i2]
      grind
    · rw [if_neg he, if_neg he]
      have i2 := ih f
      have e3 : wsum (subs x l) (fun p => if cst s (p ++ [(e.1, e.2.1)]) then f (p ++ [(e.1, e.2.1)]) else 0) = 0 := wsum_zero fun p _ => if_neg fun z => he ((cst_snoc _ _ _).mp z).2
      rw [e3, ← i2]
      grind
/-- the sets that are there, as clusters: the same sum -/
theorem keptC_sum (n : Nat) (x : Rat) (s : List Int) (es : List (Nat × Nat × Int)) (f : List (List Nat) → Rat) : wsum (keptC n x s es) f = wsum (kept x s es) (fun p => f (clus n p)) := by
  unfold keptC wsum
  induction kept x s es with
  | nil => rfl
  | cons a l ih =>
    rw [List.map_cons, List.sum_cons, ← ih]
    by_cases h : a.2 = 0
    · rw [List.filterMap_cons_none (by rw [if_pos h]), h, Rat.zero_mul, Rat.zero_add]
    · rw [List.filterMap_cons_some (b := (clus n a.1, a.2)) (by rw [if_neg h]), List.map_cons, List.sum_cons]
theorem mem_keptC {n : Nat} {x : Rat} {s : List Int} {es : List (Nat × Nat × Int)} {q : List (List Nat) × Rat} (h : q ∈ keptC n x s es) : ∃ p ∈ kept x s es, q = (clus n p.1, p.2) := by
  unfold keptC at h
  obtain ⟨p, hp, e⟩ := List.mem_filterMap.mp h
  split at e
  · cases e
  · cases e
    exact ⟨p, hp, rfl⟩
/-- the bottom of the kept chances -/
def xD (x : Rat) (es : List (Nat × Nat × Int)) : Nat := x.den ^ (es.map fun e => e.2.2.toNat).sum
theorem xD_snoc (x : Rat) (es : List (Nat × Nat × Int)) (e : Nat × Nat × Int) : xD x (es ++ [e]) = xD x es * x.den ^ e.2.2.toNat := by
  unfold xD
  rw [List.map_append, List.sum_append, Nat.pow_add]
  rfl
theorem le_one_pow {x : Rat} (h0 : 0 ≤ x) (h1 : x ≤ 1) (k : Nat) : 0 ≤ x ^ k ∧ x ^ k ≤ 1 := by
  induction k with
  | zero => rw [Rat.pow_zero]; exact ⟨by decide, Rat.le_refl⟩
  | succ k ih =>
    rw [Rat.pow_succ]
    have h2 := Rat.mul_le_mul_of_nonneg_left h1 ih.1
    rw [Rat.mul_one] at h2
    exact ⟨Rat.mul_nonneg ih.1 h0, Rat.le_trans h2 ih.2⟩
theorem tm_x {x : Rat} (h0 : 0 < x) (h1 : x ≤ 1) {c : Int} (hc : 0 ≤ c) : Tm (x.den ^ c.toNat) (x ^ c) := by
  obtain ⟨k, rfl⟩ : ∃ k : Nat, c = k := ⟨c.toNat, by omega⟩
  rw [Rat.zpow_natCast, show ((k : Int)).toNat = k by omega]
  obtain ⟨a, b⟩ := le_one_pow (Rat.le_of_lt h0) h1 k
  refine ⟨a, b, ((x.num.toNat ^ k * x.den ^ (k - k) : Nat) : Int), ?_⟩
  rw [pow_frac h0 (Nat.le_refl k)]
  rfl
theorem kept_tm {x : Rat} (h0 : 0 < x) (h1 : x ≤ 1) (s : List Int) (es : List (Nat × Nat × Int)) (hc : ∀ e ∈ es, 0 ≤ e.2.2) : ∀ p ∈ kept x s es, Tm (xD x es) p.2 := by
  induction es using snocInd with
  | h0 =>
    intro p hp
    rw [List.mem_singleton.mp hp]
    exact Tm.one _
  | hs l e ih =>
    have ih := ih fun a ha => hc a (List.mem_append_left _ ha)
    have te := tm_x h0 h1 (hc e (by simp))
    rw [kept_snoc, xD_snoc]
    split
    · intro p hp
      unfold keptStep at hp
      rcases List.mem_append.mp hp with hp | hp
      · obtain ⟨r, hr, rfl⟩ := List.mem_map.mp hp
        exact (ih r hr).mul te.sub
      · obtain ⟨r, hr, rfl⟩ := List.mem_map.mp hp
        exact (ih r hr).mul te
    · intro p hp
      exact (ih p hp).up (Nat.dvd_mul_right _ _)
theorem xD_le {x : Rat} {es : List (Nat × Nat × Int)} (hd : x.den ≤ 4) (hl : es.length ≤ 10) (hc : ∀ e ∈ es, e.2.2 ≤ 3) : 0 < xD x es ∧ xD x es ≤ 2 ^ 60 ∧ xD x es ∣ x.den ^ 30 := by
  have hs : (es.map fun e => e.2.2.toNat).sum ≤ 3 * es.length := by
    clear hl
    induction es with
    | nil => simp
    | cons a l ih =>
      have h1 := ih fun e he => hc e (List.mem_cons_of_mem _ he)
      have h2 := hc a List.mem_cons_self
      rw [List.map_cons, List.sum_cons, List.length_cons]
      omega
  have h30 : (es.map fun e => e.2.2.toNat).sum ≤ 30 := by omega
  unfold xD
  refine ⟨Nat.pow_pos x.den_pos, ?_, Nat.pow_dvd_pow _ h30⟩
  refine Nat.le_trans (Nat.pow_le_pow_left hd _) ?_
  refine Nat.le_trans (Nat.pow_le_pow_right (by decide) h30) (by decide)
theorem wsum_tm {α : Type} {D : Nat} {l : List (α × Rat)} {f : α → Rat} (h : ∀ p ∈ l, Tm D (p.2 * f p.1)) : 0 ≤ wsum l f ∧ ∃ z : Int, wsum l f * (D : Rat) = (z : Rat) := by
  have := tm_pre (D := D) (l := l.map fun p => p.2 * f p.1) fun q hq => by
    obtain ⟨p, hp, rfl⟩ := List.mem_map.mp hq
    exact h p hp
  exact ⟨this.1, this.2.2⟩
/-! ### sizes of what is reckoned on the way -/
section
variable {fs : List Int} {es : List (Nat × Nat × Int)} {x y : Rat}
theorem Good.pw (G : Good fs es x y) : PwOk fs es x y := by
  refine ⟨fun s hs k hk => ?_, fun s hs k hk => ?_⟩
  · have h := G.c40 hs
    have := sz_zpow G.x0 (by have := G.xn; omega) (by have := G.xd; omega) (e := (k : Int)) (by omega)
    rw [Rat.zpow_natCast] at this
    exact this
  · have h := G.u40 hs
    have := sz_zpow G.y0 (by have := G.yn; omega) (by have := G.yd; omega) (e := (k : Int)) (by omega)
    rw [Rat.zpow_natCast] at this
    exact this
theorem p60 : (2 : Nat) ^ 60 < 2 ^ 4400 := Nat.pow_lt_pow_right (by decide) (by decide)
theorem Good.kok (G : Good fs es x y) (hc : ∀ e ∈ es, 0 ≤ e.2.2) (hx : x ≤ 1) (s : List Int) : KOk x s es := by
  have hd := G.xd
  have hl := G.el
  have h3 : ∀ e ∈ es, e.2.2 ≤ 3 := fun e he => (G.ed e he).2.2.2
  refine ⟨fun pre post e p hp => ?_, fun e he => ?_, fun e he => ?_⟩
  · have hm : ∀ a ∈ pre, a ∈ es := fun a ha => by rw [e]; exact List.mem_append_left _ ha
    have hpl : pre.length ≤ 10 := by
      have := congrArg List.length e
      rw [List.length_append] at this
      omega
    obtain ⟨a, b, _⟩ := xD_le (x := x) (es := pre) hd hpl fun e he => h3 e (hm e he)
    exact (kept_tm G.x0 hx s pre (fun e he => hc e (hm e he)) p hp).sz a (Nat.lt_of_le_of_lt b p60)
  · have hb := G.ed e he
    exact sz_zpow G.x0 (by have := G.xn; omega) (by omega) (by omega)
  · have hb := G.ed e he
    have t := (tm_x G.x0 hx (hc e he)).sub
    refine t.sz (Nat.pow_pos x.den_pos) (Nat.lt_of_le_of_lt (Nat.pow_le_pow_left hd _) (Nat.lt_of_le_of_lt (Nat.pow_le_pow_right (by decide) (show e.2.2.toNat ≤ 30 by omega)) (Nat.lt_of_le_of_lt (by decide : 4 ^ 30 ≤ 2 ^ 60) p60)))
theorem clg {n : Nat} (hn : n ≤ 6) {cs : List (List Nat)} (p : Part n cs) : ClG n cs := ⟨by have := p.len; omega, p.lt, p.all⟩
end
end K49
/-! the cluster move and the single turn: the tables -/
namespace K49
variable {fs : List Int} {es : List (Nat × Nat × Int)} {x y : Rat}
theorem clM_w (i k : Nat) : clM fs es x y i k = wsum (keptC fs.length x (stN fs.length i) es) (fun cs => colP fs.length fs x y cs k) := rfl
theorem clM_kept (i k : Nat) : clM fs es x y i k = wsum (kept x (stN fs.length i) es) (fun p => colP fs.length fs x y (clus fs.length p) k) := by
  rw [clM_w]
  exact keptC_sum fs.length x (stN fs.length i) es fun cs => colP fs.length fs x y cs k
theorem Good.prs (G : Good fs es x y) : ∀ e ∈ es, e.1 < fs.length ∧ e.2.1 < fs.length := fun e he => by
  have := G.ed e he
  omega
theorem cl_one (i : Nat) : S (2 ^ fs.length) (clM fs es x y i) = 1 := by
  rw [S_congr fun k _ => clM_kept i k, wsum_S]
  rw [wsum_congr (g := fun _ => 1) fun p _ => colP_sum (part_clus fs.length p.1)]
  exact kept_sum x _ es
theorem cl_bal (G : Good fs es x y) (i j : Nat) (hi : i < 2 ^ fs.length) (hj : j < 2 ^ fs.length) : wN fs es x y i * clM fs es x y i j = wN fs es x y j * clM fs es x y j i := by
  have hx0 : x ≠ 0 := fun z => by have := G.x0; rw [z] at this; exact absurd this (by decide)
  have prs := subs_prs x es G.prs
  have half : ∀ i j, i < 2 ^ fs.length → j < 2 ^ fs.length → wN fs es x y i * clM fs es x y i j = wsum (subs x es) (fun p => Fw fs x y (stN fs.length i) * (if cst (stN fs.length i) p then colP fs.length fs x y (clus fs.length p) j else 0)) := fun i j hi hj => by
    rw [wsum_mul, ← U_sum hx0 (stN fs.length i) es fun p => colP fs.length fs x y (clus fs.length p) j, wN_eq hi, wt_Fw hx0, clM_kept, Rat.mul_assoc]
  rw [half i j hi hj, half j i hj hi]
  refine wsum_congr fun p hp => ?_
  have pt := part_clus fs.length p.1
  have si := sts_mem _ _ (stN_mem hi)
  have sj := sts_mem _ _ (stN_mem hj)
  rw [colP_at pt hi, colP_at pt hj]
  have ci : cst (stN fs.length i) p.1 ↔ cstC (stN fs.length i) (clus fs.length p.1) := cst_iff (prs p hp)
  have cj : cst (stN fs.length j) p.1 ↔ cstC (stN fs.length j) (clus fs.length p.1) := cst_iff (prs p hp)
  by_cases h1 : cstC (stN fs.length i) (clus fs.length p.1)
  · by_cases h2 : cstC (stN fs.length j) (clus fs.length p.1)
    · rw [if_pos (ci.mpr h1), if_pos (cj.mpr h2), if_pos h1, if_pos h2, ← hc_Fw pt G.x0 G.y0 si.1 si.2 h1, ← hc_Fw pt G.x0 G.y0 sj.1 sj.2 h2]
      generalize pr ((clus fs.length p.1).map (hc fs x y (asg (stN fs.length i)))) = a
      generalize pr ((clus fs.length p.1).map (hc fs x y (asg (stN fs.length j)))) = b
      generalize pr ((clus fs.length p.1).map fun c => 1 + upW fs x y c) = z
      grind
    · rw [if_neg (fun q => h2 (cj.mp q)), if_neg h2, if_pos (ci.mpr h1), Rat.mul_zero, Rat.mul_zero]
  · by_cases h2 : cstC (stN fs.length j) (clus fs.length p.1)
    · rw [if_neg (fun q => h1 (ci.mp q)), if_neg h1, if_pos (cj.mpr h2), Rat.mul_zero, Rat.mul_zero]
    · rw [if_neg (fun q => h1 (ci.mp q)), if_neg (fun q => h2 (cj.mp q)), Rat.mul_zero, Rat.mul_zero]
/-! ### the bottom of the colours -/
theorem div_le_one2 {a b : Rat} (hb : 0 < b) (h : a ≤ b) : a / b ≤ 1 := by
  have hi := Rat.inv_pos.mpr hb
  rw [Rat.div_def]
  have h1 := Rat.mul_le_mul_of_nonneg_right h (Rat.le_of_lt hi)
  have h2 : b * b⁻¹ = 1 := Rat.mul_inv_cancel b (fun z => by rw [z] at hb; exact absurd hb (by decide))
  rw [h2] at h1
  exact h1
theorem Pr_upd {n a : Nat} {g : Nat → Rat} {t : Rat} (ha : a < n) (h1 : g a = 1) : Pr n (fun v => if v = a then t else g v) = t * Pr n g := by
  induction n with
  | zero => omega
  | succ n ih =>
    rw [Pr_succ, Pr_succ]
    by_cases e : a = n
    · subst e
      rw [if_pos rfl, h1, Rat.mul_one, Rat.mul_comm]
      congr 1
      exact Pr_congr fun i hi => if_neg (by omega)
    · rw [if_neg (fun z => e z.symm), ih (by omega), Rat.mul_assoc]
theorem Pr_ones (n : Nat) : Pr n (fun _ => 1) = 1 := by
  induction n with
  | zero => rfl
  | succ n ih => rw [Pr_succ, ih, Rat.mul_one]
theorem Pr_mem {n : Nat} {f : Nat → Rat} : ∀ {c : List Nat}, c.Nodup → (∀ v ∈ c, v < n) → Pr n (fun v => if v ∈ c then f v else 1) = pr (c.map f)
  | [], _, _ => by
    rw [Pr_congr (g := fun _ => 1) fun i _ => if_neg (by simp), Pr_ones]
    rfl
  | a :: c, nd, lt => by
    obtain ⟨h1, h2⟩ := List.nodup_cons.mp nd
    have ih := Pr_mem (f := f) h2 fun v hv => lt v (List.mem_cons_of_mem _ hv)
    rw [List.map_cons, pr_cons, ← ih, ← Pr_upd (t := f a) (lt a List.mem_cons_self) (if_neg h1)]
    refine Pr_congr fun v _ => ?_
    by_cases e : v = a
    · subst e
      rw [if_pos List.mem_cons_self, if_pos rfl]
    · rw [if_neg e]
      by_cases hv : v ∈ c
      · rw [if_pos hv, if_pos (List.mem_cons_of_mem _ hv)]
      · rw [if_neg hv, if_neg fun z => (List.mem_cons.mp z).elim e hv]
/-- the state with the cluster up and all else down -/
def ind (n : Nat) (c : List Nat) : List Int := (List.range n).map fun v => if v ∈ c then 1 else 0
theorem ind_mem (n : Nat) (c : List Nat) : ind n c ∈ sts n := by
  have h := mem_sts (ind n c) fun b hb => by
    unfold ind at hb
    obtain ⟨v, _, rfl⟩ := List.mem_map.mp hb
    split
    · exact .inr rfl
    · exact .inl rfl
  have e : (ind n c).length = n := by unfold ind; rw [List.length_map, List.length_range]
  rw [e] at h
  exact h
theorem upW_ind {c : List Nat} (hx : x ≠ 0) (hy : y ≠ 0) (nd : c.Nodup) (lt : ∀ v ∈ c, v < fs.length) : upW fs x y c = Fw fs x y (ind fs.length c) := by
  have hm := sts_mem _ _ (ind_mem fs.length c)
  rw [Fw_pr hx hm.1 hm.2 hy, ← pr_upW hx hy, ← Pr_mem nd lt]
  refine Pr_congr fun v hv => ?_
  have e : (ind fs.length c).getD v 0 = if v ∈ c then 1 else 0 := by
    unfold ind
    rw [List.getD, List.getElem?_map, List.getElem?_range hv]
    rfl
  rw [e]
  unfold phi
  by_cases hc : v ∈ c
  · rw [if_pos hc, if_pos hc, if_pos rfl]
  · rw [if_neg hc, if_neg hc, if_neg (by decide)]
/-- no edges: the weight is Fw -/
theorem wt_nil (s : List Int) : wt fs [] x y s = Fw fs x y s := by
  unfold wt Fw costI
  have : cut [] s = 0 := rfl
  rw [this, Int.add_zero]
theorem Good.noE (G : Good fs es x y) : Good fs [] x y := ⟨G.n1, G.n5, G.fb, Nat.zero_le _, fun e he => (by cases he), G.x0, G.xn, G.xd, G.y0, G.yn, G.yd⟩
theorem num_le {n d : Int} (hn : 0 ≤ n) (hd : 0 < d) : ((n : Rat) / (d : Rat)).num ≤ n ∧ ((((n : Rat) / (d : Rat)).den : Nat) : Int) ≤ d := by
  rw [rat_num n d hd, rat_den n d hd]
  exact ⟨Int.ediv_le_self _ hn, Int.ediv_le_self _ (by omega)⟩
theorem mul_parts {p q : Rat} (hp : 0 < p) (hq : 0 < q) : (p * q).num ≤ p.num * q.num ∧ (p * q).den ≤ p.den * q.den := by
  have h1 := num_pos' hp
  have h2 := num_pos' hq
  have h3 := den_pos' p
  have h4 := den_pos' q
  have := num_le (n := p.num * q.num) (d := p.den * q.den) (Int.le_of_lt (Int.mul_pos h1 h2)) (Int.mul_pos h3 h4)
  rw [rat_mul] at this
  refine ⟨this.1, ?_⟩
  have h5 := this.2
  rw [← Int.natCast_mul] at h5
  omega
theorem zpow_parts {p : Rat} {B k : Nat} (h0 : 0 < p) (hn : p.num ≤ B) (hd : p.den ≤ B) {e : Int} (he : e.natAbs ≤ k) (hB : 1 ≤ B) : (p ^ e).num ≤ (B ^ k : Nat) ∧ (p ^ e).den ≤ B ^ k := by
  have hpn := num_pos' h0
  have eq := zpow_base p h0 e
  obtain ⟨r, hr⟩ : ∃ r, r = (if 0 ≤ e then p else 1 / p) := ⟨_, rfl⟩
  rw [← hr] at eq
  have hrn : 0 ≤ r.num ∧ r.num ≤ B ∧ r.den ≤ B := by
    rw [hr]
    split
    · omega
    · obtain ⟨e1, e2⟩ := inv_parts p h0
      rw [e1]
      omega
  have mono : B ^ e.natAbs ≤ B ^ k := Nat.pow_le_pow_right hB he
  refine ⟨?_, ?_⟩
  · rw [← eq, Rat.num_pow]
    obtain ⟨m, hm⟩ : ∃ m : Nat, r.num = m := ⟨r.num.toNat, by omega⟩
    rw [hm, ← Int.natCast_pow]
    have : m ^ e.natAbs ≤ B ^ e.natAbs := Nat.pow_le_pow_left (by omega) _
    omega
  · rw [← eq, Rat.den_pow]
    exact Nat.le_trans (Nat.pow_le_pow_left hrn.2.2 _) mono
theorem Fw_parts (G : Good fs es x y) (h4 : fs.length ≤ 4) {s : List Int} (hs : s ∈ sts fs.length) : 0 < Fw fs x y s ∧ (Fw fs x y s).num.toNat + (Fw fs x y s).den ≤ 2 ^ 30 := by
  have hm := sts_mem _ _ hs
  have b1 := paid_bd fs s hm.1
  have b2 := negs_bd fs
  have b3 : abss fs ≤ 2 * (fs.length : Int) := abss_le G.fb
  have b4 := bits_sum hm.2
  rw [hm.1] at b4
  have px := zpow_pos' G.x0 (paid fs s)
  have py := zpow_pos' G.y0 s.sum
  have zx := zpow_parts (B := 6) (k := 8) G.x0 (by have := G.xn; omega) (by have := G.xd; omega) (e := paid fs s) (by omega) (by decide)
  have zy := zpow_parts (B := 4) (k := 4) G.y0 (by have := G.yn; omega) (by have := G.yd; omega) (e := s.sum) (by omega) (by decide)
  have mp := mul_parts px py
  have nx := num_pos' px
  have ny := num_pos' py
  refine ⟨Rat.mul_pos px py, ?_⟩
  unfold Fw
  have c1 : (x ^ paid fs s).num * (y ^ s.sum).num ≤ ((6 ^ 8 : Nat) : Int) * ((4 ^ 4 : Nat) : Int) := Int.mul_le_mul zx.1 zy.1 (Int.le_of_lt ny) (by decide)
  have c2 : (x ^ paid fs s).den * (y ^ s.sum).den ≤ 6 ^ 8 * 4 ^ 4 := Nat.mul_le_mul zx.2 zy.2
  have c3 : ((6 ^ 8 : Nat) : Int) * ((4 ^ 4 : Nat) : Int) ≤ 2 ^ 29 := by decide
  have c4 : 6 ^ 8 * 4 ^ 4 ≤ 2 ^ 29 := by decide
  generalize (x ^ paid fs s * y ^ s.sum).num = a at *
  generalize (x ^ paid fs s * y ^ s.sum).den = b at *
  omega
/-- the bottom of the colours' chances -/
def cD (fs : List Int) (x y : Rat) : Nat := ((sts fs.length).map fun s => (Fw fs x y s).num.toNat + (Fw fs x y s).den).foldr (· * ·) 1
theorem cD_ok (G : Good fs es x y) (h4 : fs.length ≤ 4) : 0 < cD fs x y ∧ cD fs x y ≤ 2 ^ 480 ∧ ∀ s ∈ sts fs.length, ((Fw fs x y s).num.toNat + (Fw fs x y s).den) ∣ cD fs x y := by
  refine ⟨prod_pos fun a ha => ?_, ?_, fun s hs => prod_dvd (List.mem_map.mpr ⟨s, hs, rfl⟩)⟩
  · obtain ⟨s, _, rfl⟩ := List.mem_map.mp ha
    have := (Fw fs x y s).den_pos
    omega
  · have h := prod_le (B := 2 ^ 30) (by decide) (l := (sts fs.length).map fun s => (Fw fs x y s).num.toNat + (Fw fs x y s).den) fun a ha => by
      obtain ⟨s, hs, rfl⟩ := List.mem_map.mp ha
      exact (Fw_parts G h4 hs).2
    rw [List.length_map, sts_len] at h
    have h16 : 2 ^ fs.length ≤ 16 := Nat.pow_le_pow_right (n := 2) (by decide) h4
    refine Nat.le_trans h (Nat.le_trans (Nat.pow_le_pow_right (by decide) h16) ?_)
    rw [← Nat.pow_mul]
    exact Nat.le_refl _
theorem up_tm (G : Good fs es x y) (h4 : fs.length ≤ 4) {c : List Nat} (nd : c.Nodup) (lt : ∀ v ∈ c, v < fs.length) : Tm (cD fs x y) (upP fs x y c) := by
  have hx0 : x ≠ 0 := fun z => by have := G.x0; rw [z] at this; exact absurd this (by decide)
  have hy0 : y ≠ 0 := fun z => by have := G.y0; rw [z] at this; exact absurd this (by decide)
  have hs := ind_mem fs.length c
  obtain ⟨d0, _, d2⟩ := cD_ok G h4
  obtain ⟨w0, _⟩ := Fw_parts G h4 hs
  obtain ⟨k, hk⟩ := d2 _ hs
  unfold upP
  rw [upW_ind hx0 hy0 nd lt]
  generalize Fw fs x y (ind fs.length c) = W at *
  have hW1 : 0 < 1 + W := by grind
  have hn := num_pos' w0
  have hr := rat_self W
  have hdn := den_ne' W
  have e1 : ((W.num.toNat + W.den : Nat) : Rat) = (W.num : Rat) + ((W.den : Int) : Rat) := by
    rw [Rat.natCast_add]
    have : (W.num : Rat) = ((((W.num.toNat : Nat) : Int)) : Rat) := congrArg (fun z : Int => (z : Rat)) (by omega)
    rw [this]
    rfl
  have e2 : W / (1 + W) * ((W.num.toNat + W.den : Nat) : Rat) = (W.num : Rat) := by
    rw [e1]
    generalize (W.num : Rat) = a at *
    generalize ((W.den : Int) : Rat) = b at *
    have : 1 + W ≠ 0 := by grind
    subst hr
    grind
  refine ⟨?_, div_le_one2 hW1 (by grind), W.num * (k : Int), ?_⟩
  · rw [Rat.div_def]
    exact Rat.le_of_lt (Rat.mul_pos w0 (Rat.inv_pos.mpr hW1))
  · rw [hk, Rat.natCast_mul, ← Rat.mul_assoc, e2, Rat.intCast_mul]
    rfl
theorem hc_tm (G : Good fs es x y) (h4 : fs.length ≤ 4) {c : List Nat} (nd : c.Nodup) (lt : ∀ v ∈ c, v < fs.length) (a : Nat → Int) : Tm (cD fs x y) (hc fs x y a c) := by
  have := up_tm G h4 nd lt
  unfold hc
  split
  · exact this
  · exact this.sub
theorem prod_tm {D : Nat} : ∀ {l : List Rat}, (∀ q ∈ l, Tm D q) → Tm (D ^ l.length) (pr l)
  | [], _ => Tm.one _
  | a :: l, h => by
    rw [List.length_cons, Nat.pow_succ, Nat.mul_comm, pr_cons]
    exact (h a List.mem_cons_self).mul (prod_tm fun q hq => h q (List.mem_cons_of_mem _ hq))
theorem colP_tm (G : Good fs es x y) (h4 : fs.length ≤ 4) {cs : List (List Nat)} (p : Part fs.length cs) {k : Nat} (hk : k < 2 ^ fs.length) : Tm (cD fs x y ^ 4) (colP fs.length fs x y cs k) := by
  rw [colP_at p hk]
  split
  · have := prod_tm (D := cD fs x y) (l := cs.map (hc fs x y (asg (stN fs.length k)))) fun q hq => by
      obtain ⟨c, hcm, rfl⟩ := List.mem_map.mp hq
      exact hc_tm G h4 (p.nd c hcm) (p.lt c hcm) _
    rw [List.length_map] at this
    have hl := p.len
    exact this.up (Nat.pow_dvd_pow _ (by omega))
  · exact Tm.zero _
theorem colP_out {n : Nat} {cs : List (List Nat)} {k : Nat} (hk : ¬ k < 2 ^ n) : colP n fs x y cs k = 0 := by
  unfold colP
  refine putL_out fun r hr e => hk ?_
  obtain ⟨q, hq, rfl⟩ := List.mem_map.mp hr
  have := aIdx_lt (n := n) (col_bits fs x y cs q hq)
  have e2 : aIdx n q.1 = k := e
  omega
theorem colP_tm' (G : Good fs es x y) (h4 : fs.length ≤ 4) {cs : List (List Nat)} (p : Part fs.length cs) (k : Nat) : Tm (cD fs x y ^ 4) (colP fs.length fs x y cs k) := by
  by_cases hk : k < 2 ^ fs.length
  · exact colP_tm G h4 p hk
  · rw [colP_out hk]
    exact Tm.zero _
theorem cD4 (G : Good fs es x y) (h4 : fs.length ≤ 4) : 0 < cD fs x y ^ 4 ∧ cD fs x y ^ 4 ≤ 2 ^ 1920 := by
  obtain ⟨d0, d1, _⟩ := cD_ok G h4
  refine ⟨Nat.pow_pos d0, ?_⟩
  have := Nat.pow_le_pow_left d1 4
  rw [← Nat.pow_mul] at this
  exact this
theorem Good.xDb (G : Good fs es x y) : 0 < xD x es ∧ xD x es ≤ 2 ^ 60 ∧ xD x es ∣ x.den ^ 30 := xD_le G.xd G.el fun e he => (G.ed e he).2.2.2
theorem tab_cluster (G : Good fs es x y) (h4 : fs.length ≤ 4) (hc : ∀ e ∈ es, 0 ≤ e.2.2) (hx : x ≤ 1) : TabOk fs es x y (clM fs es x y) := by
  obtain ⟨x1, x2, _⟩ := G.xDb
  obtain ⟨c1, c2⟩ := cD4 G h4
  refine tab_of G ⟨fun i _ => cl_one i, fun i j hi hj => cl_bal G i j hi hj, xD x es * cD fs x y ^ 4, Nat.mul_pos x1 c1, ?_, fun i k hi hk => ?_⟩
  · have h := Nat.mul_le_mul x2 c2
    rw [← Nat.pow_add] at h
    exact Nat.le_trans h (Nat.pow_le_pow_right (by decide) (by decide))
  · have key : ∀ k, 0 ≤ clM fs es x y i k ∧ ∃ z : Int, clM fs es x y i k * ((xD x es * cD fs x y ^ 4 : Nat) : Rat) = (z : Rat) := fun k => by
      rw [clM_kept]
      exact wsum_tm fun p hp => (kept_tm G.x0 hx _ es hc p hp).mul (colP_tm' G h4 (part_clus fs.length p.1) k)
    exact tm_of (fun k _ => (key k).1) (cl_one i) (fun k _ => (key k).2) hk
theorem mok (G : Good fs es x y) (h4 : fs.length ≤ 4) (hc : ∀ e ∈ es, 0 ≤ e.2.2) (hx : x ≤ 1) : MOk fs es x y := by
  obtain ⟨x1, x2, _⟩ := G.xDb
  obtain ⟨c1, c2⟩ := cD4 G h4
  obtain ⟨e0, e1, _⟩ := cD_ok G h4
  have hx0 : x ≠ 0 := fun z => by have := G.x0; rw [z] at this; exact absurd this (by decide)
  have hy0 : y ≠ 0 := fun z => by have := G.y0; rw [z] at this; exact absurd this (by decide)
  have X4 : xD x es < 2 ^ 4400 := Nat.lt_of_le_of_lt x2 p60
  have C4 : cD fs x y ^ 4 < 2 ^ 4400 := Nat.lt_of_le_of_lt c2 (Nat.pow_lt_pow_right (by decide) (by decide))
  have C1 : cD fs x y < 2 ^ 4400 := Nat.lt_of_le_of_lt e1 (Nat.pow_lt_pow_right (by decide) (by decide))
  have XC : xD x es * cD fs x y ^ 4 < 2 ^ 4400 := by
    have h := Nat.mul_le_mul x2 c2
    rw [← Nat.pow_add] at h
    exact Nat.lt_of_le_of_lt h (Nat.pow_lt_pow_right (by decide) (by decide))
  have tq : ∀ s ∈ sts fs.length, ∀ q ∈ keptC fs.length x s es, Tm (xD x es) q.2 ∧ Part fs.length q.1 := fun s _ q hq => by
    obtain ⟨p, hp, rfl⟩ := mem_keptC hq
    exact ⟨kept_tm G.x0 hx s es hc p hp, part_clus fs.length p.1⟩
  have G0 := G.noE
  have w1 : ∀ c : List Nat, c.Nodup → (∀ v ∈ c, v < fs.length) → Sz (upW fs x y c) ∧ Sz (1 + upW fs x y c) := fun c nd lt => by
    have eW : upW fs x y c = wt fs [] x y (ind fs.length c) := by rw [wt_nil, upW_ind hx0 hy0 nd lt]
    have e1 : (1 : Rat) = wt fs [] x y (ind fs.length []) := by
      rw [wt_nil, ← upW_ind hx0 hy0 .nil (by simp)]
      unfold upW fieldSum
      rw [List.map_nil, List.sum_nil, Rat.zpow_zero]
      show (1 : Rat) = 1 * y ^ (0 : Int)
      rw [Rat.zpow_zero, Rat.mul_one]
    refine ⟨by rw [eW]; exact G0.szw (ind_mem _ _), ?_⟩
    have := G0.sz_sum (l := [wt fs [] x y (ind fs.length []), wt fs [] x y (ind fs.length c)]) (fun q hq => ?_) (by show 2 ≤ 64; decide)
    · rw [List.sum_cons, List.sum_cons, List.sum_nil, Rat.add_zero, ← e1, ← eW] at this
      exact this
    · rcases List.mem_cons.mp hq with rfl | hq
      · exact ⟨_, ind_mem _ _, rfl⟩
      · rw [List.mem_singleton.mp hq]
        exact ⟨_, ind_mem _ _, rfl⟩
  have nl : ∀ {n : Nat} {c : List Nat}, c.Nodup → (∀ v ∈ c, v < n) → c.length ≤ n := fun {n c} nd lt => by
    have h := List.Nodup.length_le_of_subset (l₂ := List.range n) nd fun i hi => List.mem_range.mpr (lt i hi)
    rw [List.length_range] at h
    exact h
  have fsum : ∀ c : List Nat, (fieldSum fs c).natAbs ≤ 2 * c.length := fun c => by
    induction c with
    | nil => exact Nat.le_refl 0
    | cons v c ih =>
      have hb : (fs.getD v 0).natAbs ≤ 2 := by
        by_cases hv : v < fs.length
        · have := G.fb (fs.getD v 0) (by rw [List.getD, List.getElem?_eq_getElem hv]; exact List.getElem_mem hv)
          omega
        · rw [List.getD, List.getElem?_eq_none (by omega)]
          decide
      unfold fieldSum at *
      rw [List.map_cons, List.sum_cons, List.length_cons]
      omega
  refine ⟨fun s _ => G.kok hc hx s, fun s hs q hq => clg (by omega) (tq s hs q hq).2, fun s hs q hq => ?_, fun s hs q hq => (tq s hs q hq).1.sz x1 X4, fun s hs q hq k => (colP_tm' G h4 (tq s hs q hq).2 k).sz c1 C4, fun s hs q hq k => ((tq s hs q hq).1.mul (colP_tm' G h4 (tq s hs q hq).2 k)).sz (Nat.mul_pos x1 c1) XC, fun s hs pre post e k => ?_⟩
  · have p := (tq s hs q hq).2
    generalize q.1 = cs at p
    have cl := fun c (hcm : c ∈ cs) => nl (p.nd c hcm) (p.lt c hcm)
    refine ⟨fun pre post e r hr => ?_, fun c hcm => ?_, fun c hcm => ?_, fun c hcm => ?_, fun c hcm => ?_, fun c hcm => (w1 c (p.nd c hcm) (p.lt c hcm)).1, fun c hcm => (w1 c (p.nd c hcm) (p.lt c hcm)).2, fun c hcm => ?_, fun c hcm => (up_tm G h4 (p.nd c hcm) (p.lt c hcm)).sz e0 C1, fun c hcm => (up_tm G h4 (p.nd c hcm) (p.lt c hcm)).sub.sz e0 C1⟩
    · have dis := p.dis
      rw [e] at dis
      have hm : ∀ c ∈ pre, c ∈ cs := fun c hcm => by rw [e]; exact List.mem_append_left _ hcm
      have ent := (col_ent (fs := fs) (x := x) (y := y) pre (List.pairwise_append.mp dis).1 (fun c hcm => p.ne c (hm c hcm)) r hr).2
      have t := prod_tm (D := cD fs x y) (l := pre.map (K49.hc fs x y r.1)) fun q hq => by
        obtain ⟨c, hcm, rfl⟩ := List.mem_map.mp hq
        exact hc_tm G h4 (p.nd c (hm c hcm)) (p.lt c (hm c hcm)) _
      rw [← ent, List.length_map] at t
      have hl := p.len
      have hpl : pre.length ≤ 4 := by
        have := congrArg List.length e
        rw [List.length_append] at this
        omega
      exact (t.up (Nat.pow_dvd_pow _ hpl)).sz c1 C4
    · have := fsum c
      have := cl c hcm
      omega
    · have := cl c hcm
      omega
    · have h1 := fsum c
      have h2 := cl c hcm
      exact sz_zpow G.x0 (by have := G.xn; omega) (by have := G.xd; omega) (by omega)
    · have h2 := cl c hcm
      exact sz_zpow G.y0 (by have := G.yn; omega) (by have := G.yd; omega) (by omega)
    · have : 0 < upW fs x y c := Rat.mul_pos (zpow_pos' G.x0 _) (zpow_pos' G.y0 _)
      grind
  · have hl := keptC_len fs.length x s es
    have h10 : 2 ^ es.length ≤ 1024 := Nat.pow_le_pow_right (n := 2) (by decide) G.el
    have hpl : pre.length ≤ 1024 := by
      have := congrArg List.length e
      rw [List.length_append] at this
      omega
    refine tm_sum_sz (D := xD x es * cD fs x y ^ 4) (fun t ht => ?_) (by rw [List.length_map]; omega) (Nat.mul_pos x1 c1) XC
    obtain ⟨q, hq, rfl⟩ := List.mem_map.mp ht
    have hq2 : q ∈ keptC fs.length x s es := by rw [e]; exact List.mem_append_left _ hq
    exact (tq s hs q hq2).1.mul (colP_tm' G h4 (tq s hs q hq2).2 k)
end K49
/-! the single turn: its table -/
namespace K49
variable {fs : List Int} {es : List (Nat × Nat × Int)} {x : Rat}
/-- what comes to k from a partition -/
def stG (n : Nat) (s : List Int) (k : Nat) (cs : List (List Nat)) : Rat := acc k (cs.map fun c => (idx (flip c s), (c.length : Int) / ((n : Int) : Rat)))
theorem stR_w (n : Nat) (es : List (Nat × Nat × Int)) (x : Rat) (s : List Int) (k : Nat) : stR n x es s k = wsum (keptC n x s es) (stG n s k) := by
  unfold stR turns wsum
  rw [acc_flatMap]
  congr 1
  refine List.map_congr_left fun q _ => ?_
  unfold turnsOf stG
  rw [← acc_map (α := Nat) k q.2 (q.1.map fun c => (idx (flip c s), (c.length : Int) / ((n : Int) : Rat))), List.map_map]
  rfl
theorem stM_kept (n : Nat) (es : List (Nat × Nat × Int)) (x : Rat) (i k : Nat) : stM n es x i k = wsum (kept x (stN n i) es) (fun p => stG n (stN n i) k (clus n p)) := by
  have h := stR_w n es x (stN n i) k
  rw [keptC_sum n x (stN n i) es (stG n (stN n i) k)] at h
  exact h
theorem flip_idx {n : Nat} {s : List Int} (hs : s ∈ sts n) (c : List Nat) : idx (flip c s) < 2 ^ n ∧ stN n (idx (flip c s)) = flip c s := by
  have hm := sts_mem _ _ hs
  have hl : (flip c s).length = n := by rw [flip_len, hm.1]
  have := st_idx hl (flip_bits c s hm.2)
  exact ⟨this.2, this.1⟩
theorem flip_get {s : List Int} {c : List Nat} {v : Nat} (hv : v < s.length) : (flip c s).getD v 0 = if v ∈ c then 1 - s.getD v 0 else s.getD v 0 := by
  unfold flip
  rw [List.getD, List.getElem?_map, List.getElem?_range hv]
  rfl
theorem flip_flip {s : List Int} (c : List Nat) : flip c (flip c s) = s := by
  apply List.ext_getElem?
  intro i
  by_cases hi : i < s.length
  · have h1 : i < (flip c (flip c s)).length := by rw [flip_len, flip_len]; exact hi
    have e := flip_get (s := flip c s) (c := c) (v := i) (by rw [flip_len]; exact hi)
    rw [flip_get hi] at e
    rw [List.getElem?_eq_getElem h1, List.getElem?_eq_getElem hi]
    have e2 : (flip c (flip c s)).getD i 0 = (flip c (flip c s))[i] := by rw [List.getD, List.getElem?_eq_getElem h1]; rfl
    have e3 : s.getD i 0 = s[i] := by rw [List.getD, List.getElem?_eq_getElem hi]; rfl
    rw [← e2, ← e3, e]
    congr 1
    split
    · omega
    · rfl
  · have h1 : (flip c (flip c s))[i]? = none := List.getElem?_eq_none (by rw [flip_len, flip_len]; omega)
    have h2 : s[i]? = none := List.getElem?_eq_none (by omega)
    rw [h1, h2]
theorem pairwise_dj {cs : List (List Nat)} (pw : cs.Pairwise fun c d => ∀ v ∈ c, v ∉ d) {c d : List Nat} (hc : c ∈ cs) (hd : d ∈ cs) (e : ¬ c = d) : (∀ v ∈ c, v ∉ d) ∨ ∀ v ∈ d, v ∉ c := by
  induction cs with
  | nil => cases hc
  | cons q cs ih =>
    obtain ⟨p1, p2⟩ := List.pairwise_cons.mp pw
    rcases List.mem_cons.mp hc with h1 | h1
    · rcases List.mem_cons.mp hd with h2 | h2
      · exact absurd (h1.trans h2.symm) e
      · rw [h1]
        exact .inl (p1 d h2)
    · rcases List.mem_cons.mp hd with h2 | h2
      · rw [h2]
        exact .inr (p1 c h1)
      · exact ih p2 h1 h2
theorem zpow_one_abs (e : Int) : (1 : Rat) ^ e = if 0 ≤ e then (1 : Rat) ^ e.natAbs else 1 / (1 : Rat) ^ e.natAbs := by
  by_cases he : 0 ≤ e
  · rw [if_pos he]
    obtain ⟨k, rfl⟩ : ∃ k : Nat, e = k := ⟨e.toNat, by omega⟩
    rw [Int.natAbs_natCast, Rat.zpow_natCast]
  · rw [if_neg he]
    obtain ⟨k, rfl⟩ : ∃ k : Nat, e = -(k : Int) := ⟨(-e).toNat, by omega⟩
    rw [Int.natAbs_neg, Int.natAbs_natCast, Rat.zpow_neg, Rat.zpow_natCast, Rat.div_def, Rat.one_mul]
/-- turning a whole cluster keeps the state constant on the clusters -/
theorem flip_cst {n : Nat} {s : List Int} {cs : List (List Nat)} (p : Part n cs) (hl : s.length = n) {c : List Nat} (hc : c ∈ cs) (h : cstC s cs) : cstC (flip c s) cs := by
  intro d hd a ha b hb
  have la := p.lt d hd a ha
  have lb := p.lt d hd b hb
  rw [flip_get (by omega), flip_get (by omega), h d hd a ha b hb]
  have same : a ∈ c ↔ b ∈ c := by
    by_cases e : c = d
    · subst e
      exact ⟨fun _ => hb, fun _ => ha⟩
    · have dj := pairwise_dj p.dis hc hd e
      rcases dj with dj | dj
      · exact ⟨fun z => absurd ha (dj a z), fun z => absurd hb (dj b z)⟩
      · exact ⟨fun z => absurd z (dj a ha), fun z => absurd z (dj b hb)⟩
  by_cases q : a ∈ c
  · rw [if_pos q, if_pos (same.mp q)]
  · rw [if_neg q, if_neg fun z => q (same.mpr z)]
theorem S_acc (N : Nat) (l : List (Nat × Rat)) (h : ∀ p ∈ l, p.1 < N) : S N (fun k => acc k l) = (l.map (·.2)).sum := by
  induction l with
  | nil => exact S_const0 N
  | cons a l ih =>
    rw [S_congr (g := fun k => (if a.1 = k then a.2 else 0) + acc k l) fun k _ => acc_cons k a l, S_add, ih fun p hp => h p (List.mem_cons_of_mem _ hp), S_one, if_pos (h a List.mem_cons_self), List.map_cons, List.sum_cons]
theorem len_sum {n : Nat} {cs : List (List Nat)} (p : Part n cs) (hn : 0 < n) : (cs.map fun c => ((c.length : Int) : Rat) / ((n : Int) : Rat)).sum = 1 := by
  have h := p.sum fun _ => 1 / ((n : Int) : Rat)
  have e1 : ∀ c : List Nat, (c.map fun _ => 1 / ((n : Int) : Rat)).sum = ((c.length : Int) : Rat) / ((n : Int) : Rat) := fun c => by
    induction c with
    | nil => show (0 : Rat) = 0 / _; rw [Rat.div_def, Rat.zero_mul]
    | cons a c ih =>
      rw [List.map_cons, List.sum_cons, ih, List.length_cons]
      have : (((c.length + 1 : Nat) : Int) : Rat) = ((c.length : Int) : Rat) + 1 := by exact_mod_cast rfl
      rw [this, Rat.div_def, Rat.div_def, Rat.div_def]
      grind
  rw [List.map_congr_left fun c _ => (e1 c).symm, h]
  have e2 : ∀ m : Nat, S m (fun _ => 1 / ((n : Int) : Rat)) = (m : Rat) * (1 / ((n : Int) : Rat)) := fun m => by
    induction m with
    | zero => rw [S_zero]; exact (Rat.zero_mul _).symm
    | succ m ih =>
      rw [S_succ, ih]
      have : ((m + 1 : Nat) : Rat) = (m : Rat) + 1 := by exact_mod_cast rfl
      rw [this]
      grind
  rw [e2, Rat.div_def, Rat.one_mul]
  have e3 : ((n : Int) : Rat) = (n : Rat) := rfl
  rw [e3]
  exact Rat.mul_inv_cancel _ (by have : n ≠ 0 := by omega
                                 exact_mod_cast this)
theorem stG_one {n i : Nat} (hi : i < 2 ^ n) (hn : 0 < n) {cs : List (List Nat)} (p : Part n cs) : S (2 ^ n) (fun k => stG n (stN n i) k cs) = 1 := by
  unfold stG
  rw [S_acc]
  · rw [List.map_map]
    exact len_sum p hn
  · intro q hq
    obtain ⟨c, _, rfl⟩ := List.mem_map.mp hq
    exact (flip_idx (stN_mem hi) c).1
theorem st_one {n : Nat} (es : List (Nat × Nat × Int)) (x : Rat) {i : Nat} (hi : i < 2 ^ n) (hn : 0 < n) : S (2 ^ n) (stM n es x i) = 1 := by
  rw [S_congr fun k _ => stM_kept n es x i k, wsum_S]
  rw [wsum_congr (g := fun _ => 1) fun p _ => stG_one hi hn (part_clus n p.1)]
  exact kept_sum x _ es
theorem acc_congr {α : Type} {k l : Nat} {m : List α} {f g : α → Nat} {t : α → Rat} (h : ∀ a ∈ m, f a = k ↔ g a = l) : acc k (m.map fun a => (f a, t a)) = acc l (m.map fun a => (g a, t a)) := by
  induction m with
  | nil => rfl
  | cons a m ih =>
    rw [List.map_cons, List.map_cons, acc_cons, acc_cons, ih fun b hb => h b (List.mem_cons_of_mem _ hb)]
    have := h a List.mem_cons_self
    congr 1
    show (if f a = k then t a else 0) = if g a = l then t a else 0
    by_cases e : f a = k
    · rw [if_pos e, if_pos (this.mp e)]
    · rw [if_neg e, if_neg fun z => e (this.mpr z)]
/-- from i to j as from j to i -/
theorem turn_sym {n i j : Nat} (hi : i < 2 ^ n) (hj : j < 2 ^ n) (c : List Nat) : idx (flip c (stN n i)) = j ↔ idx (flip c (stN n j)) = i := by
  constructor
  · intro h
    have e := (flip_idx (stN_mem hi) c).2
    rw [h] at e
    rw [e, flip_flip, idx_st hi]
  · intro h
    have e := (flip_idx (stN_mem hj) c).2
    rw [h] at e
    rw [e, flip_flip, idx_st hj]
theorem st_bal (G : Good fs es x 1) (hf : ∀ f ∈ fs, f = 0) (i j : Nat) (hi : i < 2 ^ fs.length) (hj : j < 2 ^ fs.length) : wN fs es x 1 i * stM fs.length es x i j = wN fs es x 1 j * stM fs.length es x j i := by
  have hx0 : x ≠ 0 := fun z => by have := G.x0; rw [z] at this; exact absurd this (by decide)
  have prs := subs_prs x es G.prs
  have paid0 : ∀ s, paid fs s = 0 := fun s => by
    unfold paid
    have : ∀ (l : List (Int × Int)), (∀ p ∈ l, p.1 = 0) → (l.filterMap fun p => if p.2 = 1 then some p.1 else none).sum = 0 := by
      intro l
      induction l with
      | nil => intro _; rfl
      | cons a l ih =>
        intro h
        have h1 := ih fun p hp => h p (List.mem_cons_of_mem _ hp)
        have h2 := h a List.mem_cons_self
        rw [List.filterMap_cons]
        by_cases e : a.2 = 1
        · simp only [if_pos e]
          rw [List.sum_cons, h1, h2]
          rfl
        · simp only [if_neg e]
          exact h1
    exact this _ fun p hp => hf p.1 (List.of_mem_zip hp).1
  have one_pow : ∀ e : Int, (1 : Rat) ^ e = 1 := fun e => by
    have h1 : ∀ k : Nat, (1 : Rat) ^ k = 1 := fun k => by
      induction k with
      | zero => rw [Rat.pow_zero]
      | succ k ih => rw [Rat.pow_succ, ih, Rat.mul_one]
    rw [zpow_one_abs, h1]
    split <;> grind
  have half : ∀ i j, i < 2 ^ fs.length → j < 2 ^ fs.length → wN fs es x 1 i * stM fs.length es x i j = wsum (subs x es) (fun p => if cst (stN fs.length i) p then stG fs.length (stN fs.length i) j (clus fs.length p) else 0) := fun i j hi hj => by
    rw [← U_sum hx0 (stN fs.length i) es fun p => stG fs.length (stN fs.length i) j (clus fs.length p), wN_eq hi, wt_Fw hx0, stM_kept]
    unfold Fw
    rw [paid0, Rat.zpow_zero, one_pow, Rat.one_mul, Rat.one_mul]
  rw [half i j hi hj, half j i hj hi]
  refine wsum_congr fun p hp => ?_
  have pt := part_clus fs.length p.1
  have si := sts_mem _ _ (stN_mem hi)
  have sj := sts_mem _ _ (stN_mem hj)
  have sym : stG fs.length (stN fs.length i) j (clus fs.length p.1) = stG fs.length (stN fs.length j) i (clus fs.length p.1) := acc_congr fun c _ => turn_sym hi hj c
  -- where one is constant and the other is not, nothing comes
  have none_ : ∀ i j, i < 2 ^ fs.length → j < 2 ^ fs.length → cst (stN fs.length i) p.1 → ¬ cst (stN fs.length j) p.1 → stG fs.length (stN fs.length i) j (clus fs.length p.1) = 0 := fun i j hi hj h1 h2 => by
    unfold stG
    refine acc_out fun r hr e => ?_
    obtain ⟨c, hc, rfl⟩ := List.mem_map.mp hr
    have e : idx (flip c (stN fs.length i)) = j := e
    have e2 := (flip_idx (stN_mem hi) c).2
    rw [e] at e2
    refine h2 ((cst_iff (prs p hp)).mpr ?_)
    rw [e2]
    exact flip_cst pt (sts_mem _ _ (stN_mem hi)).1 hc ((cst_iff (prs p hp)).mp h1)
  by_cases h1 : cst (stN fs.length i) p.1
  · by_cases h2 : cst (stN fs.length j) p.1
    · rw [if_pos h1, if_pos h2, sym]
    · rw [if_pos h1, if_neg h2, none_ i j hi hj h1 h2]
  · by_cases h2 : cst (stN fs.length j) p.1
    · rw [if_neg h1, if_pos h2, none_ j i hj hi h2 h1]
    · rw [if_neg h1, if_neg h2]
theorem part_tm {n m : Nat} (hn : 0 < n) (hm : m ≤ n) : Tm n (((m : Int) : Rat) / ((n : Int) : Rat)) := by
  have e0 : ((n : Int) : Rat) = (n : Rat) := rfl
  have e1 : ((m : Int) : Rat) = (m : Rat) := rfl
  have hp : (0 : Rat) < (n : Rat) := by exact_mod_cast hn
  have hm0 : (0 : Rat) ≤ (m : Rat) := by exact_mod_cast Nat.zero_le m
  have hmn : (m : Rat) ≤ (n : Rat) := by exact_mod_cast hm
  have hne : (n : Rat) ≠ 0 := by have : n ≠ 0 := by omega
                                 exact_mod_cast this
  rw [e0, e1]
  refine ⟨?_, div_le_one2 hp hmn, (m : Int), ?_⟩
  · rw [Rat.div_def]
    exact Rat.mul_nonneg hm0 (Rat.le_of_lt (Rat.inv_pos.mpr hp))
  · rw [e1, Rat.div_def, Rat.mul_assoc, Rat.inv_mul_cancel _ hne, Rat.mul_one]
theorem nd_len {n : Nat} {c : List Nat} (nd : c.Nodup) (lt : ∀ v ∈ c, v < n) : c.length ≤ n := by
  have h := List.Nodup.length_le_of_subset (l₂ := List.range n) nd fun i hi => List.mem_range.mpr (lt i hi)
  rw [List.length_range] at h
  exact h
theorem turns_tm (G : Good fs es x 1) (hc : ∀ e ∈ es, 0 ≤ e.2.2) (hx : x ≤ 1) (s : List Int) : ∀ p ∈ turns fs.length x es s, Tm (xD x es * fs.length) p.2 := by
  intro p hp
  unfold turns at hp
  obtain ⟨q, hq, hp⟩ := List.mem_flatMap.mp hp
  unfold turnsOf at hp
  obtain ⟨c, hcm, rfl⟩ := List.mem_map.mp hp
  obtain ⟨r, hr, rfl⟩ := mem_keptC hq
  have pt := part_clus fs.length r.1
  exact (kept_tm G.x0 hx s es hc r hr).mul (part_tm G.n1 (nd_len (pt.nd c hcm) (pt.lt c hcm)))
theorem stD (G : Good fs es x 1) : 0 < xD x es * fs.length ∧ xD x es * fs.length ≤ 2 ^ 63 := by
  obtain ⟨x1, x2, _⟩ := G.xDb
  refine ⟨Nat.mul_pos x1 G.n1, ?_⟩
  have h := Nat.mul_le_mul x2 (show fs.length ≤ 2 ^ 3 by have := G.n5; omega)
  rw [← Nat.pow_add] at h
  exact h
theorem tab_single (G : Good fs es x 1) (h4 : fs.length ≤ 4) (hc : ∀ e ∈ es, 0 ≤ e.2.2) (hx : x ≤ 1) (hf : ∀ f ∈ fs, f = 0) : TabOk fs es x 1 (stM fs.length es x) := by
  obtain ⟨d0, d1⟩ := stD G
  have one := fun i (hi : i < 2 ^ fs.length) => st_one es x hi G.n1
  refine tab_of G ⟨one, fun i j hi hj => st_bal G hf i j hi hj, _, d0, Nat.le_trans d1 (Nat.pow_le_pow_right (by decide) (by decide)), fun i k hi hk => ?_⟩
  have key : ∀ k, 0 ≤ stM fs.length es x i k ∧ ∃ z : Int, stM fs.length es x i k * ((xD x es * fs.length : Nat) : Rat) = (z : Rat) := fun k => by
    have := acc_tm k (turns_tm G hc hx (stN fs.length i))
    exact ⟨this.1, this.2.2⟩
  exact tm_of (fun k _ => (key k).1) (one i hi) (fun k _ => (key k).2) hk
theorem tok (G : Good fs es x 1) (h4 : fs.length ≤ 4) (hc : ∀ e ∈ es, 0 ≤ e.2.2) (hx : x ≤ 1) : TOk fs.length es x := by
  obtain ⟨x1, x2, _⟩ := G.xDb
  obtain ⟨d0, d1⟩ := stD G
  have X4 : xD x es < 2 ^ 4400 := Nat.lt_of_le_of_lt x2 p60
  have D4 : xD x es * fs.length < 2 ^ 4400 := Nat.lt_of_le_of_lt d1 (Nat.pow_lt_pow_right (by decide) (by decide))
  have tlen : ∀ s, (turns fs.length x es s).length ≤ 65536 := fun s => by
    have hl := keptC_len fs.length x s es
    have h10 : 2 ^ es.length ≤ 1024 := Nat.pow_le_pow_right (n := 2) (by decide) G.el
    have hq : ∀ q ∈ keptC fs.length x s es, (turnsOf fs.length s q).length ≤ 5 := fun q hq => by
      obtain ⟨r, hr, rfl⟩ := mem_keptC hq
      unfold turnsOf
      rw [List.length_map]
      have := (part_clus fs.length r.1).len
      have := G.n5
      show (clus fs.length r.1).length ≤ 5
      omega
    have fl : ∀ l : List (List (List Nat) × Rat), (∀ q ∈ l, (turnsOf fs.length s q).length ≤ 5) → (l.flatMap (turnsOf fs.length s)).length ≤ 5 * l.length := by
      intro l
      induction l with
      | nil => intro _; simp
      | cons a l ih =>
        intro h
        have h1 := ih fun q hq => h q (List.mem_cons_of_mem _ hq)
        have h2 := h a List.mem_cons_self
        rw [List.flatMap_cons, List.length_append, List.length_cons]
        omega
    have := fl _ hq
    unfold turns
    omega
  refine ⟨fun s _ => G.kok hc hx s, fun s _ q hq => ?_, fun s _ q hq => ?_, fun m hm => ?_, fun s _ q hq c hcm => ?_, fun s _ p hp => (turns_tm G hc hx s p hp).sz d0 D4, fun s _ pre post e k => ?_⟩
  · obtain ⟨r, hr, rfl⟩ := mem_keptC hq
    exact clg (by omega) (part_clus fs.length r.1)
  · obtain ⟨r, hr, rfl⟩ := mem_keptC hq
    exact (kept_tm G.x0 hx s es hc r hr).sz x1 X4
  · exact (part_tm G.n1 hm).sz G.n1 (Nat.lt_of_le_of_lt (show fs.length ≤ 2 ^ 3 by omega) (Nat.pow_lt_pow_right (by decide) (by decide)))
  · obtain ⟨r, hr, rfl⟩ := mem_keptC hq
    have pt := part_clus fs.length r.1
    exact nd_len (pt.nd c hcm) (pt.lt c hcm)
  · have hl := tlen s
    have hpl : pre.length ≤ 65536 := by
      have := congrArg List.length e
      rw [List.length_append] at this
      omega
    exact acc_sz k (fun p hp => turns_tm G hc hx s p (by rw [e]; exact List.mem_append_left _ hp)) hpl d0 D4
end K49
/-! the plain law: what the law asks of the tables of the heat bath and of the trial -/
namespace K49
variable {fs : List Int} {es : List (Nat × Nat × Int)} {x y : Rat}
theorem tab_heat (G : Good fs es x y) {v : Nat} (hv : v < fs.length) : TabOk fs es x y (hbP (wN fs es x y) fs.length v) := tab_of G (core_heat G hv).1
theorem tab_trial (G : Good fs es x y) {v : Nat} (hv : v < fs.length) : TabOk fs es x y (trP (wN fs es x y) fs.length v) := tab_of G (core_trial G hv)
end K49
namespace K49
open PySem PySem.Spec PyProof.Rows L2
theorem tif_const {K : VK} {c : Prop} [Decidable c] {a b : V} {σ : L2.St} {H : Hp} (h : K (if c then a else b) H) : if decide c = true then tC a σ H K else tC b σ H K := by
  by_cases hc : c
  · rw [if_pos hc] at h
    rw [if_pos (decide_eq_true hc)]
    exact h
  · rw [if_neg hc] at h
    rw [if_neg (by rw [decide_eq_false hc]; decide)]
    exact h
theorem wts_range {fs : List Int} {es : List (Nat × Nat × Int)} {x y : Rat} : wts fs es x y = (List.range (2 ^ fs.length)).map (wN fs es x y) := by
  have h := map_at (wts fs es x y) 0 id
  rw [List.map_id, wts_len] at h
  exact h
theorem dist_range {fs : List Int} {es : List (Nat × Nat × Int)} {x y : Rat} : dist (wts fs es x y) = (List.range (2 ^ fs.length)).map (shr fs es x y) := by
  unfold dist
  rw [wts_range, List.map_map, ← wts_range]
  rfl
section
variable {P : Program} {w : World} {K : PySem.W.Frag} {mg : Str → Option Value} {base : Heap}
def sp_law (K : PySem.W.Frag) : Sp := fun vs H Q _ => ∃ (s : Addr) (ns : List Int), vs = [.ref s] ∧ SqL K H s (ns.map .int) ∧ ∀ H', Q (.bl true) H'
theorem ok_law (T : Txt K mg) : FnOk P w K mg base CX0 9 T.d_law.f T.d_law.d ["_law_script"] (sp_law K) := by
  refine T.d_law.F.ok sc_law (fun vs H Q E h => ?_) (fun cdv A outer s H vs Q E hr h => ?_)
  · obtain ⟨s, ns, rfl, _⟩ := h
    rfl
  · obtain ⟨s, ns, rfl, hs, k⟩ := h
    refine ⟨_, (pss_cons
        (ps_set (i := 1) sc_law.nd rfl (.inl rfl) (pe_callB call_abs (by rfl) T.m_abs (by decide +kernel) (pa_cons (pe_call (ok_l_cell T) (hr.mono (by decide)) (by rfl) T.d_l_cell.g T.d_l_cell.F.kp T.d_l_cell.b .nil pass0 (pa_cons (pv 0) (pa_cons pe_int pa_nil))) pa_nil)))
        (pss_cons
        (ps_set (i := 2) sc_law.nd rfl (.inl rfl) (pe_op op_mod (pv 1) pe_int))
        (pss_cons
        (ps_asg (pe_call (ok_l_spins T) (hr.mono (by decide)) (by rfl) T.d_l_spins.g T.d_l_spins.F.kp T.d_l_spins.b .nil pass0 (pa_cons (pv 0) (pa_cons pe_int (pa_cons (pe_ifExp (pt_cmpR op_gt (pv 2) pe_int (nomark _)) pe_int pe_int) (pa_cons (pe_ix ix_tup (pe_tup (pa_cons pe_int (pa_cons pe_int (pa_cons pe_int (pa_cons pe_int pa_nil))))) (pv 2) (fun _ _ => rfl)) pa_nil))))) (pg_tup rfl (pgs_cons (pg_name (i := 3) sc_law.nd rfl (.inl rfl)) (pgs_cons (pg_name (i := 4) sc_law.nd rfl (.inl rfl)) pgs_nil))))
        (pss_cons
        (ps_asg (pe_call (ok_l_fractions T) (hr.mono (by decide)) (by rfl) T.d_l_fractions.g T.d_l_fractions.F.kp T.d_l_fractions.b .nil pass0 (pa_cons (pe_callB call_abs (by rfl) T.m_abs (by decide +kernel) (pa_cons (pe_call (ok_l_cell T) (hr.mono (by decide)) (by rfl) T.d_l_cell.g T.d_l_cell.F.kp T.d_l_cell.b .nil pass0 (pa_cons (pv 0) (pa_cons pe_int pa_nil))) pa_nil)) (pa_cons (pe_cmpR op_gt (pv 2) pe_int (nomark _)) pa_nil))) (pg_tup rfl (pgs_cons (pg_name (i := 5) sc_law.nd rfl (.inl rfl)) (pgs_cons (pg_name (i := 6) sc_law.nd rfl (.inl rfl)) pgs_nil))))
        (pss_cons
        (ps_if (pt_cmpR op_eq (pv 2) pe_int (nomark _)) (pss_one
        (ps_set (i := 6) sc_law.nd rfl (.inl rfl) (pe_tup (pa_cons pe_int (pa_cons pe_int pa_nil))))) pss_nil)
        (pss_cons
        (ps_set (i := 7) sc_law.nd rfl (.inl rfl) (pe_make T.mkC (ok_init T) (hr.mono (by decide)) (by rfl) T.g_Spins T.b_init .nil pass0 (pa_cons (pv 3) (pa_cons (pv 4) pa_nil))))
        (pss_cons
        (ps_set (i := 8) sc_law.nd rfl (.inl rfl) (pe_op op_mod (pe_op op_fdivW (pv 1) pe_int) (pe_callB call_len_seq (by rfl) T.m_len PySem.boot_len (pa_cons (pv 3) pa_nil))))
        (pss_cons
        (ps_if (pt_cmpR op_eq (pv 2) pe_int (nomark _)) (pss_one
        (ps_set (i := 9) sc_law.nd rfl (.inl rfl) (pe_call (ok_heat_bath T) (hr.mono (by decide)) (by rfl) T.d_heat_bath.g T.d_heat_bath.F.kp T.d_heat_bath.b .nil pass0 (pa_cons (pv 7) (pa_cons (pv 8) (pa_cons (pv 5) (pa_cons (pv 6) pa_nil))))))) (pss_one
        (ps_if (pt_cmpR op_eq (pv 2) pe_int (nomark _)) (pss_one
        (ps_set (i := 9) sc_law.nd rfl (.inl rfl) (pe_call (ok_trial T) (hr.mono (by decide)) (by rfl) T.d_trial.g T.d_trial.F.kp T.d_trial.b .nil pass0 (pa_cons (pv 7) (pa_cons (pv 8) (pa_cons (pv 5) (pa_cons (pv 6) pa_nil))))))) (pss_one
        (ps_if (pt_cmpR op_eq (pv 2) pe_int (nomark _)) (pss_one
        (ps_set (i := 9) sc_law.nd rfl (.inl rfl) (pe_call (ok_cluster_move T) (hr.mono (by decide)) (by rfl) T.d_cluster_move.g T.d_cluster_move.F.kp T.d_cluster_move.b .nil pass0 (pa_cons (pv 7) (pa_cons (pv 5) (pa_cons (pv 6) pa_nil)))))) (pss_one
        (ps_set (i := 9) sc_law.nd rfl (.inl rfl) (pe_call (ok_single_turn T) (hr.mono (by decide)) (by rfl) T.d_single_turn.g T.d_single_turn.F.kp T.d_single_turn.b .nil pass0 (pa_cons (pv 7) (pa_cons (pv 5) pa_nil))))))))))
        (pss_cons
        (ps_set (i := 10) sc_law.nd rfl (.inl rfl) (pe_call (ok_l_weights T) (hr.mono (by decide)) (by rfl) T.d_l_weights.g T.d_l_weights.F.kp T.d_l_weights.b .nil pass0 (pa_cons (pv 3) (pa_cons (pv 4) (pa_cons (pv 5) (pa_cons (pv 6) pa_nil))))))
        (pss_cons
        (ps_if (PW.pt (pw_or (pt_not (pt_val (pe_call (ok_l_are_rows T) hr (by rfl) T.d_l_are_rows.g T.d_l_are_rows.F.kp T.d_l_are_rows.b .nil pass0 (pa_cons (pv 9) (pa_cons (pe_callB call_len_seq (by rfl) T.m_len PySem.boot_len (pa_cons (pv 10) pa_nil)) pa_nil))))) (pw_or1 (pt_not (pt_val (pe_call (ok_l_is_kept T) (hr.mono (by decide)) (by rfl) T.d_l_is_kept.g T.d_l_is_kept.F.kp T.d_l_is_kept.b .nil pass0 (pa_cons (pv 10) (pa_cons (pv 9) pa_nil)))))))) (pss_one
        (ps_ret pe_bl)) pss_nil)
        (pss_cons
        (ps_set (i := 11) sc_law.nd rfl (.inl rfl) (pe_call (ok_distribution_of T) (hr.mono (by decide)) (by rfl) T.d_distribution_of.g T.d_distribution_of.F.kp T.d_distribution_of.b .nil pass0 (pa_cons (pv 7) (pa_cons (pv 5) (pa_cons (pv 6) pa_nil)))))
        (pss_cons
        (ps_if (PW.pt (pw_or (pt_cmpR (op_neD hr.units) (pv 11) (pe_call (ok_l_shares T) (hr.mono (by decide)) (by rfl) T.d_l_shares.g T.d_l_shares.F.kp T.d_l_shares.b .nil pass0 (pa_cons (pv 10) pa_nil)) (nomark _)) (pw_or (pt_cmpR op_notBl (pe_call (ok_is_balanced T) (hr.mono (by decide)) (by rfl) T.d_is_balanced.g T.d_is_balanced.F.kp T.d_is_balanced.b .nil pass0 (pa_cons (pv 11) (pa_cons (pv 9) pa_nil))) pe_bl (nomark _)) (pw_or1 (pt_cmpR op_notBl (pe_call (ok_keeps T) (hr.mono (by decide)) (by rfl) T.d_keeps.g T.d_keeps.F.kp T.d_keeps.b .nil pass0 (pa_cons (pv 11) (pa_cons (pv 9) pa_nil))) pe_bl (nomark _)))))) (pss_one
        (ps_ret pe_bl)) pss_nil)
        (pss_cons
        (ps_set (i := 12) sc_law.nd rfl (.inl rfl) (pe_call (ok_heat_bath T) (hr.mono (by decide)) (by rfl) T.d_heat_bath.g T.d_heat_bath.F.kp T.d_heat_bath.b .nil pass0 (pa_cons (pv 7) (pa_cons (pe_op op_mod (pe_op op_fdivW (pv 1) pe_int) (pe_callB call_len_seq (by rfl) T.m_len PySem.boot_len (pa_cons (pv 3) pa_nil))) (pa_cons (pv 5) (pa_cons (pv 6) pa_nil))))))
        (pss_cons
        (ps_set (i := 13) sc_law.nd rfl (.inl rfl) (pe_call (ok_followed T) (hr.mono (by decide)) (by rfl) T.d_followed.g T.d_followed.F.kp T.d_followed.b .nil pass0 (pa_cons (pv 9) (pa_cons (pv 12) pa_nil))))
        (pss_one
        (ps_ret (pe_and (pe_cmpR (op_eqD hr.units) (pe_call (ok_after T) (hr.mono (by decide)) (by rfl) T.d_after.g T.d_after.F.kp T.d_after.b .nil pass0 (pa_cons (pv 11) (pa_cons (pv 13) pa_nil))) (pv 11) (nomark _)) (pe_one (pe_call (ok_l_are_rows T) hr (by rfl) T.d_l_are_rows.g T.d_l_are_rows.F.kp T.d_l_are_rows.b .nil pass0 (pa_cons (pv 13) (pa_cons (pe_callB call_len_seq (by rfl) T.m_len PySem.boot_len (pa_cons (pv 10) pa_nil)) pa_nil))))))))))))))))))))), ?_⟩
    have dv : ∀ (i j : Int), 0 < j → j < 1000 → CDivW i j := fun i j h1 h2 => wide_div (b := 60) h1 (by omega) (by decide) (by decide)
    refine ⟨_, rfl, s, ns, 0, rfl, hs, _, rfl, ?_⟩
    obtain ⟨A, hA, hA0⟩ : ∃ A : Int, (if ns.getD 0 0 < 0 then -ns.getD 0 0 else ns.getD 0 0) = A ∧ 0 ≤ A := ⟨_, rfl, by split <;> omega⟩
    dsimp only
    rw [hA]
    refine ⟨_, rfl, _, _, rfl, rfl, (show (0 : Int) < 4 by decide), ?_⟩
    obtain ⟨kd, hk, hk0, hk4⟩ : ∃ kd : Nat, A % 4 = (kd : Int) ∧ 0 ≤ kd ∧ kd < 4 := ⟨(A % 4).toNat, by have := Int.emod_nonneg A (show (4 : Int) ≠ 0 by decide); omega, by omega, by have := Int.emod_lt_of_pos A (show (0 : Int) < 4 by decide); omega⟩
    dsimp only
    rw [hk]
    -- the spins' data
    have em : (if (1 : Int) < (kd : Int) then V.int 4 else V.int 5) = V.int ((if 1 < kd then 4 else 5 : Nat) : Int) := by
      by_cases h : 1 < kd
      · rw [if_pos (by omega), if_pos h]
        rfl
      · rw [if_neg (by omega), if_neg h]
        rfl
    have ek : atI ([0, 1, 1, 3].map V.int) (kd : Int) = some (.int (([0, 1, 1, 3] : List Int).getD kd 0)) := at_st hk4
    refine ⟨_, rfl, _, rfl, _, _, rfl, rfl, _, rfl, tif_const ?_⟩
    rw [em]
    refine ⟨by show 4 ≤ sizeLine; decide, fun t0 ht0 => ⟨_, rfl, t0, _, _, _, rfl, rfl, .inl (.inl upd_same), ek, ?_⟩⟩
    have st0 := same_new (o := .tup [.int 0, .int 1, .int 1, .int 3]) ht0
    refine ⟨s, ns, 1, if 1 < kd then 4 else 5, _, rfl, st0.seq hs, (by split <;> decide), (by split <;> decide), fun t1 f e fs es H1 s1 ht1 hf he spok => ?_⟩
    have hm5 : (if 1 < kd then 4 else 5) ≤ 5 := by split <;> decide
    have sH1 := st0.trans s1
    refine ⟨t1, _, rfl, ht1, rfl, _, _, rfl, _, _, rfl, rfl, ?_⟩
    -- the fractions
    refine ⟨_, rfl, s, ns, 4, rfl, sH1.seq hs, _, rfl, _, rfl, _, _, rfl, rfl, _, _, rfl, (by split <;> omega), fun t2 zx zy x y H2 s2 ht2 dzx dzy x0 xn xd y0 yn yd xu => ?_⟩
    have sH2 := sH1.trans s2
    refine ⟨t2, _, rfl, ht2, rfl, _, _, rfl, _, _, rfl, rfl, ?_⟩
    -- y
    apply join (Fa := fun v H3 => ∃ y' : Rat, Same H2 H3 ∧ De K H3 v (eF y') ∧ 0 < y' ∧ y'.num ≤ 4 ∧ y'.den ≤ 3 ∧ (kd = 3 → y' = 1))
    · intro tail
      refine ⟨_, rfl, rfl, _, rfl, ite2 (fun hk3 => ?b1) (fun hk3 => ?b2)⟩
      case b2 =>
        have hk3 : ¬ kd = 3 := fun z => hk3 (decide_eq_true (by rw [z]; rfl))
        have facts : ∃ y' : Rat, Same H2 H2 ∧ De K H2 zy (eF y') ∧ 0 < y' ∧ y'.num ≤ 4 ∧ y'.den ≤ 3 ∧ (kd = 3 → y' = 1) := ⟨y, Same.refl _, dzy, y0, yn, yd, fun z => absurd z hk3⟩
        generalize hz : zy = v1
        generalize hh : H2 = h1
        exact tail v1 h1 (by rw [← hz, ← hh]; exact facts)
      case b1 =>
        refine ⟨by show 2 ≤ sizeLine; decide, fun t3 ht3 => ?_⟩
        exact tail (.ref t3) _ ⟨1, same_new ht3, de_new ht3 (.two (.int 1) (.int 1)), by decide, by decide, by decide, fun _ => rfl⟩
    · rintro zy H3 ⟨y, s3, dzy, y0, yn, yd, y1⟩
      have G : Good fs es x y := ⟨spok.n1, Nat.le_trans spok.nm hm5, spok.fb, spok.el, fun a ha => by have := spok.ed a ha; omega, x0, xn, xd, y0, yn, yd⟩
      have h5 := G.n5
      have hn1 := G.n1
      have h32 : 2 ^ fs.length ≤ 32 := Nat.pow_le_pow_right (n := 2) (by decide) h5
      have s13 := s2.trans s3
      have hf3 := s13 _ _ hf
      have hsf3 : SqL K H3 f (fs.map .int) := .inl (.inl hf3)
      obtain ⟨ex0, hex, dex⟩ := he
      have hex3 := s13 _ _ hex
      have he3 : Ls K H3 e (es.map eEd) := ⟨ex0, .inl (.inl hex3), dex.up s13⟩
      -- Spins
      refine ⟨_, rfl, _, rfl, fun a dx ha hdx hne => ?_⟩
      have sa1 : Same H3 (upd H3 dx (.own a)) := same_new hdx
      have ha1 : (upd H3 dx (.own a)) a = none := by rw [upd_ne hne.symm]; exact ha
      have sa2 : Same H3 (upd (upd H3 dx (.own a)) a (.ins T.C dx [])) := sa1.trans (same_new ha1)
      refine ⟨a, f, e, dx, fs, es, rfl, upd_same, ?_, sa2.seq hsf3, he3.up sa2, spok.mkb hm5, fun H4 b4 sp4 => ⟨rfl, ?_⟩⟩
      · intro z
        rw [z, ha] at hex3
        cases hex3
      have s4 : Same H3 H4 := same_but sa2 b4 ha
      have hsf4 := s4.seq hsf3
      have fdiv : ∀ (d : Int), 0 < d → ∃ v : Nat, A / d % ((fs.map V.int).length : Int) = (v : Int) ∧ v < fs.length := fun d hd => by
        have hl : (0 : Int) < ((fs.map V.int).length : Int) := by rw [List.length_map]; omega
        have h1 := Int.emod_nonneg (A / d) (show ((fs.map V.int).length : Int) ≠ 0 by omega)
        have h2 := Int.emod_lt_of_pos (A / d) hl
        have hle : ((fs.map V.int).length : Int) = (fs.length : Int) := by rw [List.length_map]
        exact ⟨(A / d % ((fs.map V.int).length : Int)).toNat, by omega, by omega⟩
      have hlen0 : (0 : Int) < ((fs.map V.int).length : Int) := by rw [List.length_map]; omega
      obtain ⟨vn, hv, hvl⟩ := fdiv 4 (by decide)
      refine ⟨_, rfl, _, _, rfl, rfl, dv _ _ (by decide) (by decide), _, rfl, f, _, rfl, .inl hsf4, _, _, rfl, rfl, hlen0, ?_⟩
      dsimp only
      rw [hv]
      have dzx4 := dzx.up (s3.trans s4)
      have dzy4 := dzy.up s4
      -- the table
      apply join (Fa := fun v H5 => ∃ R, Same H4 H5 ∧ De K H5 v (eT (tab (2 ^ fs.length) R)) ∧ TabOk fs es x y R)
      · intro tail
        refine ⟨_, rfl, rfl, _, rfl, ite2 (fun h0 => ?k0) (fun h0 => ?n0)⟩
        case k0 =>
          exact ⟨_, rfl, _, rfl, _, rfl, _, rfl, a, fs, es, vn, zx, zy, x, y, rfl, sp4, hvl, dzx4, dzy4, G, fun z H5 s5 dz => tail z H5 ⟨_, s5, dz, tab_heat G hvl⟩⟩
        case n0 =>
          have h0 : ¬ kd = 0 := fun z => h0 (decide_eq_true (by rw [z]; rfl))
          refine ⟨_, rfl, rfl, _, rfl, ite2 (fun h1 => ?k1) (fun h1 => ?n1)⟩
          case k1 =>
            exact ⟨_, rfl, _, rfl, _, rfl, _, rfl, a, fs, es, vn, zx, zy, x, y, rfl, sp4, hvl, dzx4, dzy4, G, fun z H5 s5 dz => tail z H5 ⟨_, s5, dz, tab_trial G hvl⟩⟩
          case n1 =>
            have h1 : ¬ kd = 1 := fun z => h1 (decide_eq_true (by rw [z]; rfl))
            have h4 : fs.length ≤ 4 := by
              have := spok.nm
              rw [if_pos (by omega)] at this
              exact this
            have hx1 : x ≤ 1 := xu (decide_eq_true (by omega))
            refine ⟨_, rfl, rfl, _, rfl, ite2 (fun h2 => ?k2) (fun h2 => ?n2)⟩
            case k2 =>
              have h2 : kd = 2 := by have := V.int.inj (of_decide_eq_true h2); omega
              have hc : ∀ e ∈ es, 0 ≤ e.2.2 := spok.c0 (by rw [h2]; exact .inl rfl)
              exact ⟨_, rfl, _, rfl, _, rfl, a, fs, es, zx, zy, x, y, rfl, sp4, dzx4, dzy4, G, hc, hx1, mok G h4 hc hx1, fun z H5 s5 dz => tail z H5 ⟨_, s5, dz, tab_cluster G h4 hc hx1⟩⟩
            case n2 =>
              have h3 : kd = 3 := by
                have : ¬ kd = 2 := fun z => h2 (decide_eq_true (by rw [z]; rfl))
                omega
              have hc : ∀ e ∈ es, 0 ≤ e.2.2 := spok.c0 (by rw [h3]; exact .inr rfl)
              have hf0 : ∀ f ∈ fs, f = 0 := spok.f0 (by rw [h3]; decide)
              have hy1 := y1 h3
              subst hy1
              exact ⟨_, rfl, _, rfl, a, fs, es, zx, x, rfl, sp4, dzx4, G, hc, hx1, hf0, tok G h4 hc hx1, fun z H5 s5 dz => tail z H5 ⟨_, s5, dz, tab_single G h4 hc hx1 hf0⟩⟩
      · rintro zt H5 ⟨R, s5, dzt, tb⟩
        have sA : Same H3 H5 := s4.trans s5
        refine ⟨_, rfl, _, rfl, _, rfl, _, rfl, f, e, fs, es, zx, zy, x, y, rfl, sA.seq hsf3, he3.up sA, dzx4.up s5, dzy4.up s5, G, G.pw, fun p H6 s6 np hl => ?_⟩
        have hl0 := hl
        obtain ⟨wx, hwx, dwx⟩ := hl0
        have lw : wx.length = 2 ^ fs.length := by rw [dwx.len]; exact wts_len
        have eN : ((wx.length : Nat) : Int) = ((2 ^ fs.length : Nat) : Int) := by rw [lw]
        refine ⟨_, rfl, _, rfl, p, wx, rfl, .inl hwx, zt, 2 ^ fs.length, R, (by rw [eN]; rfl), dzt.up s6, h32, tb.row, fun H7 s7 => ⟨_, rfl, ?_⟩⟩
        have s57 := s6.trans s7
        have hl7 := hl.up s7
        have hl7' : Ls K H7 p (((List.range (2 ^ fs.length)).map (wN fs es x y)).map eF) := by rw [← wts_range]; exact hl7
        refine ⟨_, rfl, _, rfl, p, zt, 2 ^ fs.length, wN fs es x y, R, rfl, hl7', dzt.up s57, h32, (fun i hi => G.sz1 hi), tb.row.sz, tb.bal, fun H8 s8 => ⟨_, rfl, ?_⟩⟩
        have s58 := s57.trans s8
        have sp8 := sp4.up (s5.trans s58)
        have dzx8 := dzx4.up (s5.trans s58)
        have dzy8 := dzy4.up (s5.trans s58)
        refine ⟨_, rfl, _, rfl, _, rfl, a, fs, es, zx, zy, x, y, rfl, sp8, dzx8, dzy8, G, fun zs H9 s9 dzs => ?_⟩
        have s59 := s58.trans s9
        have hl9 := hl.up ((s7.trans s8).trans s9)
        refine ⟨_, rfl, _, rfl, p, wts fs es x y, rfl, hl9, G.sums, G.tot0, Nat.le_trans G.len (by decide), fun z1 H10 s10 d1 => ?_⟩
        refine ⟨_, _, (dzs.up s10).dp, d1.dp, shaped_eD _, shaped_eD _, _, rfl, ?_⟩
        rw [eqv_eD]
        rw [dist_range] at dzs
        have s510 := s59.trans s10
        refine ⟨_, rfl, _, rfl, zs, zt, 2 ^ fs.length, shr fs es x y, R, rfl, dzs.up s10, dzt.up s510, tb.fl, (fun a b ha hb => tb.ebal a b ha hb), fun H11 s11 => ⟨_, _, rfl, rfl, _, rfl, ?_⟩⟩
        have s911 := s10.trans s11
        have s511 := s510.trans s11
        refine ⟨_, rfl, _, rfl, zs, zt, 2 ^ fs.length, shr fs es x y, R, rfl, dzs.up s911, dzt.up s511, tb.fl, tb.keep, fun H12 s12 => ⟨_, _, rfl, rfl, _, rfl, ?_⟩⟩
        have s912 := s911.trans s12
        have s512 := s511.trans s12
        -- the other heat bath
        obtain ⟨v2, hv2, hvl2⟩ := fdiv 32 (by decide)
        refine ⟨_, rfl, _, rfl, _, _, rfl, rfl, dv _ _ (by decide) (by decide), _, rfl, f, _, rfl, .inl ((sA.trans s512).seq hsf3), _, _, rfl, rfl, hlen0, _, rfl, _, rfl, a, fs, es, v2, zx, zy, x, y, (by dsimp only; rw [hv2]; rfl), sp4.up (s5.trans s512), hvl2, dzx4.up (s5.trans s512), dzy4.up (s5.trans s512), G, fun zo H13 s13 dzo => ?_⟩
        refine ⟨_, rfl, _, rfl, zt, zo, 2 ^ fs.length, R, _, rfl, dzt.up (s512.trans s13), dzo, tb.b1 v2 hvl2, h32, fun zb H14 s14 dzb => ?_⟩
        have s914 := (s912.trans s13).trans s14
        refine ⟨_, rfl, _, rfl, zs, zb, 2 ^ fs.length, shr fs es x y, _, rfl, dzs.up s914, dzb, tb.b2 v2 hvl2, fun z2 H15 s15 d2 => ?_⟩
        have ee : ((List.range (2 ^ fs.length)).map fun k => acc k (flow (2 ^ fs.length) (shr fs es x y) (comp (2 ^ fs.length) R (hbP (wN fs es x y) fs.length v2)) (List.range (2 ^ fs.length)))) = (List.range (2 ^ fs.length)).map (shr fs es x y) := List.map_congr_left fun j hj => tb.b3 v2 hvl2 j (List.mem_range.mp hj)
        rw [ee] at d2
        refine ⟨_, rfl, _, _, d2.dp, (dzs.up (s914.trans s15)).dp, shaped_eD _, shaped_eD _, ?_⟩
        rw [eqv_eD]
        refine ⟨_, rfl, ?_⟩
        have hw15 := ((((((s7.trans s8).trans s9).trans s912).trans s13).trans s14).trans s15).seq hwx
        refine ⟨_, rfl, _, rfl, p, wx, rfl, .inl hw15, zb, 2 ^ fs.length, _, (by rw [eN]; rfl), dzb.up s15, h32, tb.b4 v2 hvl2, fun H16 s16 => k H16⟩
end
end K49
namespace K49
open PySem PySem.Spec PyProof.Rows L2
/-- a def, from what the top has written -/
def mkDf {K : PySem.W.Frag} {h : Heap} {mg : Str → Option Value} {x : Str} {st : Stmt} {ps : List Str} {f : Addr} (X : K.In h) (G : h.Ns mainGlobals mg) {oc : Value} {od an : Option Addr} {sl : Array (Option Value)} {kV dc pm cd ct : Value}
    (b : ∀ (kV doc pm : Value) (an : Option Addr) (cdv ct : Value) (us : List Value), us.length = ps.length → bindArgs (PySem.W.fnOf x x (defArgs st) (defBody st) (defScope st) .none kV doc pm an cdv ct) ⟨us, []⟩ = pure (ps.zip us))
    (a : PySem.W.nsIn K mainGlobals x = some (some (.ref f))) (l : K.lookup f = some ⟨oc, od, .func (PySem.W.fnOf x x (defArgs st) (defBody st) (defScope st) .none kV dc pm an cd ct), sl⟩) (c : PySem.W.codeIn K cd x = true) (k : PySem.W.keepIn K (.ref f) = true) : Df K mg x st ps :=
  ⟨f, PySem.W.fnOf x x (defArgs st) (defBody st) (defScope st) .none kV dc pm an cd ct, fun_mk l c k, (fun_mk l c k).binds b, PySem.W.mg_of X G a⟩
theorem mkTup {K : PySem.W.Frag} {a : Addr} {i j : Int} {t u : Tok} {dd : Option Addr} {n : Nat} {sl : Array (Option Value)} (l : K.lookup a = some ⟨.type "tuple", dd, .seq #[.int i t, .int j u] n, sl⟩) (H : Hp) : SqT K H a [.int i, .int j] :=
  .inr ⟨_, _, _, l, rfl, rfl, (by show 2 ≤ sizeLine; decide), .cons ⟨t, rfl⟩ (.cons ⟨u, rfl⟩ .nil)⟩
def mkInt {K : PySem.W.Frag} {h : Heap} {mg : Str → Option Value} {x : Str} {n : Int} {t : Tok} (X : K.In h) (G : h.Ns mainGlobals mg) (e : PySem.W.nsIn K mainGlobals x = some (some (.int n t))) : IntG mg x n := ⟨t, PySem.W.mg_of X G e⟩
theorem mkNo {K : PySem.W.Frag} {C : Addr} {f : Str} (e : PySem.W.findIn K (.ref C) f = some none) : NoAttr K C f := e
theorem all_mk {l : PySem.W.OpenLaw} {w : World} {K : PySem.W.Frag} {h : Heap} {mg : Str → Option Value} {fa : Addr} (T : Txt K mg) (X : K.In h) (G : h.Ns mainGlobals mg) (hfa : mg "law" = some (.ref fa))
    (hb : ∀ (s : Shared) (v : Value), BindsTo s T.d_law.d ⟨[v], []⟩ [("_law_script", v)]) :
    ∃ fd : FuncData, (∀ (s : Shared) (v : Value), BindsTo s fd ⟨[v], []⟩ [("_law_script", v)]) ∧ ∀ base : Heap, K.In base → base.Ns mainGlobals mg → FnOk l.prog w K mg base CX0 9 fa fd ["_law_script"] (sp_law K) := by
  have e := hfa.symm.trans T.d_law.g
  cases e
  exact ⟨T.d_law.d, hb, fun base _ _ => ok_law T⟩
end K49
open PySem PySem.W PyProof.Rows
set_option maxRecDepth 100000 in
set_option maxHeartbeats 0 in
theorem PySem.Challenge.cw_spinfield_k49_whole_moves_keep_holds : PySem.Challenge.rw_spinfield_k49_whole_moves_keep.Holds := by
  w_on; o_law; k_head; (case hw => w_witness2)
  k_fill
  refine L2.walk_of (l := PySem.Challenge.rw_spinfield_k49_whole_moves_keep) (n := 63) (k := 9) (x := "_law_script") (CX := fun _ => L2.CX0) (sp := fun w => K49.sp_law _) rfl (by decide) rfl ⟨rfl, by decide, by decide⟩ (fun w h Y => PySem.W.kIn_of Y) ?F (fun _ _ a ns hl _ hS => ⟨a, ns, rfl, hS, fun _ => rfl⟩) (fun _ _ _ _ _ h => h)
  case F =>
    intro w mg fa h KX G hmg
    refine' K49.all_mk {
      d_fraction := K49.mkDf KX G (fun _ _ _ _ _ _ us hl => match us, hl with | [_, _], _ => rfl) ?a_fraction ?l_fraction ?c_fraction ?k_fraction,
      d_add := K49.mkDf KX G (fun _ _ _ _ _ _ us hl => match us, hl with | [_, _], _ => rfl) ?a_add ?l_add ?c_add ?k_add,
      d_subtract := K49.mkDf KX G (fun _ _ _ _ _ _ us hl => match us, hl with | [_, _], _ => rfl) ?a_subtract ?l_subtract ?c_subtract ?k_subtract,
      d_multiply := K49.mkDf KX G (fun _ _ _ _ _ _ us hl => match us, hl with | [_, _], _ => rfl) ?a_multiply ?l_multiply ?c_multiply ?k_multiply,
      d_divide := K49.mkDf KX G (fun _ _ _ _ _ _ us hl => match us, hl with | [_, _], _ => rfl) ?a_divide ?l_divide ?c_divide ?k_divide,
      d_compare := K49.mkDf KX G (fun _ _ _ _ _ _ us hl => match us, hl with | [_, _], _ => rfl) ?a_compare ?l_compare ?c_compare ?k_compare,
      d_raised := K49.mkDf KX G (fun _ _ _ _ _ _ us hl => match us, hl with | [_, _], _ => rfl) ?a_raised ?l_raised ?c_raised ?k_raised,
      d_add_all := K49.mkDf KX G (fun _ _ _ _ _ _ us hl => match us, hl with | [_], _ => rfl) ?a_add_all ?l_add_all ?c_add_all ?k_add_all,
      d_check_no_field := K49.mkDf KX G (fun _ _ _ _ _ _ us hl => match us, hl with | [_], _ => rfl) ?a_check_no_field ?l_check_no_field ?c_check_no_field ?k_check_no_field,
      d_states_of := K49.mkDf KX G (fun _ _ _ _ _ _ us hl => match us, hl with | [_], _ => rfl) ?a_states_of ?l_states_of ?c_states_of ?k_states_of,
      d_all_states := K49.mkDf KX G (fun _ _ _ _ _ _ us hl => match us, hl with | [_], _ => rfl) ?a_all_states ?l_all_states ?c_all_states ?k_all_states,
      d_cost := K49.mkDf KX G (fun _ _ _ _ _ _ us hl => match us, hl with | [_, _], _ => rfl) ?a_cost ?l_cost ?c_cost ?k_cost,
      d_ups := K49.mkDf KX G (fun _ _ _ _ _ _ us hl => match us, hl with | [_], _ => rfl) ?a_ups ?l_ups ?c_ups ?k_ups,
      d_check_point := K49.mkDf KX G (fun _ _ _ _ _ _ us hl => match us, hl with | [_, _], _ => rfl) ?a_check_point ?l_check_point ?c_check_point ?k_check_point,
      d_check_size := K49.mkDf KX G (fun _ _ _ _ _ _ us hl => match us, hl with | [_, _, _], _ => rfl) ?a_check_size ?l_check_size ?c_check_size ?k_check_size,
      d_weights_of := K49.mkDf KX G (fun _ _ _ _ _ _ us hl => match us, hl with | [_, _, _], _ => rfl) ?a_weights_of ?l_weights_of ?c_weights_of ?k_weights_of,
      d_distribution_of := K49.mkDf KX G (fun _ _ _ _ _ _ us hl => match us, hl with | [_, _, _], _ => rfl) ?a_distribution_of ?l_distribution_of ?c_distribution_of ?k_distribution_of,
      d_after := K49.mkDf KX G (fun _ _ _ _ _ _ us hl => match us, hl with | [_, _], _ => rfl) ?a_after ?l_after ?c_after ?k_after,
      d_keeps := K49.mkDf KX G (fun _ _ _ _ _ _ us hl => match us, hl with | [_, _], _ => rfl) ?a_keeps ?l_keeps ?c_keeps ?k_keeps,
      d_is_balanced := K49.mkDf KX G (fun _ _ _ _ _ _ us hl => match us, hl with | [_, _], _ => rfl) ?a_is_balanced ?l_is_balanced ?c_is_balanced ?k_is_balanced,
      d_table_row := K49.mkDf KX G (fun _ _ _ _ _ _ us hl => match us, hl with | [_], _ => rfl) ?a_table_row ?l_table_row ?c_table_row ?k_table_row,
      d_followed := K49.mkDf KX G (fun _ _ _ _ _ _ us hl => match us, hl with | [_, _], _ => rfl) ?a_followed ?l_followed ?c_followed ?k_followed,
      d_check_ferro := K49.mkDf KX G (fun _ _ _ _ _ _ us hl => match us, hl with | [_], _ => rfl) ?a_check_ferro ?l_check_ferro ?c_check_ferro ?k_check_ferro,
      d_turned := K49.mkDf KX G (fun _ _ _ _ _ _ us hl => match us, hl with | [_, _, _], _ => rfl) ?a_turned ?l_turned ?c_turned ?k_turned,
      d_heat_bath := K49.mkDf KX G (fun _ _ _ _ _ _ us hl => match us, hl with | [_, _, _, _], _ => rfl) ?a_heat_bath ?l_heat_bath ?c_heat_bath ?k_heat_bath,
      d_trial := K49.mkDf KX G (fun _ _ _ _ _ _ us hl => match us, hl with | [_, _, _, _], _ => rfl) ?a_trial ?l_trial ?c_trial ?k_trial,
      d_check_clusters := K49.mkDf KX G (fun _ _ _ _ _ _ us hl => match us, hl with | [_, _, _], _ => rfl) ?a_check_clusters ?l_check_clusters ?c_check_clusters ?k_check_clusters,
      d_clusters := K49.mkDf KX G (fun _ _ _ _ _ _ us hl => match us, hl with | [_, _], _ => rfl) ?a_clusters ?l_clusters ?c_clusters ?k_clusters,
      d_kept_sets := K49.mkDf KX G (fun _ _ _ _ _ _ us hl => match us, hl with | [_, _, _], _ => rfl) ?a_kept_sets ?l_kept_sets ?c_kept_sets ?k_kept_sets,
      d_index := K49.mkDf KX G (fun _ _ _ _ _ _ us hl => match us, hl with | [_], _ => rfl) ?a_index ?l_index ?c_index ?k_index,
      d_coloured := K49.mkDf KX G (fun _ _ _ _ _ _ us hl => match us, hl with | [_, _, _, _], _ => rfl) ?a_coloured ?l_coloured ?c_coloured ?k_coloured,
      d_cluster_move := K49.mkDf KX G (fun _ _ _ _ _ _ us hl => match us, hl with | [_, _, _], _ => rfl) ?a_cluster_move ?l_cluster_move ?c_cluster_move ?k_cluster_move,
      d_single_turn := K49.mkDf KX G (fun _ _ _ _ _ _ us hl => match us, hl with | [_, _], _ => rfl) ?a_single_turn ?l_single_turn ?c_single_turn ?k_single_turn,
      d_l_cell := K49.mkDf KX G (fun _ _ _ _ _ _ us hl => match us, hl with | [_, _], _ => rfl) ?a_l_cell ?l_l_cell ?c_l_cell ?k_l_cell,
      d_l_mix := K49.mkDf KX G (fun _ _ _ _ _ _ us hl => match us, hl with | [_, _], _ => rfl) ?a_l_mix ?l_l_mix ?c_l_mix ?k_l_mix,
      d_l_row := K49.mkDf KX G (fun _ _ _ _ _ _ us hl => match us, hl with | [_, _, _], _ => rfl) ?a_l_row ?l_l_row ?c_l_row ?k_l_row,
      d_l_tuples := K49.mkDf KX G (fun _ _ _ _ _ _ us hl => match us, hl with | [_], _ => rfl) ?a_l_tuples ?l_l_tuples ?c_l_tuples ?k_l_tuples,
      d_l_gcd := K49.mkDf KX G (fun _ _ _ _ _ _ us hl => match us, hl with | [_, _], _ => rfl) ?a_l_gcd ?l_l_gcd ?c_l_gcd ?k_l_gcd,
      d_l_frac := K49.mkDf KX G (fun _ _ _ _ _ _ us hl => match us, hl with | [_, _], _ => rfl) ?a_l_frac ?l_l_frac ?c_l_frac ?k_l_frac,
      d_l_add := K49.mkDf KX G (fun _ _ _ _ _ _ us hl => match us, hl with | [_, _], _ => rfl) ?a_l_add ?l_l_add ?c_l_add ?k_l_add,
      d_l_mul := K49.mkDf KX G (fun _ _ _ _ _ _ us hl => match us, hl with | [_, _], _ => rfl) ?a_l_mul ?l_l_mul ?c_l_mul ?k_l_mul,
      d_l_pow := K49.mkDf KX G (fun _ _ _ _ _ _ us hl => match us, hl with | [_, _], _ => rfl) ?a_l_pow ?l_l_pow ?c_l_pow ?k_l_pow,
      d_l_spins := K49.mkDf KX G (fun _ _ _ _ _ _ us hl => match us, hl with | [_, _, _, _], _ => rfl) ?a_l_spins ?l_l_spins ?c_l_spins ?k_l_spins,
      d_l_states := K49.mkDf KX G (fun _ _ _ _ _ _ us hl => match us, hl with | [_], _ => rfl) ?a_l_states ?l_l_states ?c_l_states ?k_l_states,
      d_l_cost := K49.mkDf KX G (fun _ _ _ _ _ _ us hl => match us, hl with | [_, _, _], _ => rfl) ?a_l_cost ?l_l_cost ?c_l_cost ?k_l_cost,
      d_l_weights := K49.mkDf KX G (fun _ _ _ _ _ _ us hl => match us, hl with | [_, _, _, _], _ => rfl) ?a_l_weights ?l_l_weights ?c_l_weights ?k_l_weights,
      d_l_shares := K49.mkDf KX G (fun _ _ _ _ _ _ us hl => match us, hl with | [_], _ => rfl) ?a_l_shares ?l_l_shares ?c_l_shares ?k_l_shares,
      d_l_fractions := K49.mkDf KX G (fun _ _ _ _ _ _ us hl => match us, hl with | [_, _], _ => rfl) ?a_l_fractions ?l_l_fractions ?c_l_fractions ?k_l_fractions,
      d_l_are_rows := K49.mkDf KX G (fun _ _ _ _ _ _ us hl => match us, hl with | [_, _], _ => rfl) ?a_l_are_rows ?l_l_are_rows ?c_l_are_rows ?k_l_are_rows,
      d_l_goes := K49.mkDf KX G (fun _ _ _ _ _ _ us hl => match us, hl with | [_, _, _], _ => rfl) ?a_l_goes ?l_l_goes ?c_l_goes ?k_l_goes,
      d_l_is_kept := K49.mkDf KX G (fun _ _ _ _ _ _ us hl => match us, hl with | [_, _], _ => rfl) ?a_l_is_kept ?l_l_is_kept ?c_l_is_kept ?k_l_is_kept,
      d_law := K49.mkDf KX G (fun _ _ _ _ _ _ us hl => match us, hl with | [_], _ => rfl) ?a_law ?l_law ?c_law ?k_law,
      C := _,
      f_init := _,
      d_init := _,
      F_init := L2.fun_mk ?cl ?cc ?ck,
      b_init := (L2.fun_mk ?cl ?cc ?ck).binds (fun _ _ _ _ _ _ us hl => match us, hl with | [_, _, _], _ => rfl),
      g_Spins := PySem.W.mg_of KX G ?cC,
      mkC := ⟨?mk, ?ci, ?cf, ?kc⟩,
      cl := ⟨?pg, ?hd, ?po, ?sa⟩,
      nF := K49.mkNo ?nF,
      nE := K49.mkNo ?nE,
      g_gcd := PySem.W.mg_of KX G ?gg,
      a_ZERO := _,
      g_ZERO := PySem.W.mg_of KX G ?gz_ZERO,
      k_ZERO := K49.mkTup ?kz_ZERO,
      a_ONE := _,
      g_ONE := PySem.W.mg_of KX G ?gz_ONE,
      k_ONE := K49.mkTup ?kz_ONE,
      i_MOST_VERTICES_spins := K49.mkInt KX G ?gz_MOST_VERTICES_spins,
      i_MOST_EDGES_spins := K49.mkInt KX G ?gz_MOST_EDGES_spins,
      i_GREATEST := K49.mkInt KX G ?gz_GREATEST,
      i_MOST_VERTICES_distributions := K49.mkInt KX G ?gz_MOST_VERTICES_distributions,
      i_MOST_EDGES_moves := K49.mkInt KX G ?gz_MOST_EDGES_moves,
      m_abs := PySem.W.mg_none_of KX G ?m_abs,
      m_all := PySem.W.mg_none_of KX G ?m_all,
      m_any := PySem.W.mg_none_of KX G ?m_any,
      m_bool := PySem.W.mg_none_of KX G ?m_bool,
      m_dict := PySem.W.mg_none_of KX G ?m_dict,
      m_enumerate := PySem.W.mg_none_of KX G ?m_enumerate,
      m_int := PySem.W.mg_none_of KX G ?m_int,
      m_isinstance := PySem.W.mg_none_of KX G ?m_isinstance,
      m_len := PySem.W.mg_none_of KX G ?m_len,
      m_list := PySem.W.mg_none_of KX G ?m_list,
      m_range := PySem.W.mg_none_of KX G ?m_range,
      m_sorted := PySem.W.mg_none_of KX G ?m_sorted,
      m_sum := PySem.W.mg_none_of KX G ?m_sum,
      m_tuple := PySem.W.mg_none_of KX G ?m_tuple,
      m_zip := PySem.W.mg_none_of KX G ?m_zip } KX G hmg ?hb
    (case a_fraction => k_is)
    (case l_fraction => k_is)
    (case c_fraction => k_is)
    (case k_fraction => k_is)
    (case a_add => k_is)
    (case l_add => k_is)
    (case c_add => k_is)
    (case k_add => k_is)
    (case a_subtract => k_is)
    (case l_subtract => k_is)
    (case c_subtract => k_is)
    (case k_subtract => k_is)
    (case a_multiply => k_is)
    (case l_multiply => k_is)
    (case c_multiply => k_is)
    (case k_multiply => k_is)
    (case a_divide => k_is)
    (case l_divide => k_is)
    (case c_divide => k_is)
    (case k_divide => k_is)
    (case a_compare => k_is)
    (case l_compare => k_is)
    (case c_compare => k_is)
    (case k_compare => k_is)
    (case a_raised => k_is)
    (case l_raised => k_is)
    (case c_raised => k_is)
    (case k_raised => k_is)
    (case a_add_all => k_is)
    (case l_add_all => k_is)
    (case c_add_all => k_is)
    (case k_add_all => k_is)
    (case a_check_no_field => k_is)
    (case l_check_no_field => k_is)
    (case c_check_no_field => k_is)
    (case k_check_no_field => k_is)
    (case a_states_of => k_is)
    (case l_states_of => k_is)
    (case c_states_of => k_is)
    (case k_states_of => k_is)
    (case a_all_states => k_is)
    (case l_all_states => k_is)
    (case c_all_states => k_is)
    (case k_all_states => k_is)
    (case a_cost => k_is)
    (case l_cost => k_is)
    (case c_cost => k_is)
    (case k_cost => k_is)
    (case a_ups => k_is)
    (case l_ups => k_is)
    (case c_ups => k_is)
    (case k_ups => k_is)
    (case a_check_point => k_is)
    (case l_check_point => k_is)
    (case c_check_point => k_is)
    (case k_check_point => k_is)
    (case a_check_size => k_is)
    (case l_check_size => k_is)
    (case c_check_size => k_is)
    (case k_check_size => k_is)
    (case a_weights_of => k_is)
    (case l_weights_of => k_is)
    (case c_weights_of => k_is)
    (case k_weights_of => k_is)
    (case a_distribution_of => k_is)
    (case l_distribution_of => k_is)
    (case c_distribution_of => k_is)
    (case k_distribution_of => k_is)
    (case a_after => k_is)
    (case l_after => k_is)
    (case c_after => k_is)
    (case k_after => k_is)
    (case a_keeps => k_is)
    (case l_keeps => k_is)
    (case c_keeps => k_is)
    (case k_keeps => k_is)
    (case a_is_balanced => k_is)
    (case l_is_balanced => k_is)
    (case c_is_balanced => k_is)
    (case k_is_balanced => k_is)
    (case a_table_row => k_is)
    (case l_table_row => k_is)
    (case c_table_row => k_is)
    (case k_table_row => k_is)
    (case a_followed => k_is)
    (case l_followed => k_is)
    (case c_followed => k_is)
    (case k_followed => k_is)
    (case a_check_ferro => k_is)
    (case l_check_ferro => k_is)
    (case c_check_ferro => k_is)
    (case k_check_ferro => k_is)
    (case a_turned => k_is)
    (case l_turned => k_is)
    (case c_turned => k_is)
    (case k_turned => k_is)
    (case a_heat_bath => k_is)
    (case l_heat_bath => k_is)
    (case c_heat_bath => k_is)
    (case k_heat_bath => k_is)
    (case a_trial => k_is)
    (case l_trial => k_is)
    (case c_trial => k_is)
    (case k_trial => k_is)
    (case a_check_clusters => k_is)
    (case l_check_clusters => k_is)
    (case c_check_clusters => k_is)
    (case k_check_clusters => k_is)
    (case a_clusters => k_is)
    (case l_clusters => k_is)
    (case c_clusters => k_is)
    (case k_clusters => k_is)
    (case a_kept_sets => k_is)
    (case l_kept_sets => k_is)
    (case c_kept_sets => k_is)
    (case k_kept_sets => k_is)
    (case a_index => k_is)
    (case l_index => k_is)
    (case c_index => k_is)
    (case k_index => k_is)
    (case a_coloured => k_is)
    (case l_coloured => k_is)
    (case c_coloured => k_is)
    (case k_coloured => k_is)
    (case a_cluster_move => k_is)
    (case l_cluster_move => k_is)
    (case c_cluster_move => k_is)
    (case k_cluster_move => k_is)
    (case a_single_turn => k_is)
    (case l_single_turn => k_is)
    (case c_single_turn => k_is)
    (case k_single_turn => k_is)
    (case a_l_cell => k_is)
    (case l_l_cell => k_is)
    (case c_l_cell => k_is)
    (case k_l_cell => k_is)
    (case a_l_mix => k_is)
    (case l_l_mix => k_is)
    (case c_l_mix => k_is)
    (case k_l_mix => k_is)
    (case a_l_row => k_is)
    (case l_l_row => k_is)
    (case c_l_row => k_is)
    (case k_l_row => k_is)
    (case a_l_tuples => k_is)
    (case l_l_tuples => k_is)
    (case c_l_tuples => k_is)
    (case k_l_tuples => k_is)
    (case a_l_gcd => k_is)
    (case l_l_gcd => k_is)
    (case c_l_gcd => k_is)
    (case k_l_gcd => k_is)
    (case a_l_frac => k_is)
    (case l_l_frac => k_is)
    (case c_l_frac => k_is)
    (case k_l_frac => k_is)
    (case a_l_add => k_is)
    (case l_l_add => k_is)
    (case c_l_add => k_is)
    (case k_l_add => k_is)
    (case a_l_mul => k_is)
    (case l_l_mul => k_is)
    (case c_l_mul => k_is)
    (case k_l_mul => k_is)
    (case a_l_pow => k_is)
    (case l_l_pow => k_is)
    (case c_l_pow => k_is)
    (case k_l_pow => k_is)
    (case a_l_spins => k_is)
    (case l_l_spins => k_is)
    (case c_l_spins => k_is)
    (case k_l_spins => k_is)
    (case a_l_states => k_is)
    (case l_l_states => k_is)
    (case c_l_states => k_is)
    (case k_l_states => k_is)
    (case a_l_cost => k_is)
    (case l_l_cost => k_is)
    (case c_l_cost => k_is)
    (case k_l_cost => k_is)
    (case a_l_weights => k_is)
    (case l_l_weights => k_is)
    (case c_l_weights => k_is)
    (case k_l_weights => k_is)
    (case a_l_shares => k_is)
    (case l_l_shares => k_is)
    (case c_l_shares => k_is)
    (case k_l_shares => k_is)
    (case a_l_fractions => k_is)
    (case l_l_fractions => k_is)
    (case c_l_fractions => k_is)
    (case k_l_fractions => k_is)
    (case a_l_are_rows => k_is)
    (case l_l_are_rows => k_is)
    (case c_l_are_rows => k_is)
    (case k_l_are_rows => k_is)
    (case a_l_goes => k_is)
    (case l_l_goes => k_is)
    (case c_l_goes => k_is)
    (case k_l_goes => k_is)
    (case a_l_is_kept => k_is)
    (case l_l_is_kept => k_is)
    (case c_l_is_kept => k_is)
    (case k_l_is_kept => k_is)
    (case a_law => k_is)
    (case l_law => k_is)
    (case c_law => k_is)
    (case k_law => k_is)
    (case cC => k_is)
    (case ci => k_is)
    (case cf => k_is)
    (case cl => k_is)
    (case cc => k_is)
    (case ck => k_is)
    (case pg => k_is)
    (case hd => k_is)
    (case po => k_is)
    (case sa => k_is)
    (case mk => k_is)
    (case kc => k_is)
    (case nF => k_is)
    (case nE => k_is)
    (case gg => k_is)
    (case gz_ZERO => k_is)
    (case kz_ZERO => k_is)
    (case gz_ONE => k_is)
    (case kz_ONE => k_is)
    (case gz_MOST_VERTICES_spins => k_is)
    (case gz_MOST_EDGES_spins => k_is)
    (case gz_GREATEST => k_is)
    (case gz_MOST_VERTICES_distributions => k_is)
    (case gz_MOST_EDGES_moves => k_is)
    (case m_abs => k_is)
    (case m_all => k_is)
    (case m_any => k_is)
    (case m_bool => k_is)
    (case m_dict => k_is)
    (case m_enumerate => k_is)
    (case m_int => k_is)
    (case m_isinstance => k_is)
    (case m_len => k_is)
    (case m_list => k_is)
    (case m_range => k_is)
    (case m_sorted => k_is)
    (case m_sum => k_is)
    (case m_tuple => k_is)
    (case m_zip => k_is)
    (case hb => exact fun s v => .of_eq rfl)
