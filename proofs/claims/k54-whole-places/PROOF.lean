import PyProof.Rows.All
import Wide.All
import OpenK.AllK
import Wide.FinOn
import KE.KDictZip
import HandS.ForMost
import HandS.ForExc
import HandS.TryMany
import HandS.Gcd
import HandS.Deep
import HandS.Zip
import HandS.Small
import PySem.Challenge.RW_samphire_k54_whole_places_for_strata
set_option Elab.async false
set_option linter.all false
set_option maxRecDepth 100000
set_option maxHeartbeats 4000000

namespace K54
/-! ## fractions: x stands for x / 5040 -/
def gg (p q : Int) : Int := ((Nat.gcd p.natAbs q.natAbs : Nat) : Int)
def num (x : Int) : Int := x / gg x 5040
def den (x : Int) : Int := 5040 / gg x 5040
theorem gg_pos {p q : Int} (h : 0 < q) : 0 < gg p q := by
  unfold gg
  have : 0 < Nat.gcd p.natAbs q.natAbs := Nat.gcd_pos_of_pos_right _ (by omega)
  omega
theorem gg_dl (p q : Int) : gg p q ∣ p := Int.gcd_dvd_left p q
theorem gg_dr (p q : Int) : gg p q ∣ q := Int.gcd_dvd_right p q
theorem num_mul (x : Int) : num x * gg x 5040 = x := Int.ediv_mul_cancel (gg_dl x 5040)
theorem den_mul (x : Int) : den x * gg x 5040 = 5040 := Int.ediv_mul_cancel (gg_dr x 5040)
theorem den_pos (x : Int) : 0 < den x := by
  have h := den_mul x
  have g := gg_pos (p := x) (q := 5040) (by decide)
  rcases Int.lt_trichotomy (den x) 0 with k | k | k
  · have := Int.mul_neg_of_neg_of_pos k g
    omega
  · rw [k] at h; omega
  · exact k
theorem den_le (x : Int) : den x ≤ 5040 := by
  have h := den_mul x
  have g := gg_pos (p := x) (q := 5040) (by decide)
  have d := den_pos x
  have : den x * 1 ≤ den x * gg x 5040 := Int.mul_le_mul_of_nonneg_left (by omega) (by omega)
  omega
theorem num_den (x : Int) : num x * 5040 = x * den x := by
  have h1 := num_mul x
  have h2 := den_mul x
  calc num x * 5040 = num x * (den x * gg x 5040) := by rw [h2]
    _ = (num x * gg x 5040) * den x := by rw [Int.mul_comm (den x), Int.mul_assoc]
    _ = x * den x := by rw [h1]
theorem nat_low {a b c d : Nat} (hd : 0 < b) (hd' : 0 < d) (c1 : Nat.Coprime a b) (c2 : Nat.Coprime c d) (h : a * d = c * b) : a = c ∧ b = d := by
  have e1 : b ∣ d := by
    have : b ∣ a * d := by rw [h]; exact Nat.dvd_mul_left b c
    exact (Nat.Coprime.symm c1).dvd_of_dvd_mul_left this
  have e2 : d ∣ b := by
    have : d ∣ c * b := by rw [← h]; exact Nat.dvd_mul_left d a
    exact (Nat.Coprime.symm c2).dvd_of_dvd_mul_left this
  have e : b = d := Nat.dvd_antisymm e1 e2
  subst e
  exact ⟨Nat.eq_of_mul_eq_mul_right hd h, rfl⟩
theorem gg_cop {p q : Int} (h : 0 < q) : Nat.Coprime (p / gg p q).natAbs (q / gg p q).natAbs := by
  have g := gg_pos (p := p) h
  have e : Int.gcd (p / gg p q) (q / gg p q) = Int.gcd p q / (gg p q).natAbs := Int.gcd_ediv (gg_dl p q) (gg_dr p q)
  have e2 : (gg p q).natAbs = Int.gcd p q := by unfold gg Int.gcd; exact Int.natAbs_natCast _
  rw [e2, Nat.div_self (by unfold gg at g; unfold Int.gcd; omega)] at e
  exact e
/-- what lowest makes of p and q -/
theorem low_eq {p q x : Int} (hq : 0 < q) (h : p * 5040 = x * q) : p / gg p q = num x ∧ q / gg p q = den x := by
  have g := gg_pos (p := p) hq
  have e1 : p / gg p q * gg p q = p := Int.ediv_mul_cancel (gg_dl p q)
  have e2 : q / gg p q * gg p q = q := Int.ediv_mul_cancel (gg_dr p q)
  have c1 := gg_cop (p := p) hq
  have c2 : Nat.Coprime (num x).natAbs (den x).natAbs := gg_cop (p := x) (q := 5040) (by decide)
  have dp := den_pos x
  generalize hP : p / gg p q = P at *
  generalize hQ : q / gg p q = Q at *
  have qp : 0 < Q := by
    rcases Int.lt_trichotomy Q 0 with k | k | k
    · have := Int.mul_neg_of_neg_of_pos k g
      omega
    · rw [k] at e2; omega
    · exact k
  have nd := num_den x
  -- P * den x = num x * Q
  have k : P * den x = num x * Q := by
    have a1 : (P * den x) * (gg p q * 5040) = (num x * Q) * (gg p q * 5040) := by
      calc (P * den x) * (gg p q * 5040) = (P * gg p q) * 5040 * den x := by
            rw [Int.mul_comm P (den x), Int.mul_assoc, ← Int.mul_assoc P, Int.mul_comm (den x)]
        _ = (x * q) * den x := by rw [e1, h]
        _ = (x * den x) * q := by rw [Int.mul_assoc, Int.mul_comm q, ← Int.mul_assoc]
        _ = (num x * 5040) * (Q * gg p q) := by rw [← nd, e2]
        _ = (num x * Q) * (gg p q * 5040) := by
            rw [Int.mul_assoc, Int.mul_assoc, ← Int.mul_assoc 5040, Int.mul_comm 5040 Q, Int.mul_assoc Q, Int.mul_comm 5040]
    exact Int.eq_of_mul_eq_mul_right (by have := Int.mul_pos g (by decide : (0:Int) < 5040); omega) a1
  have sgn : P = num x ∧ Q = den x := by
    have n1 : P.natAbs * (den x).natAbs = (num x).natAbs * Q.natAbs := by
      rw [← Int.natAbs_mul, ← Int.natAbs_mul, k]
    obtain ⟨n2, n3⟩ := nat_low (by omega) (by omega) c1 c2 n1
    have eq : Q = den x := by omega
    refine ⟨?_, eq⟩
    rw [eq] at k
    exact Int.eq_of_mul_eq_mul_right (by omega) k
  exact sgn
theorem less_iff (x y : Int) : num x * den y < num y * den x ↔ x < y := by
  have a := num_den x
  have b := num_den y
  have dx := den_pos x
  have dy := den_pos y
  have e1 : (num x * den y) * 5040 = x * (den x * den y) := by
    rw [Int.mul_assoc, Int.mul_comm (den y), ← Int.mul_assoc, a, Int.mul_assoc]
  have e2 : (num y * den x) * 5040 = y * (den x * den y) := by
    rw [Int.mul_assoc, Int.mul_comm (den x) 5040, ← Int.mul_assoc, b, Int.mul_assoc, Int.mul_comm (den y)]
  have pos : 0 < den x * den y := Int.mul_pos dx dy
  constructor
  · intro h
    have h2 : x * (den x * den y) < y * (den x * den y) := by omega
    exact Int.lt_of_mul_lt_mul_right h2 (by omega)
  · intro h
    have h2 := Int.mul_lt_mul_of_pos_right h pos
    omega
theorem f_inj {x y : Int} (h1 : num x = num y) (h2 : den x = den y) : x = y := by
  have a := num_den x
  have b := num_den y
  rw [h1, h2, b] at a
  exact (Int.eq_of_mul_eq_mul_right (by have := den_pos y; omega) a).symm
/-! the fractions' arithmetic, as lowest meets it -/
theorem ar_plus (x y : Int) : (num x * den y + num y * den x) * 5040 = (x + y) * (den x * den y) := by
  have a := num_den x
  have b := num_den y
  rw [Int.add_mul, Int.add_mul, Int.mul_assoc, Int.mul_comm (den y), ← Int.mul_assoc, a, Int.mul_assoc (num y), Int.mul_comm (den x) 5040, ← Int.mul_assoc (num y), b, Int.mul_assoc, Int.mul_assoc, Int.mul_comm (den y) (den x)]
theorem ar_minus (x y : Int) : (num x * den y - num y * den x) * 5040 = (x - y) * (den x * den y) := by
  have a := num_den x
  have b := num_den y
  rw [Int.sub_mul, Int.sub_mul, Int.mul_assoc, Int.mul_comm (den y), ← Int.mul_assoc, a, Int.mul_assoc (num y), Int.mul_comm (den x) 5040, ← Int.mul_assoc (num y), b, Int.mul_assoc, Int.mul_assoc, Int.mul_comm (den y) (den x)]
theorem ar_times (n y : Int) : (n * num y) * 5040 = (n * y) * (1 * den y) := by
  rw [Int.mul_assoc, num_den, Int.one_mul, Int.mul_assoc]
theorem ar_over {x z n : Int} (h : z * n = x) : (num x * 1) * 5040 = z * (den x * n) := by
  rw [Int.mul_one, num_den, ← h, Int.mul_assoc, Int.mul_comm n]
theorem ar_over' {x z n : Int} (h : z * n = x) : num x * 5040 = z * (den x * n) := by
  rw [num_den, ← h, Int.mul_assoc, Int.mul_comm n]
theorem q_bound {a b : Int} (h1 : 0 < a) (h2 : a ≤ 5040) (h3 : 0 < b) (h4 : b ≤ 5040) : 0 < a * b ∧ a * b < 1073741824 := by
  refine ⟨Int.mul_pos h1 h3, ?_⟩
  have : a * b ≤ 5040 * 5040 := Int.mul_le_mul h2 h4 (by omega) (by decide)
  omega
theorem num_int (n : Int) : num (5040 * n) = n ∧ den (5040 * n) = 1 := by
  have h := low_eq (p := n) (q := 1) (x := 5040 * n) (by decide) (by omega)
  have e : gg n 1 = 1 := by unfold gg; simp
  rw [e, Int.ediv_one, Int.ediv_one] at h
  exact ⟨h.1.symm, h.2.symm⟩
theorem num0 : num 0 = 0 ∧ den 0 = 1 := num_int 0
/-- the loop of the law's own gcd -/
theorem gcd_step (a b : Nat) (hb : 0 < b) : Nat.gcd b (a % b) = Nat.gcd a b := by
  rw [Nat.gcd_comm b, ← Nat.gcd_rec, Nat.gcd_comm]
end K54

namespace K54
/-! ## strata: costs (scaled by 5040, so 420 divides them), limits, numbers -/
def fall (c n : Int) : Int := c / (n * (n + 1))
/-- one turn of the search for the greatest fall -/
def bestStep (c l n : Int) (k : Nat) (b : Option (Nat × Int)) : Option (Nat × Int) :=
  if n < l then
    match b with
    | none => some (k, fall c n)
    | some (j, v) => if v < fall c n then some (k, fall c n) else some (j, v)
  else b
def bestUpto (cs ls ns : List Int) : Nat → Option (Nat × Int)
  | 0 => none
  | k + 1 => bestStep (cs.getD k 0) (ls.getD k 0) (ns.getD k 0) k (bestUpto cs ls ns k)
def best (cs ls ns : List Int) : Option (Nat × Int) := bestUpto cs ls ns ls.length
def ones (ls : List Int) : List Int := List.replicate ls.length 1
def price0 (cs ls : List Int) : Int := match best cs ls (ones ls) with
  | none => 0
  | some (_, v) => v
def stepDeal (cs ls : List Int) (s : List Int × Int) : List Int × Int := match best cs ls s.1 with
  | none => s
  | some (k, v) => (s.1.set k (s.1.getD k 0 + 1), v)
def dealN (cs ls : List Int) : Nat → List Int × Int
  | 0 => (ones ls, price0 cs ls)
  | t + 1 => stepDeal cs ls (dealN cs ls t)
structure Good (cs ls : List Int) : Prop where
  len : cs.length = ls.length
  lo : 1 ≤ ls.length
  hi : ls.length ≤ 4
  c : ∀ c ∈ cs, 0 ≤ c ∧ ∃ d, c = 420 * d
  l : ∀ l ∈ ls, 1 ≤ l ∧ l ≤ 5

theorem getD_get {l : List Int} {k : Nat} (h : k < l.length) : l[k]? = some (l.getD k 0) := by
  rw [List.getD_eq_getElem?_getD, List.getElem?_eq_getElem h]; rfl
theorem getD_mem {l : List Int} {k : Nat} (h : k < l.length) : l.getD k 0 ∈ l := List.mem_of_getElem? (getD_get h)
theorem getD_of {l : List Int} {k : Nat} {x : Int} (h : l[k]? = some x) : l.getD k 0 = x := by
  rw [List.getD_eq_getElem?_getD, h]; rfl

/-! the search -/
theorem bestUpto_none {cs ls ns : List Int} : ∀ {k : Nat}, bestUpto cs ls ns k = none → ∀ j, j < k → ¬ ns.getD j 0 < ls.getD j 0
  | 0, _, j, h => by omega
  | k + 1, e, j, h => by
    have e' : bestStep (cs.getD k 0) (ls.getD k 0) (ns.getD k 0) k (bestUpto cs ls ns k) = none := e
    unfold bestStep at e'
    split at e'
    · split at e'
      · cases e'
      · split at e' <;> cases e'
    · rename_i hn
      by_cases hj : j = k
      · rw [hj]; exact hn
      · exact bestUpto_none e' j (by omega)
theorem bestUpto_some {cs ls ns : List Int} : ∀ {k : Nat} {i : Nat} {v : Int}, bestUpto cs ls ns k = some (i, v) →
    i < k ∧ ns.getD i 0 < ls.getD i 0 ∧ v = fall (cs.getD i 0) (ns.getD i 0) ∧ ∀ j, j < k → ns.getD j 0 < ls.getD j 0 → fall (cs.getD j 0) (ns.getD j 0) ≤ v
  | 0, _, _, e => by cases e
  | k + 1, i, v, e => by
    have e' : bestStep (cs.getD k 0) (ls.getD k 0) (ns.getD k 0) k (bestUpto cs ls ns k) = some (i, v) := e
    unfold bestStep at e'
    split at e'
    · rename_i hn
      split at e'
      · rename_i hb
        cases e'
        have := bestUpto_none hb
        refine ⟨by omega, hn, rfl, fun j hj hl => ?_⟩
        by_cases q : j = k
        · rw [q]; exact Int.le_refl _
        · exact absurd hl (this j (by omega))
      · rename_i j0 v0 hb
        obtain ⟨a1, a2, a3, a4⟩ := bestUpto_some hb
        split at e'
        · rename_i hlt
          cases e'
          refine ⟨by omega, hn, rfl, fun j hj hl => ?_⟩
          by_cases q : j = k
          · rw [q]; exact Int.le_refl _
          · have := a4 j (by omega) hl
            omega
        · rename_i hlt
          cases e'
          refine ⟨by omega, a2, a3, fun j hj hl => ?_⟩
          by_cases q : j = k
          · rw [q]; omega
          · exact a4 j (by omega) hl
    · rename_i hn
      obtain ⟨a1, a2, a3, a4⟩ := bestUpto_some e'
      refine ⟨by omega, a2, a3, fun j hj hl => ?_⟩
      by_cases q : j = k
      · rw [q] at hl; exact absurd hl hn
      · exact a4 j (by omega) hl
theorem bestUpto_nn {cs ls ns : List Int} (hc : ∀ j, 0 ≤ cs.getD j 0) (hn : ∀ j, 0 ≤ ns.getD j 0) {k i : Nat} {v : Int} (e : bestUpto cs ls ns k = some (i, v)) : 0 ≤ v := by
  obtain ⟨_, _, a, _⟩ := bestUpto_some e
  rw [a]
  exact Int.ediv_nonneg (hc i) (Int.mul_nonneg (hn i) (by have := hn i; omega))

/-! what holds between two turns -/
structure GInv (cs ls ns : List Int) (p : Int) : Prop where
  len : ns.length = ls.length
  at_ : ∀ h, h < ls.length → 1 ≤ ns.getD h 0 ∧ ns.getD h 0 ≤ ls.getD h 0 ∧ (ns.getD h 0 < ls.getD h 0 → fall (cs.getD h 0) (ns.getD h 0) ≤ p) ∧
    (1 < ns.getD h 0 → p ≤ fall (cs.getD h 0) (ns.getD h 0 - 1))

theorem fall1 (d : Int) : fall (420 * d) 1 = 210 * d := by unfold fall; omega
theorem fall2 (d : Int) : fall (420 * d) 2 = 70 * d := by unfold fall; omega
theorem fall3 (d : Int) : fall (420 * d) 3 = 35 * d := by unfold fall; omega
theorem fall4 (d : Int) : fall (420 * d) 4 = 21 * d := by unfold fall; omega
theorem fall_mono {d n : Int} (hd : 0 ≤ d) (h1 : 1 ≤ n) (h2 : n ≤ 3) : fall (420 * d) (n + 1) ≤ fall (420 * d) n := by
  have : n = 1 ∨ n = 2 ∨ n = 3 := by omega
  rcases this with e | e | e <;> subst e
  · rw [show (1:Int) + 1 = 2 by rfl, fall1, fall2]; omega
  · rw [show (2:Int) + 1 = 3 by rfl, fall2, fall3]; omega
  · rw [show (3:Int) + 1 = 4 by rfl, fall3, fall4]; omega
theorem getD_set_self {l : List Int} {k : Nat} {x : Int} (h : k < l.length) : (l.set k x).getD k 0 = x := by
  rw [List.getD_eq_getElem?_getD, List.getElem?_set_self h]; rfl
theorem getD_set_ne {l : List Int} {k j : Nat} {x : Int} (h : k ≠ j) : (l.set k x).getD j 0 = l.getD j 0 := by
  rw [List.getD_eq_getElem?_getD, List.getElem?_set_ne h, List.getD_eq_getElem?_getD]
theorem ones_get {ls : List Int} {h : Nat} (hh : h < ls.length) : (ones ls).getD h 0 = 1 := by
  unfold ones
  rw [List.getD_eq_getElem?_getD, List.getElem?_replicate, if_pos hh]; rfl
theorem ones_len (ls : List Int) : (ones ls).length = ls.length := by unfold ones; exact List.length_replicate
theorem ginv0 {cs ls : List Int} (G : Good cs ls) : GInv cs ls (ones ls) (price0 cs ls) := by
  refine ⟨ones_len ls, fun h hh => ?_⟩
  rw [ones_get hh]
  have hl := G.l _ (getD_mem hh)
  refine ⟨by omega, by omega, fun q => ?_, fun q => by omega⟩
  unfold price0
  cases e : best cs ls (ones ls) with
  | none =>
    have := bestUpto_none e h hh
    rw [ones_get hh] at this
    exact absurd q this
  | some kv =>
    obtain ⟨k, v⟩ := kv
    obtain ⟨_, _, _, a⟩ := bestUpto_some e
    have := a h hh (by rw [ones_get hh]; exact q)
    rw [ones_get hh] at this
    exact this
theorem ginv_step {cs ls ns : List Int} {p : Int} (G : Good cs ls) (I : GInv cs ls ns p) {k : Nat} {v : Int} (e : best cs ls ns = some (k, v)) :
    GInv cs ls (ns.set k (ns.getD k 0 + 1)) v := by
  obtain ⟨a1, a2, a3, a4⟩ := bestUpto_some e
  have kl : k < ns.length := by rw [I.len]; exact a1
  have vp : v ≤ p := by rw [a3]; exact (I.at_ k a1).2.2.1 a2
  refine ⟨by rw [List.length_set]; exact I.len, fun h hh => ?_⟩
  obtain ⟨b1, b2, b3, b4⟩ := I.at_ h hh
  by_cases q : k = h
  · subst q
    rw [getD_set_self kl]
    obtain ⟨c0, d, c1⟩ := G.c _ (getD_mem (by rw [G.len]; exact a1))
    have hl := G.l _ (getD_mem a1)
    refine ⟨by omega, by omega, fun z => ?_, fun z => ?_⟩
    · rw [a3, c1]
      exact fall_mono (by omega) b1 (by omega)
    · rw [show ns.getD k 0 + 1 - 1 = ns.getD k 0 by omega, a3]
      exact Int.le_refl _
  · rw [getD_set_ne q]
    exact ⟨b1, b2, fun z => a4 h hh z, fun z => Int.le_trans vp (b4 z)⟩
theorem sum_set' : ∀ {l : List Int} {k : Nat} {x : Int}, k < l.length → (l.set k x).sum = l.sum - l.getD k 0 + x
  | [], k, x, h => by simp at h
  | a :: r, 0, x, h => by
    show (x :: r).sum = (a :: r).sum - a + x
    rw [List.sum_cons, List.sum_cons]; omega
  | a :: r, k + 1, x, h => by
    have ih := sum_set' (l := r) (k := k) (x := x) (by simpa using h)
    show (a :: r.set k x).sum = (a :: r).sum - r.getD k 0 + x
    rw [List.sum_cons, List.sum_cons, ih]; omega
theorem sum_le_of : ∀ {a b : List Int}, a.length = b.length → (∀ h, h < b.length → b.getD h 0 ≤ a.getD h 0) → b.sum ≤ a.sum
  | [], [], _, _ => by simp
  | [], _ :: _, h, _ => by simp at h
  | _ :: _, [], h, _ => by simp at h
  | x :: a, y :: b, h, k => by
    have ih := sum_le_of (a := a) (b := b) (by simpa using h) fun j hj => by
      have := k (j + 1) (by simpa using hj)
      simpa using this
    have h0 := k 0 (by simp)
    simp at h0
    rw [List.sum_cons, List.sum_cons]; omega
theorem ones_sum (ls : List Int) : (ones ls).sum = ls.length := by
  unfold ones
  induction ls with
  | nil => rfl
  | cons a r ih =>
    show (List.replicate (r.length + 1) (1 : Int)).sum = ((r.length + 1 : Nat) : Int)
    rw [List.replicate_succ, List.sum_cons, ih]; omega
theorem deal_inv {cs ls : List Int} (G : Good cs ls) : ∀ t : Nat, (ls.length : Int) + t ≤ ls.sum → GInv cs ls (dealN cs ls t).1 (dealN cs ls t).2 ∧ (dealN cs ls t).1.sum = ls.length + t ∧
    ((ls.length : Int) + t < ls.sum → ∃ k v, best cs ls (dealN cs ls t).1 = some (k, v) ∧ k < ls.length)
  | 0, h => by
    have I := ginv0 G
    refine ⟨I, by show (ones ls).sum = _; rw [ones_sum]; simp, fun z => ?_⟩
    have e0 : (dealN cs ls 0).1 = ones ls := rfl
    rw [e0]
    cases e : best cs ls (ones ls) with
    | none =>
      have := sum_le_of (a := ones ls) (b := ls) (ones_len ls) fun j hj => by
        have := bestUpto_none e j hj
        omega
      rw [ones_sum] at this
      omega
    | some kv => exact ⟨kv.1, kv.2, rfl, (bestUpto_some e).1⟩
  | t + 1, h => by
    obtain ⟨I, es, ex⟩ := deal_inv G t (by omega)
    obtain ⟨k, v, eb, hk⟩ := ex (by omega)
    have est : dealN cs ls (t + 1) = ((dealN cs ls t).1.set k ((dealN cs ls t).1.getD k 0 + 1), v) := by
      show stepDeal cs ls (dealN cs ls t) = _
      unfold stepDeal
      rw [eb]
    have I' := ginv_step G I eb
    have kl : k < (dealN cs ls t).1.length := by rw [I.len]; exact hk
    rw [est]
    have es' : ((dealN cs ls t).1.set k ((dealN cs ls t).1.getD k 0 + 1)).sum = (ls.length : Int) + (t + 1 : Nat) := by
      rw [sum_set' kl, es]; omega
    refine ⟨I', es', fun z => ?_⟩
    cases e : best cs ls ((dealN cs ls t).1.set k ((dealN cs ls t).1.getD k 0 + 1)) with
    | none =>
      have := sum_le_of (a := (dealN cs ls t).1.set k ((dealN cs ls t).1.getD k 0 + 1)) (b := ls) I'.len fun j hj => by
        have := bestUpto_none e j hj
        omega
      rw [es'] at this
      omega
    | some kv => exact ⟨kv.1, kv.2, rfl, (bestUpto_some e).1⟩
/-! ## variance, bound -/
def vari (cs ns : List Int) : Int := (List.zipWith (fun c n => c / n) cs ns).sum
def leastUpto (c p : Int) : Nat → Option Int
  | 0 => none
  | k + 1 =>
    let t := c / ((k : Int) + 1) + ((k : Int) + 1) * p
    match leastUpto c p k with
    | none => some t
    | some b => if t < b then some t else some b
def least (c p l : Int) : Int := (leastUpto c p l.toNat).getD 0
def boundW (cs ls : List Int) (p : Int) : Int := (List.zipWith (fun c l => least c p l) cs ls).sum
def bound (cs ls : List Int) (m p : Int) : Int := boundW cs ls p - m * p
theorem leastUpto_some (c p : Int) : ∀ k : Nat, ∃ v, leastUpto c p (k + 1) = some v ∧ (∀ j : Nat, j < k + 1 → v ≤ c / ((j : Int) + 1) + ((j : Int) + 1) * p) ∧ ∃ j : Nat, j < k + 1 ∧ v = c / ((j : Int) + 1) + ((j : Int) + 1) * p
  | 0 => ⟨_, rfl, fun j hj => by have : j = 0 := by omega
                                 subst this; exact Int.le_refl _, 0, by omega, rfl⟩
  | k + 1 => by
    obtain ⟨v, e, a, j0, hj0, b⟩ := leastUpto_some c p k
    have u : leastUpto c p (k + 1 + 1) = (if c / (((k + 1 : Nat) : Int) + 1) + (((k + 1 : Nat) : Int) + 1) * p < v then some (c / (((k + 1 : Nat) : Int) + 1) + (((k + 1 : Nat) : Int) + 1) * p) else some v) := by
      show (match leastUpto c p (k + 1) with
        | none => some (c / (((k + 1 : Nat) : Int) + 1) + (((k + 1 : Nat) : Int) + 1) * p)
        | some b => if c / (((k + 1 : Nat) : Int) + 1) + (((k + 1 : Nat) : Int) + 1) * p < b then some (c / (((k + 1 : Nat) : Int) + 1) + (((k + 1 : Nat) : Int) + 1) * p) else some b) = _
      rw [e]
    rw [u]
    split
    · rename_i hlt
      refine ⟨_, rfl, fun j hj => ?_, k + 1, by omega, rfl⟩
      by_cases q : j = k + 1
      · subst q; exact Int.le_refl _
      · have := a j (by omega); omega
    · rename_i hlt
      refine ⟨_, rfl, fun j hj => ?_, j0, by omega, b⟩
      by_cases q : j = k + 1
      · subst q; omega
      · exact a j (by omega)
theorem least_le {c p l n : Int} (h1 : 1 ≤ n) (h2 : n ≤ l) : least c p l ≤ c / n + n * p := by
  obtain ⟨k, ek⟩ : ∃ k : Nat, l.toNat = k + 1 := ⟨l.toNat - 1, by omega⟩
  obtain ⟨v, e, a, _⟩ := leastUpto_some c p k
  unfold least
  rw [ek, e]
  have := a (n - 1).toNat (by omega)
  have en : (((n - 1).toNat : Nat) : Int) + 1 = n := by omega
  rw [en] at this
  exact this
theorem least_ex {c p l : Int} (h : 1 ≤ l) : ∃ n, 1 ≤ n ∧ n ≤ l ∧ least c p l = c / n + n * p := by
  obtain ⟨k, ek⟩ : ∃ k : Nat, l.toNat = k + 1 := ⟨l.toNat - 1, by omega⟩
  obtain ⟨v, e, a, j, hj, b⟩ := leastUpto_some c p k
  refine ⟨(j : Int) + 1, by omega, by omega, ?_⟩
  unfold least
  rw [ek, e]
  exact b
/-- convexity: the term at the number that was dealt is least -/
theorem conv {d n m p : Int} (hd : 0 ≤ d) (n1 : 1 ≤ n) (n5 : n ≤ 5) (m1 : 1 ≤ m) (m5 : m ≤ 5) (hu : n < 5 → n < m → fall (420 * d) n ≤ p) (hl : 1 < n → p ≤ fall (420 * d) (n - 1)) :
    420 * d / n + n * p ≤ 420 * d / m + m * p := by
  have hn : n = 1 ∨ n = 2 ∨ n = 3 ∨ n = 4 ∨ n = 5 := by omega
  have hm : m = 1 ∨ m = 2 ∨ m = 3 ∨ m = 4 ∨ m = 5 := by omega
  have f1 := fall1 d
  have f2 := fall2 d
  have f3 := fall3 d
  have f4 := fall4 d
  have q1 : 420 * d / 1 = 420 * d := by omega
  have q2 : 420 * d / 2 = 210 * d := by omega
  have q3 : 420 * d / 3 = 140 * d := by omega
  have q4 : 420 * d / 4 = 105 * d := by omega
  have q5 : 420 * d / 5 = 84 * d := by omega
  rcases hn with e | e | e | e | e <;> subst e <;> rcases hm with e | e | e | e | e <;> subst e <;> simp at hu hl <;> (try rw [f1] at hu) <;> (try rw [f2] at hu) <;> (try rw [f3] at hu) <;> (try rw [f4] at hu) <;> (try rw [f1] at hl) <;> (try rw [f2] at hl) <;> (try rw [f3] at hl) <;> (try rw [f4] at hl) <;> omega
theorem least_at {c l n p : Int} (hc : 0 ≤ c) (hd : ∃ d, c = 420 * d) (l5 : l ≤ 5) (n1 : 1 ≤ n) (nl : n ≤ l) (hu : n < l → fall c n ≤ p) (hl : 1 < n → p ≤ fall c (n - 1)) : least c p l = c / n + n * p := by
  obtain ⟨d, rfl⟩ := hd
  obtain ⟨m, m1, m2, e⟩ := least_ex (c := 420 * d) (p := p) (l := l) (by omega)
  have a : least (420 * d) p l ≤ 420 * d / n + n * p := least_le n1 nl
  have b := conv (d := d) (n := n) (m := m) (p := p) (by omega) n1 (by omega) m1 (by omega) (fun z1 z2 => hu (by omega)) hl
  omega
theorem duality : ∀ {cs ls ns : List Int} {p : Int}, cs.length = ls.length → ns.length = ls.length →
    (∀ h, h < ls.length → least (cs.getD h 0) p (ls.getD h 0) = cs.getD h 0 / ns.getD h 0 + ns.getD h 0 * p) → boundW cs ls p = vari cs ns + ns.sum * p
  | [], [], [], p, _, _, _ => by simp [boundW, vari]
  | [], _ :: _, _, _, h, _, _ => by simp at h
  | _ :: _, [], _, _, h, _, _ => by simp at h
  | _, _ :: _, [], _, _, h, _ => by simp at h
  | _, [], _ :: _, _, _, h, _ => by simp at h
  | c :: cs, l :: ls, n :: ns, p, h1, h2, h3 => by
    have ih := duality (cs := cs) (ls := ls) (ns := ns) (p := p) (by simpa using h1) (by simpa using h2) fun j hj => by
      have := h3 (j + 1) (by simpa using hj)
      simpa using this
    have h0 := h3 0 (by simp)
    simp at h0
    unfold boundW vari at *
    rw [List.zipWith_cons_cons, List.zipWith_cons_cons, List.sum_cons, List.sum_cons, List.sum_cons, ih, h0, Int.add_mul]
    omega
theorem weak : ∀ {cs ls ns : List Int} {p : Int}, cs.length = ls.length → ns.length = ls.length →
    (∀ h, h < ls.length → 1 ≤ ns.getD h 0 ∧ ns.getD h 0 ≤ ls.getD h 0) → boundW cs ls p ≤ vari cs ns + ns.sum * p
  | [], [], [], p, _, _, _ => by simp [boundW, vari]
  | [], _ :: _, _, _, h, _, _ => by simp at h
  | _ :: _, [], _, _, h, _, _ => by simp at h
  | _, _ :: _, [], _, _, h, _ => by simp at h
  | _, [], _ :: _, _, _, h, _ => by simp at h
  | c :: cs, l :: ls, n :: ns, p, h1, h2, h3 => by
    have ih := weak (cs := cs) (ls := ls) (ns := ns) (p := p) (by simpa using h1) (by simpa using h2) fun j hj => by
      have := h3 (j + 1) (by simpa using hj)
      simpa using this
    have h0 := h3 0 (by simp)
    simp at h0
    have h4 := least_le (c := c) (p := p) h0.1 h0.2
    unfold boundW vari at *
    rw [List.zipWith_cons_cons, List.zipWith_cons_cons, List.sum_cons, List.sum_cons, List.sum_cons, Int.add_mul]
    omega
/-! ## the deals -/
def IsDeal (ls : List Int) (m : Int) (ns : List Int) : Prop := ns.length = ls.length ∧ ns.sum = m ∧ ∀ h, h < ls.length → 1 ≤ ns.getD h 0 ∧ ns.getD h 0 ≤ ls.getD h 0
theorem deal_is {cs ls : List Int} (G : Good cs ls) {m : Int} (h1 : (ls.length : Int) ≤ m) (h2 : m ≤ ls.sum) : IsDeal ls m (dealN cs ls (m - ls.length).toNat).1 := by
  have A := deal_inv G (m - ls.length).toNat (by omega)
  have I := A.1
  have e := A.2.1
  clear A
  exact ⟨I.len, by omega, fun h hh => ⟨(I.at_ h hh).1, (I.at_ h hh).2.1⟩⟩
/-- the told price's bound is the deal's variance -/
theorem strong {cs ls : List Int} (G : Good cs ls) {m : Int} (h1 : (ls.length : Int) ≤ m) (h2 : m ≤ ls.sum) :
    bound cs ls m (dealN cs ls (m - ls.length).toNat).2 = vari cs (dealN cs ls (m - ls.length).toNat).1 := by
  have A := deal_inv G (m - ls.length).toNat (by omega)
  have I := A.1
  have e := A.2.1
  clear A
  have d := duality (cs := cs) (ls := ls) (ns := (dealN cs ls (m - ls.length).toNat).1) (p := (dealN cs ls (m - ls.length).toNat).2) G.len I.len fun h hh => by
    obtain ⟨a1, a2, a3, a4⟩ := I.at_ h hh
    obtain ⟨b1, b2⟩ := G.c _ (getD_mem (l := cs) (by rw [G.len]; exact hh))
    exact least_at b1 b2 (G.l _ (getD_mem hh)).2 a1 a2 a3 a4
  unfold bound
  rw [d, e, show (ls.length : Int) + ((m - ls.length).toNat : Nat) = m by omega]
  omega
theorem bound_le {cs ls : List Int} (G : Good cs ls) {m p : Int} {ns : List Int} (D : IsDeal ls m ns) : bound cs ls m p ≤ vari cs ns := by
  have w := weak (cs := cs) (ls := ls) (ns := ns) (p := p) G.len D.1 D.2.2
  unfold bound
  rw [D.2.1] at w
  omega
theorem optimal {cs ls : List Int} (G : Good cs ls) {m : Int} (h1 : (ls.length : Int) ≤ m) (h2 : m ≤ ls.sum) {ns : List Int} (D : IsDeal ls m ns) :
    vari cs (dealN cs ls (m - ls.length).toNat).1 ≤ vari cs ns := by
  rw [← strong G h1 h2]
  exact bound_le G D
theorem deal_range {ls : List Int} {m : Int} {ns : List Int} (D : IsDeal ls m ns) : (ls.length : Int) ≤ m ∧ m ≤ ls.sum := by
  obtain ⟨a, b, c⟩ := D
  constructor
  · have := sum_le_of (a := ns) (b := ones ls) (by rw [ones_len]; exact a) fun h hh => by
      rw [ones_len] at hh
      rw [ones_get hh]
      exact (c h hh).1
    rw [ones_sum] at this
    omega
  · have := sum_le_of (a := ls) (b := ns) a.symm fun h hh => (c h (by omega)).2
    omega
/-! the enumeration -/
def nums (l : Int) : List Int := (List.range l.toNat).map fun (i : Nat) => 1 + (i : Int)
def longer (l : Int) (ds : List (List Int)) : List (List Int) := ds.flatMap fun one => (nums l).map fun n => one ++ [n]
def allD (ls : List Int) : List (List Int) := ls.foldl (fun ds l => longer l ds) [[]]
def deals (ls : List Int) (m : Int) : List (List Int) := (allD ls).filter fun ns => decide (ns.sum = m)
theorem mem_nums {l n : Int} : n ∈ nums l ↔ 1 ≤ n ∧ n ≤ l := by
  unfold nums
  rw [List.mem_map]
  constructor
  · rintro ⟨i, hi, e⟩
    rw [List.mem_range] at hi
    omega
  · intro ⟨a, b⟩
    exact ⟨(n - 1).toNat, by rw [List.mem_range]; omega, by omega⟩
theorem allD_snoc (ls : List Int) (l : Int) : allD (ls ++ [l]) = longer l (allD ls) := by
  unfold allD
  rw [List.foldl_append]; rfl
theorem mem_allD_take (ls : List Int) : ∀ k, k ≤ ls.length → ∀ ns, ns ∈ allD (ls.take k) ↔ ns.length = k ∧ ∀ h, h < k → 1 ≤ ns.getD h 0 ∧ ns.getD h 0 ≤ ls.getD h 0
  | 0, _, ns => by
    simp only [List.take_zero]
    show ns ∈ [[]] ↔ _
    rw [List.mem_singleton]
    constructor
    · rintro rfl; exact ⟨rfl, fun h hh => by omega⟩
    · intro ⟨a, _⟩; exact List.eq_nil_of_length_eq_zero a
  | k + 1, hk, ns => by
    have ih := mem_allD_take ls k (by omega)
    have kl : k < ls.length := by omega
    rw [List.take_add_one, getD_get kl]
    show ns ∈ allD (ls.take k ++ [ls.getD k 0]) ↔ _
    rw [allD_snoc]
    unfold longer
    rw [List.mem_flatMap]
    constructor
    · rintro ⟨one, h1, h2⟩
      rw [List.mem_map] at h2
      obtain ⟨n, hn, rfl⟩ := h2
      rw [mem_nums] at hn
      obtain ⟨a, b⟩ := (ih one).mp h1
      refine ⟨by simp [a], fun h hh => ?_⟩
      by_cases q : h = k
      · subst q
        have : (one ++ [n]).getD h 0 = n := by
          rw [List.getD_eq_getElem?_getD, ← a, List.getElem?_concat_length]; rfl
        rw [this]; exact hn
      · have : (one ++ [n]).getD h 0 = one.getD h 0 := by
          rw [List.getD_eq_getElem?_getD, List.getElem?_append_left (by omega), ← List.getD_eq_getElem?_getD]
        rw [this]; exact b h (by omega)
    · rintro ⟨a, b⟩
      have e : ns = ns.take k ++ [ns.getD k 0] := by
        have : ns.take (k + 1) = ns := List.take_of_length_le (by omega)
        rw [List.take_add_one, getD_get (l := ns) (by omega)] at this
        exact this.symm
      refine ⟨ns.take k, (ih _).mpr ⟨by rw [List.length_take]; omega, fun h hh => ?_⟩, ?_⟩
      · have : (ns.take k).getD h 0 = ns.getD h 0 := by
          rw [List.getD_eq_getElem?_getD, List.getElem?_take_of_lt hh, ← List.getD_eq_getElem?_getD]
        rw [this]; exact b h (by omega)
      · rw [List.mem_map]
        exact ⟨ns.getD k 0, mem_nums.mpr (b k (by omega)), e.symm⟩
theorem mem_deals {ls : List Int} {m : Int} {ns : List Int} : ns ∈ deals ls m ↔ IsDeal ls m ns := by
  unfold deals
  rw [List.mem_filter, decide_eq_true_eq]
  have := mem_allD_take ls ls.length (Nat.le_refl _) ns
  rw [List.take_length] at this
  rw [this]
  unfold IsDeal
  constructor
  · rintro ⟨⟨a, b⟩, c⟩; exact ⟨a, c, b⟩
  · rintro ⟨a, c, b⟩; exact ⟨⟨a, b⟩, c⟩
theorem longer_len {l : Int} (hl : l ≤ 5) : ∀ ds : List (List Int), (longer l ds).length ≤ ds.length * 5
  | [] => by simp [longer]
  | d :: ds => by
    have ih := longer_len hl ds
    unfold longer at *
    rw [List.flatMap_cons, List.length_append, List.length_map, List.length_cons]
    have : (nums l).length ≤ 5 := by unfold nums; rw [List.length_map, List.length_range]; omega
    omega
theorem allD_len (ls : List Int) (h : ∀ l ∈ ls, l ≤ 5) : ∀ k, k ≤ ls.length → (allD (ls.take k)).length ≤ 5 ^ k
  | 0, _ => by simp [allD]
  | k + 1, hk => by
    have ih := allD_len ls h k (by omega)
    have kl : k < ls.length := by omega
    rw [List.take_add_one, getD_get kl]
    show (allD (ls.take k ++ [ls.getD k 0])).length ≤ _
    rw [allD_snoc, Nat.pow_succ]
    have := longer_len (h _ (getD_mem kl)) (allD (ls.take k))
    omega
theorem allD_len625 {ls : List Int} (h : ∀ l ∈ ls, l ≤ 5) (h4 : ls.length ≤ 4) {k : Nat} (hk : k ≤ ls.length) : (allD (ls.take k)).length ≤ 625 := by
  have := allD_len ls h k hk
  have p : (5 : Nat) ^ k ≤ 5 ^ 4 := Nat.pow_le_pow_right (by decide) (by omega)
  omega
theorem deals_len {ls : List Int} (h : ∀ l ∈ ls, l ≤ 5) (h4 : ls.length ≤ 4) (m : Int) : (deals ls m).length ≤ 625 := by
  have := allD_len625 h h4 (k := ls.length) (Nat.le_refl _)
  rw [List.take_length] at this
  unfold deals
  exact Nat.le_trans (List.length_filter_le _ _) this
theorem deals_nil {cs ls : List Int} (G : Good cs ls) {m : Int} : deals ls m = [] ↔ ¬ ((ls.length : Int) ≤ m ∧ m ≤ ls.sum) := by
  constructor
  · intro e ⟨h1, h2⟩
    have := mem_deals.mpr (deal_is G h1 h2)
    rw [e] at this
    cases this
  · intro h
    cases e : deals ls m with
    | nil => rfl
    | cons d r =>
      have : d ∈ deals ls m := by rw [e]; exact List.mem_cons_self
      exact absurd (deal_range (mem_deals.mp this)) h
end K54

/-! rules of our own for enumerate(zip(xs, ys)): one draw, whatever became of the pair that the draw before gave out -/
namespace K54
open PySem PySem.Spec PyProof.Rows L2
section
variable {prog : Program} {w : World} {A : Around} {E : Value → Shared → Prop} {s : Shared}

/-! ### records, a field at a time -/
/-- a record of the built-in kind n -/
abbrev Rec (h : Heap) (p : Addr) (n : String) (vs : Array Value) : Prop := h.get? p = some { cls := .type n, dict := none, data := .fields vs, slots := #[] }
theorem on_get {β : Type} {f : Value → Sem β} {Q : β → Shared → Prop} {p : Addr} {n : String} {vs : Array Value} (i : Nat) {x : Value} (r : Rec s.heap p n vs) (e : vs[i]? = some x) (k : wpAny (model prog w) A (f x) Q E s) :
    wpAny (model prog w) A (field (.ref p) i >>= f) Q E s := wpAny_bind (wpAny_field r rfl e k)
theorem on_put {Q : Unit → Shared → Prop} {p : Addr} {n : String} {vs : Array Value} {i : Nat} {x : Value} (r : Rec s.heap p n vs) (lt : i < vs.size)
    (k : ∀ h', Rec h' p n (vs.setIfInBounds i x) → Heap.SameBut p s.heap h' → Q () { s with heap := h' }) : wpAny (model prog w) A (setField (.ref p) i x) Q E s := wpAny_setField_rec r lt k
/-- nothing is lost but what lies at places of L -/
abbrev Far (L : List Addr) (h h' : Heap) : Prop := ∀ c o, c ∉ L → h.get? c = some o → h'.get? c = some o
theorem Far.one {L : List Addr} {h h1 h2 : Heap} {c : Addr} (k : Far L h h1) (m : c ∈ L) (sb : Heap.ExtBut c h1 h2) : Far L h h2 := fun b o nb q => sb b o (fun q' => nb (q' ▸ m)) (k b o nb q)
theorem Far.start (L : List Addr) (h : Heap) : Far L h h := fun _ _ _ q => q

/-! ### zip over two lists -/
/-- a zip's own state: its record, its two tuples, its iterators -/
structure ZPart (z tI tO p q a b : Addr) (h : Heap) (own : Value) (fl : Bool) (i j : Nat) : Prop where
  me : Rec h z "zip" #[own, .bool fl, .bool false, .ref tI, .ref tO]
  ins : IsPair h tI (.ref p) (.ref q)
  out : ∃ u v, IsPair h tO u v
  one : h.IsListIter p a i
  two : h.IsListIter q b j
/-- and its lists -/
structure ZNow (z tI tO p q a b : Addr) (xs ys : Array Value) (h : Heap) (own : Value) (fl : Bool) (i j : Nat) : Prop extends ZPart z tI tO p q a b h own fl i j where
  la : h.IsList a xs
  lb : h.IsList b ys
variable {β : Type} {z tI tO p q a b : Addr} {xs ys : Array Value} {h h' : Heap} {own own' : Value} {fl fl' : Bool} {i j : Nat}
theorem ZNow.set_me (D : ZipApart z tI tO p q a b) (N : ZNow z tI tO p q a b xs ys h own fl i j) (sb : Heap.SameBut z h h') (r : Rec h' z "zip" #[own', .bool fl', .bool false, .ref tI, .ref tO]) : ZNow z tI tO p q a b xs ys h' own' fl' i j :=
  have ⟨u, v, o⟩ := N.out
  ⟨⟨r, sb.extBut _ _ D.TIz N.ins, ⟨u, v, sb.extBut _ _ D.TOz o⟩, N.one.extBut sb.extBut D.i1z, N.two.extBut sb.extBut D.i2z⟩, N.la.extBut sb.extBut D.l1z, N.lb.extBut sb.extBut D.l2z⟩
theorem ZNow.set_out {u v : Value} (D : ZipApart z tI tO p q a b) (N : ZNow z tI tO p q a b xs ys h own fl i j) (sb : Heap.SameBut tO h h') (r : IsPair h' tO u v) : ZNow z tI tO p q a b xs ys h' own fl i j :=
  ⟨⟨sb.extBut _ _ D.TOz.symm N.me, sb.extBut _ _ D.TITO N.ins, ⟨u, v, r⟩, N.one.extBut sb.extBut D.TOi1.symm, N.two.extBut sb.extBut D.TOi2.symm⟩, N.la.extBut sb.extBut D.l1TO, N.lb.extBut sb.extBut D.l2TO⟩
theorem ZNow.set_one (D : ZipApart z tI tO p q a b) (N : ZNow z tI tO p q a b xs ys h own fl i j) (sb : Heap.SameBut p h h') (r : h'.IsListIter p a (i + 1)) : ZNow z tI tO p q a b xs ys h' own fl (i + 1) j :=
  have ⟨u, v, o⟩ := N.out
  ⟨⟨sb.extBut _ _ D.i1z.symm N.me, sb.extBut _ _ D.TIi1 N.ins, ⟨u, v, sb.extBut _ _ D.TOi1 o⟩, r, N.two.extBut sb.extBut D.i12.symm⟩, N.la.extBut sb.extBut D.l1i1, N.lb.extBut sb.extBut D.l2i1⟩
theorem ZNow.set_two (D : ZipApart z tI tO p q a b) (N : ZNow z tI tO p q a b xs ys h own fl i j) (sb : Heap.SameBut q h h') (r : h'.IsListIter q b (j + 1)) : ZNow z tI tO p q a b xs ys h' own fl i (j + 1) :=
  have ⟨u, v, o⟩ := N.out
  ⟨⟨sb.extBut _ _ D.i2z.symm N.me, sb.extBut _ _ D.TIi2 N.ins, ⟨u, v, sb.extBut _ _ D.TOi2 o⟩, N.one.extBut sb.extBut D.i12, r⟩, N.la.extBut sb.extBut D.l1i2, N.lb.extBut sb.extBut D.l2i2⟩
/-- into a heap that has all of it -/
theorem ZPart.into (N : ZPart z tI tO p q a b h own fl i j) (k : ∀ c ∈ [z, tI, tO, p, q], ∀ o, h.get? c = some o → h'.get? c = some o) : ZPart z tI tO p q a b h' own fl i j :=
  have ⟨u, v, o⟩ := N.out
  ⟨k _ (by simp) _ N.me, k _ (by simp) _ N.ins, ⟨u, v, k _ (by simp) _ o⟩, N.one.at (k _ (by simp)), N.two.at (k _ (by simp))⟩
/-- each of its places holds something, and no long list -/
theorem ZPart.there {c : Addr} (N : ZPart z tI tO p q a b h own fl i j) (m : c ∈ [z, tI, tO, p, q]) : ∃ o, h.get? c = some o ∧ ∀ v, o.data ≠ .cell v := by
  obtain ⟨me, ins, ⟨u, v, out⟩, ⟨o1, e1, _, d1⟩, ⟨o2, e2, _, d2⟩⟩ := N
  simp only [List.mem_cons, List.not_mem_nil, or_false] at m
  rcases m with rfl | rfl | rfl | rfl | rfl
  · exact ⟨_, me, fun _ => nofun⟩
  · exact ⟨_, ins, fun _ => nofun⟩
  · exact ⟨_, out, fun _ => nofun⟩
  · exact ⟨_, e1, fun _ => by simp [d1]⟩
  · exact ⟨_, e2, fun _ => by simp [d2]⟩

/-- the pair given out last is no more, or there was none -/
def Gone (h : Heap) (own : Value) : Prop := own = .none ∨ ∃ T : Addr, own = rawInt T ∧ h.get? T = none
theorem none_at {β : Type} {f : Option Obj → Sem β} {Q : β → Shared → Prop} {T : Addr} (dead : s.heap.get? T = none) (k : wpAny (model prog w) A (f none) Q E s) : wpAny (model prog w) A (loadIfAlive (Int.toNat T) >>= f) Q E s := by
  rw [Int.toNat_natCast]
  exact wpAny_bind fun _ _ _ => (show wpAny _ _ (f (s.heap.get? T)) _ _ _ from dead.symm ▸ k)
theorem may_reuse {f : Bool → Sem β} {Q : β → Shared → Prop} (N : ZNow z tI tO p q a b xs ys s.heap own fl i j) (g : Gone s.heap own) (k : wpAny (model prog w) A (f true) Q E s) :
    wpAny (model prog w) A (Builtin.SmallTypes.ownedTupleIsFree (.ref z) >>= f) Q E s := by
  refine wpAny_bind ?_
  rcases g with e | ⟨T, e, dead⟩ <;> subst e
  · exact on_get 0 N.me rfl (wpAny_pure k)
  · exact on_get 0 N.me rfl (none_at dead (wpAny_pure k))
/-- a new pair given out -/
theorem hand_out {f : Unit → Sem β} {Q : β → Shared → Prop} {T : Addr} (D : ZipApart z tI tO p q a b) (N : ZNow z tI tO p q a b xs ys s.heap own fl i j)
    (k : ∀ h', ZNow z tI tO p q a b xs ys h' (rawInt T) false i j → Heap.SameBut z s.heap h' → wpAny (model prog w) A (f ()) Q E { s with heap := h' }) :
    wpAny (model prog w) A (Builtin.SmallTypes.ownedTupleHandOut (.ref z) (.ref T) >>= f) Q E s :=
  wpAny_bind (wpAny_bind (on_put N.me (by simp) fun h1 r1 b1 => on_put r1 (by simp) fun h2 r2 b2 =>
    k h2 ((N.set_me (own' := rawInt T) (fl' := fl) D b1 r1).set_me D b2 r2) ⟨b2.1.trans b1.1, fun c ne => (b2.2 c ne).trans (b1.2 c ne)⟩))
/-- the end: the zip lets its pair be, the end goes up -/
theorem shut {e : Addr} {vs : Array Value} (r : Rec s.heap z "zip" vs) (lt : 0 < vs.size) (st : ∃ o, s.heap.get? e = some o ∧ o.cls = .type "StopIteration")
    (k : ∀ H, Heap.ExtBut z s.heap H → (∃ o, H.get? e = some o ∧ o.cls = .type "StopIteration") → E (.ref e) { s with heap := H }) :
    wpAny (model prog w) A (setField (.ref z) 0 .none) (fun _ s' => E (.ref e) s') E s :=
  have ⟨o, eo, co⟩ := st
  have ne : e ≠ z := by rintro rfl; cases r.symm.trans eo; simp at co
  on_put r lt fun H _ b => k H b.extBut ⟨o, b.extBut _ _ ne eo, co⟩
/-- one draw of a zip that may reuse its pair -/
theorem zip_draw {G : Value → Shared → Prop} (hh : A.handled = none) (D : ZipApart z tI tO p q a b) (N : ZNow z tI tO p q a b xs ys s.heap own fl i j) (g : Gone s.heap own)
    (item : ∀ x y H, xs[i]? = some x → ys[j]? = some y → ZNow z tI tO p q a b xs ys H (rawInt s.heap.objs.size) false (i + 1) (j + 1) → IsPair H s.heap.objs.size x y → H.objs.size = s.heap.objs.size + 1 → Far [z, tO, p, q] s.heap H →
      G (.ref s.heap.objs.size) { s with heap := H })
    (stop : ∀ e H, xs[i]? = none ∨ ys[j]? = none → Far [z, tO, p, q] s.heap H → (∃ o, H.get? e = some o ∧ o.cls = .type "StopIteration") → E (.ref e) { s with heap := H }) :
    wpAny (model prog w) A (Builtin.«zip.__next__» ⟨[.ref z], []⟩) (fun r s' => ∃ v, r = .done (.ret v) ∧ G v s') E s := by
  have F0 := Far.start [z, tO, p, q] s.heap
  refine on_get 2 N.me rfl (on_get 3 N.me rfl (wpAny_bind (wpAny_seqItems N.ins rfl (may_reuse N g (wpAny_bind (wpAny_rule (on_get 4 N.me rfl (wpAny_bind (on_put N.me (by simp) fun h1 r1 b1 => ?_)))))))))
  have N1 := N.set_me (own' := .ellipsis) (fl' := fl) D b1 r1
  have F1 := F0.one (c := z) (by simp) b1.extBut
  simp only [List.zipIdx_cons, List.zipIdx_nil, List.forIn_cons, List.forIn_nil]
  refine wpAny_bind (wpAny_bind (wpAny_bind (wpAny_onRaise (wpAny_bind ?_))))
  cases ex : xs[i]? with
  | none =>
    exact wpAny_nextOf_list_end hh N1.one N1.la ex fun h2 e b2 st => shut (s := { s with heap := h2 }) (b2 _ _ D.i1z.symm N1.me) (by simp) st fun H b3 st' => stop e H (.inl ex) ((F1.one (by simp) b2).one (by simp) b3) st'
  | some x =>
    refine wpAny_nextOf_list_item N1.one N1.la ex fun h2 r2 b2 => wpAny_pure ?_
    have N2 := N1.set_one D b2 r2
    obtain ⟨u, v, o2⟩ := N2.out
    refine wpAny_bind (wpAny_seqItems o2 rfl (wpAny_bind (wpAny_updateSeq_pair o2 fun h3 r3 b3 => wpAny_bind (wpAny_letGo (wpAny_pure (wpAny_bind (wpAny_bind (wpAny_onRaise (wpAny_bind ?_)))))))))
    have N3 := N2.set_out (u := x) (v := v) D b3 r3
    have F3 := (F1.one (c := p) (by simp) b2.extBut).one (c := tO) (by simp) b3.extBut
    cases ey : ys[j]? with
    | none =>
      exact wpAny_nextOf_list_end hh N3.two N3.lb ey fun h4 e b4 st => shut (s := { s with heap := h4 }) (b4 _ _ D.i2z.symm N3.me) (by simp) st fun H b5 st' => stop e H (.inr ey) ((F3.one (by simp) b4).one (by simp) b5) st'
    | some y =>
      refine wpAny_nextOf_list_item N3.two N3.lb ey fun h4 r4 b4 => wpAny_pure ?_
      have N4 := N3.set_two D b4 r4
      have o4 : IsPair h4 tO x v := b4.extBut _ _ D.TOi2 r3
      refine wpAny_bind (wpAny_seqItems o4 rfl (wpAny_bind (wpAny_updateSeq_pair o4 fun h5 r5 b5 => wpAny_bind (wpAny_letGo (wpAny_pure (wpAny_pure ?_))))))
      replace r5 : IsPair h5 tO x y := r5
      have N5 := N4.set_out D b5 r5
      have F5 := (F3.one (c := q) (by simp) b4.extBut).one (c := tO) (by simp) b5.extBut
      have sz : h5.objs.size = s.heap.objs.size := by simp [b5.1, b4.1, b3.1, b2.1, b1.1]
      refine wpAny_bind (wpAny_seqItems r5 rfl (wpAny_bind (wpAny_newTuple ?_)))
      refine hand_out (s := { s with heap := h5.push { cls := .type "tuple", data := .seq #[x, y] } }) D ⟨N5.toZPart.into fun _ _ _ e => Heap.get?_push_of_some _ e, N5.la.at fun _ e => Heap.get?_push_of_some _ e, N5.lb.at fun _ e => Heap.get?_push_of_some _ e⟩ fun H N6 b6 => wpAny_pure ⟨_, rfl, ?_⟩
      have done := item x y H ex ey
      rw [← sz] at done
      exact done N6 (b6.extBut _ _ (Nat.ne_of_gt (Heap.lt_size N5.me)) (Heap.get?_push_size _ rfl)) (b6.1.trans (Heap.size_push ..)) (fun c o nc e => b6.extBut _ _ (fun q => nc (by simp [q])) (Heap.get?_push_of_some _ (F5 c o nc e)))
/-- what a zip holds in its first field: none, or where the pair lies -/
def Own (v : Value) : Prop := v = .none ∨ ∃ T : Addr, v = rawInt T
/-- one draw of a zip, whatever became of the pair given out last -/
theorem zip_pull {G : Value → Shared → Prop} (hh : A.handled = none) (D : ZipApart z tI tO p q a b) (N : ZNow z tI tO p q a b xs ys s.heap own fl i j) (g : Own own)
    (item : ∀ x y H own' fl', xs[i]? = some x → ys[j]? = some y → ZNow z tI tO p q a b xs ys H own' fl' (i + 1) (j + 1) → Own own' → IsPair H s.heap.objs.size x y → H.objs.size = s.heap.objs.size + 1 → Far [z, tO, p, q] s.heap H →
      G (.ref s.heap.objs.size) { s with heap := H })
    (stop : ∀ e H, xs[i]? = none ∨ ys[j]? = none → Far [z, tO, p, q] s.heap H → (∃ o, H.get? e = some o ∧ o.cls = .type "StopIteration") → E (.ref e) { s with heap := H }) :
    wpAny (model prog w) A (Builtin.SmallTypes.nextOf (.ref z)) G E s := by
  have ty : s.TypeIs (.ref z) "zip" := ⟨_, N.me, rfl⟩
  refine wpAny_bind (wpAny_callSpecial?_slot (name := Str.ofString "__next__") ty F.slot_zip_next (wpAny_call_entry F.slot_zip_next ty F.entry_zip_next ?_ (F.args_zip_next_1 _)))
  have gone : Gone s.heap own → _ := fun w' => zip_draw (prog := prog) (w := w) (A := A.in1) (s := s) (G := fun v s' => wpAny (model prog w) A (pure v) G E s') (E := E) hh D N w'
    (fun x y H ex ey N' P' z' F' => wpAny_pure (item x y H _ _ ex ey N' (.inr ⟨_, rfl⟩) P' z' F')) stop
  rcases g with e | ⟨T, e⟩
  · exact gone (.inl e)
  · cases dead : s.heap.get? T with
    | none => exact gone (.inr ⟨T, e, dead⟩)
    | some o =>
      subst e
      have close : ∀ f : xs[i]? = none ∨ ys[j]? = none, _ := fun f => zip_next_end_held (prog := prog) (w := w) (A := A.in1) (s := s) (Q := fun r s' => ∃ v, r = .done (.ret v) ∧ wpAny (model prog w) A (pure v) G E s') (E := E) hh D N.me dead N.ins N.one N.two N.la N.lb f fun H x k st =>
        stop x H f (fun c o nc => k c o (fun q' => nc (by simp [q'])) (fun q' => nc (by simp [q'])) fun q' => nc (by simp [q'])) st
      cases ex : xs[i]? with
      | none => exact close (.inl ex)
      | some x =>
        cases ey : ys[j]? with
        | none => exact close (.inr ey)
        | some y =>
          obtain ⟨u, v, o'⟩ := N.out
          exact zip_next_item_held D N.me dead N.ins N.one N.two N.la N.lb ex ey fun H m one two P' z' k =>
            have nl : ∀ {c}, c ≠ z → c ≠ p → c ≠ q → ∀ o, s.heap.get? c = some o → H.get? c = some o := fun a1 a2 a3 o => k _ o a1 a2 a3
            wpAny_pure (item x y H _ _ ex ey ⟨⟨m, nl D.TIz D.TIi1 D.TIi2 _ N.ins, ⟨u, v, nl D.TOz D.TOi1 D.TOi2 _ o'⟩, one, two⟩, N.la.at (nl D.l1z D.l1i1 D.l1i2), N.lb.at (nl D.l2z D.l2i1 D.l2i2)⟩ (.inr ⟨T, rfl⟩) P' z'
              fun c o nc => nl (fun q' => nc (by simp [q'])) (fun q' => nc (by simp [q'])) (fun q' => nc (by simp [q'])) o)

/-! ### enumerate, by what its own iterator does -/
/-- the tuple (c, x) -/
abbrev Told (h : Heap) (T : Addr) (c : Int) (t : Tok) (x : Value) : Prop := h.get? T = some { cls := .type "tuple", data := .seq #[.int c t, x] }
theorem enum_pull {e it : Addr} {c : Int} {old : Value} {Q : Option Value → Shared → Prop} (r : IsEnum s.heap e it c old)
    (inner : wpAny (model prog w) A.in1 (Builtin.SmallTypes.nextOf (.ref it))
      (fun x t => IsEnum t.heap e it c old ∧ ∀ H, IsEnumOut H e it (c + 1) x t.heap.objs.size → Told H t.heap.objs.size c t.toks x → H.objs.size = t.heap.objs.size + 1 → Far [e] t.heap H → Q (some (.ref t.heap.objs.size)) { t with heap := H, toks := t.toks + 1 })
      (fun y t => (∃ d, y = .ref d ∧ ∃ o, t.heap.get? d = some o ∧ o.cls = .type "StopIteration") ∧ Q none t) s) :
    wpAny (model prog w) A (pyNext (.ref e)) Q E s := by
  have ty : s.TypeIs (.ref e) "enumerate" := ⟨_, r, rfl⟩
  refine wpAny_bind (wpAny_attempt (wpAny_callSpecial?_slot (name := Str.ofString "__next__") ty F.slot_enumerate_next (wpAny_call_entry F.slot_enumerate_next ty F.entry_enumerate_next ?_ (F.args_enumerate_next_1 _))))
  refine on_get 2 r rfl (wpAny_bind (wpAny_mono inner (fun x t it' => ?_) fun y t st => ?_))
  · obtain ⟨r0, fin⟩ := it'
    refine on_get 3 r0 rfl (on_get 4 r0 rfl (wpAny_bind (wpAny_mkInt (wpAny_bind (on_put (s := { t with toks := t.toks + 1 }) r0 (by simp) fun h1 r1 b1 => wpAny_bind (on_put r1 (by simp) fun h2 r2 b2 => wpAny_bind (wpAny_newTuple ?_)))))))
    have rN : Rec (h2.push { cls := .type "tuple", data := .seq #[.int c t.toks, x] }) e "enumerate" #[.none, .bool false, .ref it, rawInt (c + 1), .none, old] := Heap.get?_push_of_some _ r2
    refine wpAny_bind (on_get 0 rN rfl (wpAny_pure (wpAny_bind (wpAny_rule (on_get 5 rN rfl (wpAny_bind (on_put rN (by simp) fun h3 r3 b3 => wpAny_bind (wpAny_bind (on_put r3 (by simp) fun h4 r4 b4 => on_put r4 (by simp) fun h5 r5 b5 => ?_)))))))))
    refine wpAny_bind (wpAny_letGo (wpAny_pure ⟨_, rfl, wpAny_pure ?_⟩))
    have sz : h2.objs.size = t.heap.objs.size := b2.1.trans b1.1
    have on : ∀ d o, d ≠ e → (h2.push { cls := .type "tuple", data := .seq #[.int c t.toks, x] }).get? d = some o → h5.get? d = some o := fun d o ne q => b5.extBut _ _ ne (b4.extBut _ _ ne (b3.extBut _ _ ne q))
    have done := fin h5
    rw [← sz] at done
    exact done r5 (on _ _ (Nat.ne_of_gt (Heap.lt_size r2)) (Heap.get?_push_size _ rfl)) (by rw [b5.1, b4.1, b3.1]; exact Heap.size_push ..)
      fun d o nd q => have ne : d ≠ e := fun q' => nd (by simp [q'])
        on d o ne (Heap.get?_push_of_some _ (b2.extBut _ _ ne (b1.extBut _ _ ne q)))
  · obtain ⟨⟨d, ey, o, eo, co⟩, fin⟩ := st
    subst ey
    exact wpAny_bind (wpAny_isInstance (T := "StopIteration") (b := true) ⟨o, eo, co⟩ isSubtype_stop (wpAny_pure fin))
end
end K54

namespace K54
open PySem PySem.Spec PyProof.Rows L2
/-- enumerate made over a zip; a zip is its own iterator -/
theorem new_over_zip (z tI tO : Addr) (own : Value) : Meets (Builtin.«enumerate.__new__» ⟨[.type "enumerate", .ref z], []⟩)
    fun _ out t => IsZip t.heap z tI tO own ∧ out (.ok (.ret (.ref t.heap.objs.size))) { t with heap := t.heap.push { cls := .type "enumerate", data := .fields #[.none, .bool false, .ref z, rawInt 0, .none, .none] } } := by
  refine .of_wp ?_
  rintro prog w A out ⟨h0, gg, dd, tk, os⟩ ⟨zz, fin⟩
  have sub := sub_enumerate
  have zi : IsZip (Shared.heap ⟨h0, gg, dd, tk, os⟩) z tI tO own := zz
  wp_walk using AutoSeq1.wpAny_loadPart' zz
  refine wpAny_stack_any fun _ => wpAny_pure ?_
  split
  case' h_1 c _ _ _ _ _ => generalize (c == Value.type "enumerate") = short; cases short
  all_goals wp_walk using AutoSeq1.wpAny_loadPart' zz, wpAny_pyIter_zip zi
  all_goals exact ⟨_, rfl, fin⟩
theorem enum_of_zip {prog : Program} {w : World} {A : Around} {E : Value → Shared → Prop} {s : Shared} {z tI tO : Addr} {own : Value} {G : Value → Shared → Prop} (zi : IsZip s.heap z tI tO own)
    (k : ∀ H, IsEnum H s.heap.objs.size z 0 .none → H.objs.size = s.heap.objs.size + 1 → (∀ c o, s.heap.get? c = some o → H.get? c = some o) → G (.ref s.heap.objs.size) { s with heap := H }) :
    wpAny (model prog w) A (call (.type "enumerate") [.ref z]) G E s :=
  have r : IsEnum (s.heap.push { cls := .type "enumerate", data := .fields #[.none, .bool false, .ref z, rawInt 0, .none, .none] }) s.heap.objs.size z 0 .none := Heap.get?_push_size _ rfl
  callType_new F.called_enumerate (by decide) (F.typeCall_enumerate_1 _) (F.newCall_enumerate_1 _) (fun v => F.args_object_init_2 v _) F.entry_enumerate_new (new_over_zip z tI tO own)
    ⟨zi, ⟨_, r, rfl⟩, k _ r (Heap.size_push ..) fun _ _ => Heap.get?_push_of_some _⟩

/-- enumerate(zip(a, b)) -/
def Iez (K : PySem.W.Frag) (a b : Addr) : It where
  go i H := ∃ (xs ys : List V) (x y : V), (SqL K H a xs ∧ xs[i]? = some x) ∧ SqL K H b ys ∧ ys[i]? = some y
  yld i H r H' := ∃ T1 T2 x y, r = .ref T2 ∧ H T1 = none ∧ H T2 = none ∧ T1 ≠ T2 ∧ H' = upd (upd H T1 (.tup [x, y])) T2 (.tup [.int (i : Nat), .ref T1]) ∧ (∀ xs, SqL K H a xs → xs[i]? = some x) ∧ ∀ ys, SqL K H b ys → ys[i]? = some y
  stop i H := ∃ xs ys : List V, (SqL K H a xs ∧ SqL K H b ys) ∧ (xs.length ≤ i ∨ ys.length ≤ i)
/-- where it stands -/
abbrev EzSt (e z tI tO p q a b : Addr) (i : Nat) (h : Heap) : Prop := (∃ last, IsEnum h e z (i : Int) last) ∧ ∃ own fl, ZPart z tI tO p q a b h own fl i i ∧ Own own
theorem turn_ez {P : Program} {w : World} {K : PySem.W.Frag} {elts : List Expr} {kk : Nat} {tpos : Pos} {a b e z tI tO p q : Addr} (D : ZipApart z tI tO p q a b) (ne : e ∉ [z, tI, tO, p, q]) :
    Turn P w K (.Tuple elts kk tpos) (Iez K a b) (e :: [z, tI, tO, p, q]) e (EzSt e z tI tO p q a b) where
  mem := List.mem_cons_self ..
  self := fun _ _ _ _ _ st fin => wpAny_pyIter_enum st.1.choose_spec fin
  keep := fun _ _ _ ⟨⟨last, r⟩, own, fl, Z, g⟩ k => ⟨⟨last, k e (List.mem_cons_self ..) _ r⟩, own, fl, Z.into fun c m => k c (List.mem_cons_of_mem _ m), g⟩
  obj := fun _ _ ⟨⟨last, r⟩, own, fl, Z, g⟩ c m => (List.mem_cons.mp m).elim (fun q' => q' ▸ ⟨_, r, fun _ => nofun⟩) Z.there
  item := by
    rintro X rfl rfl rfl calm i pins s σ H E I free ⟨⟨last, r⟩, own, fl, Z, g⟩ ⟨xs, ys, x, y, ⟨sx, ex⟩, sy, ey⟩
    obtain ⟨us, relx, plx, _⟩ := I.list sx
    obtain ⟨vs, rely, ply, _⟩ := I.list sy
    obtain ⟨u, eu, ru⟩ := relx.get ex
    obtain ⟨v, ev, rv⟩ := rely.get ey
    have eu' : us.toArray[i]? = some u := by simpa using eu
    have ev' : vs.toArray[i]? = some v := by simpa using ev
    have early : ∀ c ∈ e :: [z, tI, tO, p, q], c < s.heap.objs.size := fun c m => (List.mem_cons.mp m).elim (fun q' => q' ▸ Heap.lt_size r) fun m' => have ⟨_, t, _⟩ := Z.there m'; Heap.lt_size t
    refine enum_pull r (zip_pull (I.ok.hd calm) D ⟨Z, plx.isList, ply.isList⟩ g (fun u' v' h1 own1 fl1 q1 q2 N1 g1 T1 z1 F1 => ?_) fun _ _ f _ _ => absurd f (by simp [eu', ev']))
    obtain rfl : u = u' := Option.some.inj (eu'.symm.trans q1)
    obtain rfl : v = v' := Option.some.inj (ev'.symm.trans q2)
    replace z1 : h1.objs.size = s.heap.objs.size + 1 := z1
    replace F1 : Far [z, tO, p, q] s.heap h1 := F1
    refine ⟨F1 e _ (fun m => ne (by simp at m ⊢; exact m.imp id .inr)) r, fun h2 r2 T2 z2 F2 => ⟨_, rfl, wpAny_letOwnedTupleGo_enum (s := { s with heap := h2, toks := s.toks + 1 }) r2 fun h3 r3 b3 => ?_⟩⟩
    replace T2 : Told h2 h1.objs.size i s.toks (.ref s.heap.objs.size) := T2
    replace F2 : Far [e] h1 h2 := F2
    replace b3 : Heap.SameBut e h2 h3 := b3
    have past : Far [e] h1 h3 := F2.one (c := e) (by simp) b3.extBut
    have more : s.heap.objs.size < h1.objs.size := z1 ▸ Nat.lt_succ_self _
    have e1 : e < h1.objs.size := Nat.lt_trans (early e (by simp)) more
    let HA := upd H s.heap.objs.size (.tup [x, y])
    let HB := upd HA h1.objs.size (.tup [.int (i : Nat), .ref s.heap.objs.size])
    have IA : Inv X pins σ HA { s with heap := h1 } := I.turnedNew (t' := s.toks) (ch := [z, tO, p, q]) F1 (fun c m => free c (by simp at m ⊢; rcases m with t | t | t | t <;> simp [t])) (Nat.le_refl _)
      ⟨(by decide : 2 ≤ sizeLine), [u, v], .cons ru (.cons rv .nil), ⟨_, T1, rfl, _, rfl⟩⟩
    have IB : Inv X pins σ HB { s with heap := h3, toks := s.toks + 1 } := IA.turnedNew (t' := s.toks + 1) (ch := [e]) past
      (fun c m => by
        obtain rfl : c = e := by simpa using m
        have t := free c (by simp)
        exact ⟨(upd_ne (Nat.ne_of_lt (early c (by simp)))).trans t.1, t.2⟩) (Nat.le_refl _)
      ⟨(by decide : 2 ≤ sizeLine), [.int i s.toks, .ref s.heap.objs.size], .cons ⟨_, rfl⟩ (.cons rfl .nil), ⟨_, b3.extBut _ _ (Nat.ne_of_gt e1) T2, rfl, _, rfl⟩⟩
    have far3 : ∀ c ∈ [z, tI, tO, p, q], ∀ o, h1.get? c = some o → h3.get? c = some o := fun c m o => past c o fun m' => ne (List.mem_singleton.mp m' ▸ m)
    refine ⟨.ref h1.objs.size, HB, IB, rfl, ⟨_, _, x, y, rfl, I.hok.fresh (Nat.le_refl _), I.hok.fresh (Nat.le_of_lt more), Nat.ne_of_lt more, rfl, fun l t => I.list_inj t sx ▸ ex, fun l t => I.list_inj t sy ▸ ey⟩,
      ⟨⟨.ref s.heap.objs.size, r3⟩, own1, fl1, N1.toZPart.into far3, g1⟩, fun c m => ?_⟩
    have lt := early c m
    exact (upd_ne (Nat.ne_of_lt (Nat.lt_trans lt more))).trans ((upd_ne (Nat.ne_of_lt lt)).trans (free c m).1)
  done := by
    rintro X rfl rfl rfl calm i pins s σ H E I free ⟨⟨last, r⟩, own, fl, Z, g⟩ ⟨xs, ys, ⟨sx, sy⟩, short⟩
    obtain ⟨us, relx, plx, _⟩ := I.list sx
    obtain ⟨vs, rely, ply, _⟩ := I.list sy
    have over : us.toArray[i]? = none ∨ vs.toArray[i]? = none := short.imp (fun t => by simp [← relx.length, t]) fun t => by simp [← rely.length, t]
    exact enum_pull r (zip_pull (I.ok.hd calm) D ⟨Z, plx.isList, ply.isList⟩ g (fun _ _ _ _ _ q1 q2 _ _ _ _ _ => by rcases over with t | t <;> simp_all) fun d h1 _ F1 st =>
      ⟨⟨d, rfl, st⟩, rfl, I.turnedL (t' := s.toks) (ch := e :: [z, tI, tO, p, q]) (fun c o m => F1 c o fun m' => m (by simp at m' ⊢; rcases m' with t | t | t | t <;> simp [t])) free⟩)
def iEz (K : PySem.W.Frag) (args : TA) : TI := fun σ H R => args σ H fun vs H1 => ∃ a b xs ys, vs = [.ref a, .ref b] ∧ SqL K H1 a xs ∧ SqL K H1 b ys ∧ R (Iez K a b) H1
/-- the row `enumerate(zip(l, r))` of a for -/
theorem pi_ez {X : Cx} {l r : Expr} {args : TA} {at1 at2 at3 at4 tpos : Pos} {elts : List Expr} {kk : Nat} (ge : Gl X "enumerate") (me : X.mg "enumerate" = none) (gz : Gl X "zip") (mz : X.mg "zip" = none) (pa : PA X [l, r] args)
    (outer : starEach [.Call (.Name "zip" at2) [l, r] [] at4] X.env = [(false, eval (.Call (.Name "zip" at2) [l, r] [] at4) X.env)] := by rfl)
    (both : starEach [l, r] X.env = (false, eval l X.env) :: starEach [r] X.env := by rfl) (plain : (backTo at4 (starEach [r] X.env)).any (·.1) = false := by rfl) :
    PI X (.Tuple elts kk tpos) (.Call (.Name "enumerate" at1) [.Call (.Name "zip" at2) [l, r] [] at4] [] at3) (iEz X.K args) where
  run pins s σ H R I fin := by
    refine Call_ (ld_blt I ge me boot_enumerate (PyProof.Rows.callWith_type1 ?_ outer rfl))
    rw [outer]
    refine Calls.spliced_cons (Call_ (ld_blt I gz mz PyProof.Rows.boot_zip (PyProof.Rows.callWith_type1 (thn (pa.run at4 pins s σ H _ I fin) ?_) both plain)))
    rintro us t ⟨vs, H1, I1, rel, a, b, xs, ys, rfl, sx, sy, fin1⟩
    rcases rel with _ | ⟨⟨⟩, _ | ⟨⟨⟩, _ | _⟩⟩
    obtain ⟨us, relx, plx, _⟩ := I1.list sx
    obtain ⟨vs, rely, ply, _⟩ := I1.list sy
    refine call_zip_2 plx.isList ply.isList fun h1 zz z3 z4 z1 z2 grown old => Calls.spliced_nil (enum_of_zip zz fun h2 r2 grown2 old2 => wpAny_pyIter_enum r2 ?_)
    generalize en : t.heap.objs.size = n at *
    replace grown : h1.objs.size = n + 5 := grown
    have out : h1.objs.size ∉ [n + 4, n + 2, n + 3, n, n + 1] := by rw [grown]; simp
    have D := PySem.W.ktu_apart n a b (en ▸ plx.lt) (en ▸ ply.lt)
    have late : ∀ c ∈ h1.objs.size :: [n + 4, n + 2, n + 3, n, n + 1], n ≤ c := fun c m => by
      rw [grown] at m
      simp only [List.mem_cons, List.not_mem_nil, or_false] at m
      rcases m with t | t | t | t | t | t <;> (subst t; simp)
    exact ⟨_, _, _, _, H1, rfl, I1.kept (t' := t.toks) fun c o t => old2 c o (old c o t), turn_ez D out,
      ⟨⟨.none, r2⟩, .none, false, ⟨old2 _ _ zz, old2 _ _ z3, ⟨_, _, old2 _ _ z4⟩, z1.at fun _ => old2 _ _, z2.at fun _ => old2 _ _⟩, .inl rfl⟩,
      fun c m => I1.fpOk (en ▸ late c m) (I1.hok.fresh (en ▸ late c m)), fin1⟩
/-- over enumerate(zip(a, b)), the lists of one length and left as they are -/
theorem for_ez {K : PySem.W.Frag} {a b : Addr} {xs ys : List V} {g : TG} {tb : TS} {D : Ends} {σ : L2.St} {H : Hp} (hl : xs.length = ys.length) (Pv : Nat → L2.St → Hp → Prop) (h0 : Pv 0 σ H) (hq : ∀ i σ H, Pv i σ H → SqL K H a xs ∧ SqL K H b ys)
    (hs : ∀ (i : Nat) (x y : V) (T1 T2 : Addr) (σ : L2.St) (H : Hp), xs[i]? = some x → ys[i]? = some y → Pv i σ H → H T1 = none → H T2 = none → T1 ≠ T2 → g (.ref T2) σ (upd (upd H T1 (.tup [x, y])) T2 (.tup [.int (i : Nat), .ref T1])) fun σ2 H2 => tb { D with nx := Pv (i + 1), ct := Pv (i + 1), bk := D.nx } σ2 H2)
    (hd : ∀ σ H, Pv xs.length σ H → D.nx σ H) :
    ∃ W : Nat → Nat → L2.St → Hp → Prop, (∃ m, W 0 m σ H) ∧ ∀ i m τ G, W i m τ G → ((Iez K a b).stop i G ∧ D.nx τ G) ∨ ((Iez K a b).go i G ∧ ∃ N : L2.St → Hp → Prop, (∀ τ' G', N τ' G' → ∃ m', m' < m ∧ W (i + 1) m' τ' G') ∧
      ∀ r G', (Iez K a b).yld i G r G' → g r τ G' fun σ2 H2 => tb { D with nx := N, ct := N, bk := D.nx } σ2 H2) := by
  refine ⟨fun i m τ G => i + m = xs.length ∧ Pv i τ G, ⟨xs.length, Nat.zero_add _, h0⟩, fun i m τ G ⟨tot, at'⟩ => ?_⟩
  have ⟨sx, sy⟩ := hq i τ G at'
  cases m with
  | zero =>
    have all : i = xs.length := tot
    exact .inl ⟨⟨xs, ys, ⟨sx, sy⟩, .inl (Nat.le_of_eq all.symm)⟩, hd τ G (all ▸ at')⟩
  | succ m =>
    have lx : i < xs.length := by omega
    have ly : i < ys.length := hl ▸ lx
    refine .inr ⟨⟨xs, ys, xs[i], ys[i], ⟨sx, List.getElem?_eq_getElem lx⟩, sy, List.getElem?_eq_getElem ly⟩, Pv (i + 1), fun τ' G' t => ⟨m, Nat.lt_succ_self m, by omega, t⟩, ?_⟩
    rintro _ _ ⟨T1, T2, x, y, rfl, n1, n2, n12, rfl, ax, ay⟩
    exact hs i x y T1 T2 τ G (ax xs sx) (ay ys sy) at' n1 n2 n12

/-! ### xs[i] op= e of a list -/
def rGetL (K : PySem.W.Frag) : V → V → Hp → VK → Prop := fun c n H Q => ∃ a xs k v, c = .ref a ∧ n = .int k ∧ SqL K H a xs ∧ 0 ≤ k ∧ k < 2 ^ 63 ∧ xs[k.toNat]? = some v ∧ Q v H
theorem get_list {X : Cx} : PGet X (rGetL X.K) := by
  rintro pins s σ H c n cv nv Q I rc rn ⟨a, xs, k, v, rfl, rfl, sx, low, high, ev, fin⟩
  obtain rfl : cv = .ref a := rc
  obtain ⟨t, rfl⟩ := rn
  obtain ⟨us, relx, plx, _⟩ := I.list sx
  obtain ⟨u, eu, ru⟩ := relx.get ev
  exact wpAny_getItem_list plx.isList low high (by simpa using eu) ⟨v, H, I, ru, fin⟩

/-! ### raise X() of an own class -/
theorem pmk_own0 {X : Cx} {C : Addr} {bases : List Value} {B newId initId : String} {name : Str} {at1 at2 : Pos} (F : ExcBaseFacts B newId initId bases) (own : PySem.W.excIn X.K C bases newId = true) (here : X.mg name = some (.ref C)) (kept : PySem.W.keepIn X.K (.ref C) = true) (up : Raises X (.ref C))
    (gl : Gl X name) (usual : (name == ("__debug__" : Str)) = false := by decide) : PMk X (.Call (.Name name at1) [] [] at2) (fun _ H Q => Q (.ref C) none H) := fun pins s σ H Q I fin => by
  have ⟨_, _, _, _, _, _, _, _, _, _, _, _, _, _, _, _, mN, eC, eN, eB, ty⟩ := exc_obj I.kIn own
  exact wpAny_Call_Name_kw (ld_glob I gl here (PySem.W.callWith_K0 I.kIn kept (wpAny_call_exc_subT F ty eC eN eB (fun _ _ made => mk_of I made up fin (I.hok.gone made.new)) (Nat.zero_le _))) usual)

/-! ### a def and all that a call of it asks -/
structure Dn (P : Program) (w : World) (K : PySem.W.Frag) (mg : Str → Option Value) (base : Heap) (k : Nat) (x : Str) (ps : List Str) (sp : Sp) : Prop where
  ex : ∃ f fd, FnOk P w K mg base CX0 k f fd ps sp ∧ mg x = some (.ref f) ∧ PySem.W.keepIn K (.ref f) = true ∧ Binds K fd ps []
theorem pe_callD {X : Cx} {k j : Nat} {name : Str} {ps : List Str} {sp : Sp} {e : Expr} {es : List Expr} {args : TA} {at1 at2 : Pos} (D : Dn X.prog X.w X.K X.mg X.base k name ps sp) (room : Room j X.A) (le : k ≤ j) (pa : PA X (e :: es) args) (gl : Gl X name)
    (usual : (name == ("__debug__" : Str)) = false := by decide) (first : starEach (e :: es) X.env = (false, eval e X.env) :: starEach es X.env := by rfl) (plain : (backTo at2 (starEach es X.env)).any (·.1) = false := by rfl) :
    PE X (.Call (.Name name at1) (e :: es) [] at2) (tCall sp [] E0 args) :=
  have ⟨_, _, F, m, kept, b⟩ := D.ex
  pe_call F (room.mono le) gl m kept b .nil pass0 pa usual first plain
end K54

namespace K54
open PySem PySem.Spec PyProof.Rows L2
/-! ### the text by places -/
def topS (i : Nat) : Stmt := PySem.Challenge.pw_samphire_k54_whole_places_for_strata.main.body.getD i (.Pass ⟨0, 0, 0, 0⟩)
abbrev sLow : Stmt := topS 7
abbrev sPlus : Stmt := topS 8
abbrev sMinus : Stmt := topS 9
abbrev sTimes : Stmt := topS 10
abbrev sOver : Stmt := topS 11
abbrev sLess : Stmt := topS 12
abbrev sSum : Stmt := topS 13
abbrev sIsDeal : Stmt := topS 15
abbrev sVar : Stmt := topS 16
abbrev sFall : Stmt := topS 17
abbrev sNext : Stmt := topS 18
abbrev sDeal : Stmt := topS 19
abbrev sLeast : Stmt := topS 20
abbrev sBound : Stmt := topS 21
abbrev sMix : Stmt := topS 23
abbrev sNums : Stmt := topS 24
abbrev sTake : Stmt := topS 25
abbrev sLLow : Stmt := topS 26
abbrev sLPlus : Stmt := topS 27
abbrev sLTimes : Stmt := topS 28
abbrev sLLess : Stmt := topS 29
abbrev sLVar : Stmt := topS 30
abbrev sLDeals : Stmt := topS 31
abbrev sLFall : Stmt := topS 32
abbrev sGreedy : Stmt := topS 33
abbrev sLBound : Stmt := topS 34
abbrev sTold : Stmt := topS 35
abbrev sLaw : Stmt := topS 36
/-! ### what stands in the heap -/
theorem same_upd {H : Hp} {p : Addr} {o : HO} (h : H p = none) : Same H (upd H p o) := fun b x e => by
  rw [upd_ne (ne_of_none e h)]
  exact e
theorem same_tseq {K : PySem.W.Frag} {H H' : Hp} {a : Addr} {xs : List V} (e : Same H H') (h : SqT K H a xs) : SqT K H' a xs := by
  exact h.imp (fun t => t.imp (e _ _) fun ⟨o, t⟩ => ⟨o, e _ _ t⟩) id
/-- x / 5040 in lowest terms -/
def FT (x : Int) : List V := [.int (num x), .int (den x)]
def Fr (K : PySem.W.Frag) (H : Hp) (v : V) (x : Int) : Prop := ∃ t, v = V.ref t ∧ SqT K H t (FT x)
theorem Fr.mono {K : PySem.W.Frag} {H H' : Hp} {v : V} {x : Int} (s : Same H H') (h : Fr K H v x) : Fr K H' v x := by
  obtain ⟨t, e, q⟩ := h
  exact ⟨t, e, same_tseq s q⟩
theorem Fr.of {K : PySem.W.Frag} {H : Hp} {t : Addr} {x p q : Int} (h : H t = some (.tup [.int p, .int q])) (e1 : p = num x) (e2 : q = den x) : Fr K H (.ref t) x := by
  subst e1 e2
  exact ⟨t, rfl, .inl (.inl h)⟩
/-- the pair (n, 1) is the fraction n -/
theorem Fr.nat {K : PySem.W.Frag} {H : Hp} {t : Addr} {n : Int} (h : H t = some (.tup [.int n, .int 1])) : Fr K H (.ref t) (5040 * n) :=
  Fr.of h (num_int n).1.symm (num_int n).2.symm
theorem ft_nat (n : Int) : FT (5040 * n) = [.int n, .int 1] := by
  unfold FT
  rw [(num_int n).1, (num_int n).2]
/-- a list of ints, of fractions -/
def IL (K : PySem.W.Frag) (H : Hp) (v : V) (ns : List Int) : Prop := ∃ a, v = V.ref a ∧ SqL K H a (ns.map V.int)
theorem IL.mono {K : PySem.W.Frag} {H H' : Hp} {v : V} {ns : List Int} (s : Same H H') (h : IL K H v ns) : IL K H' v ns := by
  obtain ⟨a, e, q⟩ := h
  exact ⟨a, e, s.seq q⟩
def FrL (K : PySem.W.Frag) (H : Hp) (v : V) (cs : List Int) : Prop := ∃ a vs, v = V.ref a ∧ SqL K H a vs ∧ Paired (Fr K H) vs cs
theorem frs_mono {K : PySem.W.Frag} {H H' : Hp} {vs : List V} {cs : List Int} (s : Same H H') (h : Paired (Fr K H) vs cs) : Paired (Fr K H') vs cs := Paired.mapP h fun _ _ q => q.mono s
theorem FrL.mono {K : PySem.W.Frag} {H H' : Hp} {v : V} {cs : List Int} (s : Same H H') (h : FrL K H v cs) : FrL K H' v cs := by
  obtain ⟨a, vs, e, q, p⟩ := h
  exact ⟨a, vs, e, s.seq q, frs_mono s p⟩
/-- None, or the pair (k, y) -/
def OptB (K : PySem.W.Frag) (H : Hp) (v : V) : Option (Nat × Int) → Prop
  | none => v = .non
  | some (k, y) => ∃ p u, v = V.ref p ∧ SqT K H p [.int (k : Int), u] ∧ Fr K H u y
theorem OptB.mono {K : PySem.W.Frag} {H H' : Hp} {v : V} {b : Option (Nat × Int)} (s : Same H H') (h : OptB K H v b) : OptB K H' v b := by
  cases b with
  | none => exact h
  | some q =>
    obtain ⟨p, u, e, h1, h2⟩ := h
    exact ⟨p, u, e, same_tseq s h1, h2.mono s⟩
/-- None, or a fraction -/
def OptF (K : PySem.W.Frag) (H : Hp) (v : V) : Option Int → Prop
  | none => v = .non
  | some y => Fr K H v y
theorem OptF.mono {K : PySem.W.Frag} {H H' : Hp} {v : V} {b : Option Int} (s : Same H H') (h : OptF K H v b) : OptF K H' v b := by
  cases b with
  | none => exact h
  | some q => exact Fr.mono s h
/-- (numbers, price) -/
def DealT (K : PySem.W.Frag) (H : Hp) (v : V) (r : List Int × Int) : Prop := ∃ t a u, v = V.ref t ∧ H t = some (.tup [.ref a, u]) ∧ H a = some (.lst (r.1.map V.int)) ∧ Fr K H u r.2
/-- the deals, each a list -/
def ILt (H : Hp) (v : V) (ns : List Int) : Prop := ∃ a, v = V.ref a ∧ H a = some (.lst (ns.map V.int))
theorem ILt.il {K : PySem.W.Frag} {H : Hp} {v : V} {ns : List Int} (h : ILt H v ns) : IL K H v ns := by
  obtain ⟨a, e, q⟩ := h
  exact ⟨a, e, .of q⟩
/-- .. of a list that H0 has not -/
def ILf (H0 H : Hp) (v : V) (ns : List Int) : Prop := ∃ a, H0 a = none ∧ v = V.ref a ∧ H a = some (.lst (ns.map V.int))
theorem ILf.mono {H0 H H' : Hp} {v : V} {ns : List Int} (s : Same H H') (h : ILf H0 H v ns) : ILf H0 H' v ns := by
  obtain ⟨a, n, e, q⟩ := h
  exact ⟨a, n, e, s _ _ q⟩
theorem ILf.t {H0 H : Hp} {v : V} {ns : List Int} (h : ILf H0 H v ns) : ILt H v ns := let ⟨a, _, e, q⟩ := h; ⟨a, e, q⟩
def DealsL (H0 H : Hp) (xs : List V) (ds : List (List Int)) : Prop := Paired (ILf H0 H) xs ds
theorem DealsL.mono {H0 H H' : Hp} {xs : List V} {ds : List (List Int)} (s : Same H H') (h : DealsL H0 H xs ds) : DealsL H0 H' xs ds := Paired.mapP h fun _ _ q => q.mono s
/-! ### paired lists -/
theorem pr_get {α β : Type} {G : α → β → Prop} {l1 : List α} {l2 : List β} (h : Paired G l1 l2) {i : Nat} {a : α} (e : l1[i]? = some a) : ∃ b, l2[i]? = some b ∧ G a b := paired_get h e
theorem pr_get2 {α β : Type} {G : α → β → Prop} : ∀ {l1 : List α} {l2 : List β}, Paired G l1 l2 → ∀ {i : Nat} {b : β}, l2[i]? = some b → ∃ a, l1[i]? = some a ∧ G a b
  | _, _, .nil, i, b, e => by simp at e
  | _, _, .cons r t, 0, b, e => by simp at e; subst e; exact ⟨_, rfl, r⟩
  | _, _, .cons r t, i + 1, b, e => by
    obtain ⟨a, h1, h2⟩ := pr_get2 t (i := i) (b := b) (by simpa using e)
    exact ⟨a, by simpa using h1, h2⟩
theorem pr_len {α β : Type} {G : α → β → Prop} {l1 : List α} {l2 : List β} (h : Paired G l1 l2) : l1.length = l2.length := Paired.length h
theorem pr_snoc {α β : Type} {G : α → β → Prop} : ∀ {l1 : List α} {l2 : List β} {a : α} {b : β}, Paired G l1 l2 → G a b → Paired G (l1 ++ [a]) (l2 ++ [b])
  | _, _, _, _, .nil, g => .cons g .nil
  | _, _, _, _, .cons r t, g => .cons r (pr_snoc t g)
theorem pr_app {α β : Type} {G : α → β → Prop} : ∀ {l1 m1 : List α} {l2 m2 : List β}, Paired G l1 l2 → Paired G m1 m2 → Paired G (l1 ++ m1) (l2 ++ m2)
  | _, _, _, _, .nil, g => g
  | _, _, _, _, .cons r t, g => .cons r (pr_app t g)
theorem take_snoc {α : Type} {l : List α} {i : Nat} {x : α} (h : l[i]? = some x) : l.take (i + 1) = l.take i ++ [x] := by
  rw [List.take_add_one, h]; rfl
theorem map_get {ns : List Int} {i : Nat} {y : V} (h : (ns.map V.int)[i]? = some y) : ∃ z, ns[i]? = some z ∧ y = V.int z := by
  have ⟨z, at', eq⟩ := Option.map_eq_some_iff.mp (List.getElem?_map.symm.trans h)
  exact ⟨z, at', eq.symm⟩
theorem get_map {ns : List Int} {i : Nat} {z : Int} (h : ns[i]? = some z) : (ns.map V.int)[i]? = some (V.int z) := by
  rw [List.getElem?_map, h]; rfl
theorem small_line {n : Nat} (h : n ≤ 10000) : n ≤ sizeLine := Nat.le_trans h (by decide)
theorem small_line' {n : Nat} (h : n ≤ 10000) : n < sizeLine := Nat.lt_of_le_of_lt h (by decide)
/-! ### the promises -/
section
variable (K : PySem.W.Frag)
/-- lowest(p, q), _law_low(p, q): the fraction x -/
def spLow : Sp := fun vs H Q _ => ∃ p q x : Int, vs = [.int p, .int q] ∧ 0 < q ∧ q < 1073741824 ∧ p * 5040 = x * q ∧ ∀ v H', Same H H' → Fr K H' v x → Q v H'
def spBin (f : Int → Int → Int) : Sp := fun vs H Q _ => ∃ (a b : V) (x y : Int), vs = [a, b] ∧ Fr K H a x ∧ Fr K H b y ∧ ∀ v H', Same H H' → Fr K H' v (f x y) → Q v H'
def spTimes : Sp := fun vs H Q _ => ∃ (a b : V) (n y : Int), vs = [a, b] ∧ (-(2 ^ 64) < n ∧ n < 2 ^ 64) ∧ Fr K H a (5040 * n) ∧ Fr K H b y ∧ ∀ v H', Same H H' → Fr K H' v (n * y) → Q v H'
def spOver : Sp := fun vs H Q _ => ∃ (a b : V) (x n z : Int), vs = [a, b] ∧ (1 ≤ n ∧ n ≤ 5040) ∧ z * n = x ∧ Fr K H a x ∧ Fr K H b (5040 * n) ∧ ∀ v H', Same H H' → Fr K H' v z → Q v H'
def spLess : Sp := fun vs H Q _ => ∃ (a b : V) (x y : Int), vs = [a, b] ∧ Fr K H a x ∧ Fr K H b y ∧ Q (.bl (decide (x < y))) H
def spSum : Sp := fun vs H Q _ => ∃ (l : V) (cs : List Int), vs = [l] ∧ FrL K H l cs ∧ ∀ v H', Same H H' → Fr K H' v cs.sum → Q v H'
def isDealB (ls : List Int) (m : Int) (ns : List Int) : Bool := decide (ns.length = ls.length) && (decide (ns.sum = m) && (List.zipWith (fun n l => decide (1 ≤ n) && decide (n ≤ l)) ns ls).all id)
def spIsDeal : Sp := fun vs H Q _ => ∃ (l n : V) (ls ns : List Int) (m : Int), vs = [l, .int m, n] ∧ ns.length ≤ 1000 ∧ IL K H l ls ∧ IL K H n ns ∧ ∀ H', Same H H' → Q (.bl (isDealB ls m ns)) H'
def spVar : Sp := fun vs H Q _ => ∃ (c n : V) (cs ns : List Int), vs = [c, n] ∧ cs.length = ns.length ∧ cs.length ≤ 1000 ∧ (∀ x ∈ cs, ∃ d, x = 420 * d) ∧ (∀ y ∈ ns, 1 ≤ y ∧ y ≤ 5) ∧ FrL K H c cs ∧ IL K H n ns ∧
  ∀ v H', Same H H' → Fr K H' v (vari cs ns) → Q v H'
def spFall : Sp := fun vs H Q _ => ∃ (c : V) (d n : Int), vs = [c, .int n] ∧ (1 ≤ n ∧ n ≤ 4) ∧ Fr K H c (420 * d) ∧ ∀ v H', Same H H' → Fr K H' v (fall (420 * d) n) → Q v H'
def spNext : Sp := fun vs H Q _ => ∃ (c l n : V) (cs ls ns : List Int), vs = [c, l, n] ∧ Good cs ls ∧ ns.length = ls.length ∧ (∀ y ∈ ns, 1 ≤ y) ∧ FrL K H c cs ∧ IL K H l ls ∧ IL K H n ns ∧
  ∀ v H', Same H H' → OptB K H' v (best cs ls ns) → Q v H'
def spDeal (ND : Addr) : Sp := fun vs H Q E => ∃ (c l : V) (cs ls : List Int) (m : Int), vs = [c, l, .int m] ∧ Good cs ls ∧ FrL K H c cs ∧ IL K H l ls ∧
  (((ls.length : Int) ≤ m ∧ m ≤ ls.sum) → ∀ v H', Same H H' → DealT K H' v (dealN cs ls (m - ls.length).toNat) → Q v H') ∧
  (¬ ((ls.length : Int) ≤ m ∧ m ≤ ls.sum) → E (.ref ND) none H)
def spLeast : Sp := fun vs H Q _ => ∃ (c p : V) (d l y : Int), vs = [c, .int l, p] ∧ (1 ≤ l ∧ l ≤ 5) ∧ Fr K H c (420 * d) ∧ Fr K H p y ∧ ∀ v H', Same H H' → Fr K H' v (least (420 * d) y l) → Q v H'
def spBound : Sp := fun vs H Q _ => ∃ (c l p : V) (cs ls : List Int) (m y : Int), vs = [c, l, .int m, p] ∧ Good cs ls ∧ (-1000 ≤ m ∧ m ≤ 1000) ∧ FrL K H c cs ∧ IL K H l ls ∧ Fr K H p y ∧
  ∀ v H', Same H H' → Fr K H' v (bound cs ls m y) → Q v H'
def spMix : Sp := fun vs H Q _ => ∃ n k : Int, vs = [.int n, .int k] ∧ (0 ≤ k ∧ k ≤ 1000) ∧ ∀ r, Q (.int r) H
def spNums : Sp := fun vs H Q _ => ∃ (s : V) (ns : List Int), vs = [s, .int 110] ∧ ns.length ≤ 63 ∧ IL K H s ns ∧ ∀ a rs H', Same H H' → H a = none → H' a = some (.lst ((rs : List Int).map V.int)) → Q (.ref a) H'
def spTake : Sp := fun vs H Q _ => ∃ (a : Addr) (rs : List Int) (b : Int), vs = [.ref a, .int b] ∧ 0 < b ∧ H a = some (.lst (rs.map V.int)) ∧
  ∀ (d : Int) (rs' : List Int) H', 0 ≤ d → d < b → (∀ c, c ≠ a → H' c = H c) → H' a = some (.lst (rs'.map V.int)) → Q (.int d) H'
def spLDeals : Sp := fun vs H Q _ => ∃ (l : V) (ls : List Int) (m : Int), vs = [l, .int m] ∧ (∀ x ∈ ls, 1 ≤ x ∧ x ≤ 5) ∧ ls.length ≤ 4 ∧ IL K H l ls ∧
  ∀ a xs H', Same H H' → H a = none → H' a = some (.lst xs) → DealsL H H' xs (deals ls m) → Q (.ref a) H'
def spGreedy : Sp := fun vs H Q _ => ∃ (c l : V) (cs ls : List Int) (m : Int), vs = [c, l, .int m] ∧ Good cs ls ∧ ((ls.length : Int) ≤ m ∧ m ≤ ls.sum) ∧ FrL K H c cs ∧ IL K H l ls ∧
  ∀ v H', Same H H' → DealT K H' v (dealN cs ls (m - ls.length).toNat) → Q v H'
def spTold : Sp := fun vs H Q _ => ∃ (c l : V) (cs ls : List Int) (m : Int), vs = [c, l, .int m] ∧ Good cs ls ∧ FrL K H c cs ∧ IL K H l ls ∧
  (((ls.length : Int) ≤ m ∧ m ≤ ls.sum) → ∀ v H', Same H H' → DealT K H' v (dealN cs ls (m - ls.length).toNat) → Q v H') ∧
  (¬ ((ls.length : Int) ≤ m ∧ m ≤ ls.sum) → Q (.str "none") H)
def spLaw : Sp := fun vs H Q _ => ∃ (a : Addr) (ns : List Int), vs = [.ref a] ∧ SqL K H a (ns.map V.int) ∧ ns.length ≤ 63 ∧ ∀ H', Q (.bl true) H'
end
/-! ### what the module's names hold -/
structure Txt (K : PySem.W.Frag) (mg : Str → Option Value) (aN : Addr) : Prop where
  gcd : mg "gcd" = some (.builtin "math.gcd")
  noth : mg "NOTHING" = some (.ref aN)
  nothT : ∀ H : Hp, SqT K H aN [.int 0, .int 1]
  len : mg "len" = none
  sum : mg "sum" = none
  all : mg "all" = none
  zip : mg "zip" = none
  enum : mg "enumerate" = none
  range : mg "range" = none
  int : mg "int" = none
  abs : mg "abs" = none
  max : mg "max" = none
  list : mg "list" = none
  tuple : mg "tuple" = none
  isi : mg "isinstance" = none
end K54

namespace K54
open PySem PySem.Spec PyProof.Rows L2
/-! ### tests whose answer is known -/
theorem iteD0 {c A B : Prop} [Decidable c] (hc : ¬ c) (h : B) : if (decide c) = true then A else B := by
  rw [decide_eq_false hc]
  exact iteF h
theorem iteD1 {c A B : Prop} [Decidable c] (hc : c) (h : A) : if (decide c) = true then A else B := by
  rw [decide_eq_true hc]
  exact iteT h
theorem vne {p q : Int} (h : p ≠ q) : ¬ V.int p = V.int q := fun e => h (V.int.inj e)
theorem nlt {a b : Int} (h : b ≤ a) : ¬ a < b := by omega
theorem fdv {p g : Int} (h : 0 < g) : p.fdiv g = p / g := Int.fdiv_eq_ediv_of_nonneg _ (by omega)
theorem gg_small {p q : Int} (h0 : 0 < q) (h1 : q < 1073741824) : gg p q ≠ 0 ∧ (gg p q).natAbs < 1073741824 := by
  have g := gg_pos (p := p) h0
  have d := Int.le_of_dvd h0 (gg_dr p q)
  omega
theorem den_mulok (x : Int) : -(2 ^ 64) < den x ∧ den x < 2 ^ 64 := by
  have := den_pos x
  have := den_le x
  omega
/-- t[k] of the tuple in slot i -/
theorem px {X : Cx} (i : Nat) {x : Str} {k : Int} {j : Nat} {p1 p2 p3 : Pos} (hN : X.N[i]? = some x := by rfl) (hv : Vis X.env.scope x := by first | exact Or.inl rfl | exact Or.inr (Or.inl rfl) | exact Or.inr (Or.inr rfl)) (hd : (x == ("__debug__" : Str)) = false := by decide)
    (hcd : (x == ("__classdict__" : Str)) = false := by decide) : PE X (.Subscript (.Name x p1) (.Constant (.int k) j p2) p3) (tOp (rIxT X.K) (tVar i) (tC (.int k))) := pe_ix ix_tup (pv i hN hv hd hcd) pe_int (fun _ _ => rfl)
section
variable {P : Program} {w : World} {K : PySem.W.Frag} {mg : Str → Option Value} {base : Heap} {aN : Addr}
/-! ### lowest -/
theorem scLow : FnScope ["p", "q", "divisor"] ["p", "q"] (defScope sLow) := ⟨rfl, rfl, rfl, by decide +kernel, rfl, by decide +kernel, by decide +kernel⟩
theorem ok_low {f : Addr} {fd : FuncData} (F : Fun K "lowest" "lowest" sLow f fd) (T : Txt K mg aN) : FnOk P w K mg base CX0 1 f fd ["p", "q"] (spLow K) := by
  refine F.ok scLow (fun vs H Q E h => ?_) (fun cdv A outer s H vs Q E hr h => ?_)
  · obtain ⟨p, q, x, rfl, _⟩ := h
    rfl
  · obtain ⟨p, q, x, rfl, h0, h1, hx, k⟩ := h
    refine ⟨_, pss_cons (ps_if (pt_cmpR op_eq (pv 1) pe_int (nomark _)) (pss_one ps_never) pss_nil)
      (pss_cons (ps_set (i := 2) scLow.nd rfl (.inl rfl) (pe_callBfun cr_gcd rfl T.gcd (pa_cons (pv 0) (pa_cons (pv 1) pa_nil))))
      (pss_cons (ps_if (pt_cmpR op_lt (pv 1) pe_int (nomark _)) (pss_one ps_never) pss_nil)
      (pss_one (ps_ret (pe_tup (pa_cons (pe_op op_fdivN (pv 0) (pv 2)) (pa_cons (pe_op op_fdivN (pv 1) (pv 2)) pa_nil))))))), ?_⟩
    refine ⟨_, rfl, rfl, _, rfl, iteD0 (vne (by omega)) ?_⟩
    refine ⟨_, rfl, _, rfl, p, q, rfl, ?_⟩
    refine ⟨_, rfl, _, _, rfl, rfl, _, rfl, iteD0 (nlt (by omega)) ?_⟩
    obtain ⟨e1, e2⟩ := low_eq h0 hx
    have g := gg_pos (p := p) h0
    refine ⟨_, rfl, _, rfl, _, _, rfl, rfl, gg_small h0 h1, _, rfl, _, rfl, _, _, rfl, rfl, gg_small h0 h1, (by show 2 ≤ sizeLine; decide), fun t ht => ?_⟩
    exact k _ _ (same_upd ht) (Fr.of upd_same ((fdv g).trans e1) ((fdv g).trans e2))
/-! ### plus, minus, times, over, less -/
theorem scPlus : FnScope ["a", "b"] ["a", "b"] (defScope sPlus) := ⟨rfl, rfl, rfl, by decide +kernel, rfl, by decide +kernel, by decide +kernel⟩
theorem ok_plus {f : Addr} {fd : FuncData} (F : Fun K "plus" "plus" sPlus f fd) (D : Dn P w K mg base 1 "lowest" ["p", "q"] (spLow K)) : FnOk P w K mg base CX0 2 f fd ["a", "b"] (spBin K fun x y => x + y) := by
  refine F.ok scPlus (fun vs H Q E h => ?_) (fun cdv A outer s H vs Q E hr h => ?_)
  · obtain ⟨a, b, x, y, rfl, _⟩ := h
    rfl
  · obtain ⟨a, b, x, y, rfl, ⟨ta, rfl, ha⟩, ⟨tb, rfl, hb⟩, k⟩ := h
    refine ⟨_, pss_one (ps_ret (pe_callD D hr (by decide) (pa_cons (pe_op op_add (pe_op op_mul (pe_ix ix_tup (pv 0) pe_int (fun _ _ => rfl)) (pe_ix ix_tup (pv 1) pe_int (fun _ _ => rfl)))
      (pe_op op_mul (pe_ix ix_tup (pv 1) pe_int (fun _ _ => rfl)) (pe_ix ix_tup (pv 0) pe_int (fun _ _ => rfl)))) (pa_cons (pe_op op_mul (pe_ix ix_tup (pv 0) pe_int (fun _ _ => rfl)) (pe_ix ix_tup (pv 1) pe_int (fun _ _ => rfl))) pa_nil)) rfl)), ?_⟩
    have qb := q_bound (den_pos x) (den_le x) (den_pos y) (den_le y)
    refine ⟨_, rfl, _, _, _, _, rfl, rfl, ha, atI_nat (j := 0) rfl, _, rfl, _, _, _, _, rfl, rfl, hb, atI_nat (j := 1) rfl, _, _, rfl, rfl, .inr (den_mulok y), ?_⟩
    refine ⟨_, rfl, _, _, _, _, rfl, rfl, hb, atI_nat (j := 0) rfl, _, rfl, _, _, _, _, rfl, rfl, ha, atI_nat (j := 1) rfl, _, _, rfl, rfl, .inr (den_mulok x), _, _, rfl, rfl, ?_⟩
    refine ⟨_, rfl, _, _, _, _, rfl, rfl, ha, atI_nat (j := 1) rfl, _, rfl, _, _, _, _, rfl, rfl, hb, atI_nat (j := 1) rfl, _, _, rfl, rfl, .inr (den_mulok y), ?_⟩
    exact ⟨_, _, _, rfl, qb.1, qb.2, ar_plus x y, k⟩

theorem scMinus : FnScope ["a", "b"] ["a", "b"] (defScope sMinus) := ⟨rfl, rfl, rfl, by decide +kernel, rfl, by decide +kernel, by decide +kernel⟩
theorem ok_minus {f : Addr} {fd : FuncData} (F : Fun K "minus" "minus" sMinus f fd) (D : Dn P w K mg base 1 "lowest" ["p", "q"] (spLow K)) : FnOk P w K mg base CX0 2 f fd ["a", "b"] (spBin K fun x y => x - y) := by
  refine F.ok scMinus (fun vs H Q E h => ?_) (fun cdv A outer s H vs Q E hr h => ?_)
  · obtain ⟨a, b, x, y, rfl, _⟩ := h
    rfl
  · obtain ⟨a, b, x, y, rfl, ⟨ta, rfl, ha⟩, ⟨tb, rfl, hb⟩, k⟩ := h
    refine ⟨_, pss_one (ps_ret (pe_callD D hr (by decide) (pa_cons (pe_op op_sub (pe_op op_mul (px 0) (px 1)) (pe_op op_mul (px 1) (px 0))) (pa_cons (pe_op op_mul (px 0) (px 1)) pa_nil)) rfl)), ?_⟩
    have qb := q_bound (den_pos x) (den_le x) (den_pos y) (den_le y)
    refine ⟨_, rfl, _, _, _, _, rfl, rfl, ha, atI_nat (j := 0) rfl, _, rfl, _, _, _, _, rfl, rfl, hb, atI_nat (j := 1) rfl, _, _, rfl, rfl, .inr (den_mulok y), ?_⟩
    refine ⟨_, rfl, _, _, _, _, rfl, rfl, hb, atI_nat (j := 0) rfl, _, rfl, _, _, _, _, rfl, rfl, ha, atI_nat (j := 1) rfl, _, _, rfl, rfl, .inr (den_mulok x), _, _, rfl, rfl, ?_⟩
    refine ⟨_, rfl, _, _, _, _, rfl, rfl, ha, atI_nat (j := 1) rfl, _, rfl, _, _, _, _, rfl, rfl, hb, atI_nat (j := 1) rfl, _, _, rfl, rfl, .inr (den_mulok y), ?_⟩
    exact ⟨_, _, _, rfl, qb.1, qb.2, ar_minus x y, k⟩
theorem one_bound (x : Int) : 0 < 1 * den x ∧ 1 * den x < 1073741824 := by
  have := den_pos x
  have := den_le x
  omega
theorem scTimes : FnScope ["a", "b"] ["a", "b"] (defScope sTimes) := ⟨rfl, rfl, rfl, by decide +kernel, rfl, by decide +kernel, by decide +kernel⟩
theorem ok_times {f : Addr} {fd : FuncData} (F : Fun K "times" "times" sTimes f fd) (D : Dn P w K mg base 1 "lowest" ["p", "q"] (spLow K)) : FnOk P w K mg base CX0 2 f fd ["a", "b"] (spTimes K) := by
  refine F.ok scTimes (fun vs H Q E h => ?_) (fun cdv A outer s H vs Q E hr h => ?_)
  · obtain ⟨a, b, n, y, rfl, _⟩ := h
    rfl
  · obtain ⟨a, b, n, y, rfl, hn, ⟨ta, rfl, ha⟩, ⟨tb, rfl, hb⟩, k⟩ := h
    rw [ft_nat] at ha
    refine ⟨_, pss_one (ps_ret (pe_callD D hr (by decide) (pa_cons (pe_op op_mul (px 0) (px 1)) (pa_cons (pe_op op_mul (px 0) (px 1)) pa_nil)) rfl)), ?_⟩
    refine ⟨_, rfl, _, _, _, _, rfl, rfl, ha, atI_nat (j := 0) rfl, _, rfl, _, _, _, _, rfl, rfl, hb, atI_nat (j := 0) rfl, _, _, rfl, rfl, .inl hn, ?_⟩
    refine ⟨_, rfl, _, _, _, _, rfl, rfl, ha, atI_nat (j := 1) rfl, _, rfl, _, _, _, _, rfl, rfl, hb, atI_nat (j := 1) rfl, _, _, rfl, rfl, .inr (den_mulok y), ?_⟩
    exact ⟨_, _, _, rfl, (one_bound y).1, (one_bound y).2, ar_times n y, k⟩
theorem over_bound {x n : Int} (h : 1 ≤ n ∧ n ≤ 5040) : 0 < den x * n ∧ den x * n < 1073741824 := q_bound (den_pos x) (den_le x) (by omega) h.2
theorem scOver : FnScope ["a", "b"] ["a", "b"] (defScope sOver) := ⟨rfl, rfl, rfl, by decide +kernel, rfl, by decide +kernel, by decide +kernel⟩
theorem ok_over {f : Addr} {fd : FuncData} (F : Fun K "over" "over" sOver f fd) (D : Dn P w K mg base 1 "lowest" ["p", "q"] (spLow K)) : FnOk P w K mg base CX0 2 f fd ["a", "b"] (spOver K) := by
  refine F.ok scOver (fun vs H Q E h => ?_) (fun cdv A outer s H vs Q E hr h => ?_)
  · obtain ⟨a, b, x, n, z, rfl, _⟩ := h
    rfl
  · obtain ⟨a, b, x, n, z, rfl, hn, hz, ⟨ta, rfl, ha⟩, ⟨tb, rfl, hb⟩, k⟩ := h
    rw [ft_nat] at hb
    refine ⟨_, pss_one (ps_ret (pe_callD D hr (by decide) (pa_cons (pe_op op_mul (px 0) (px 1)) (pa_cons (pe_op op_mul (px 0) (px 1)) pa_nil)) rfl)), ?_⟩
    refine ⟨_, rfl, _, _, _, _, rfl, rfl, ha, atI_nat (j := 0) rfl, _, rfl, _, _, _, _, rfl, rfl, hb, atI_nat (j := 1) rfl, _, _, rfl, rfl, .inr (by decide), ?_⟩
    refine ⟨_, rfl, _, _, _, _, rfl, rfl, ha, atI_nat (j := 1) rfl, _, rfl, _, _, _, _, rfl, rfl, hb, atI_nat (j := 0) rfl, _, _, rfl, rfl, .inl (den_mulok x), ?_⟩
    exact ⟨_, _, _, rfl, (over_bound hn).1, (over_bound hn).2, ar_over hz, k⟩
theorem dec_less (x y : Int) : decide (num x * den y < num y * den x) = decide (x < y) := by
  rw [decide_eq_decide]
  exact less_iff x y
theorem scLess : FnScope ["a", "b"] ["a", "b"] (defScope sLess) := ⟨rfl, rfl, rfl, by decide +kernel, rfl, by decide +kernel, by decide +kernel⟩
theorem ok_less {f : Addr} {fd : FuncData} (F : Fun K "less" "less" sLess f fd) : FnOk P w K mg base CX0 1 f fd ["a", "b"] (spLess K) := by
  refine F.ok scLess (fun vs H Q E h => ?_) (fun cdv A outer s H vs Q E hr h => ?_)
  · obtain ⟨a, b, x, y, rfl, _⟩ := h
    rfl
  · obtain ⟨a, b, x, y, rfl, ⟨ta, rfl, ha⟩, ⟨tb, rfl, hb⟩, k⟩ := h
    refine ⟨_, pss_one (ps_ret (pe_cmpR op_lt (pe_op op_mul (px 0) (px 1)) (pe_op op_mul (px 1) (px 0)) (nomark _))), ?_⟩
    refine ⟨_, rfl, _, _, _, _, rfl, rfl, ha, atI_nat (j := 0) rfl, _, rfl, _, _, _, _, rfl, rfl, hb, atI_nat (j := 1) rfl, _, _, rfl, rfl, .inr (den_mulok y), ?_⟩
    refine ⟨_, rfl, _, _, _, _, rfl, rfl, hb, atI_nat (j := 0) rfl, _, rfl, _, _, _, _, rfl, rfl, ha, atI_nat (j := 1) rfl, _, _, rfl, rfl, .inr (den_mulok x), _, _, rfl, rfl, ?_⟩
    show Q (V.bl (decide (num x * den y < num y * den x))) H
    rw [dec_less]
    exact k
/-! ### sum_of -/
theorem sum_take' {cs : List Int} {i : Nat} {z : Int} (h : cs[i]? = some z) : (cs.take (i + 1)).sum = (cs.take i).sum + z := sum_take h
theorem scSum : FnScope ["fractions", "total", "fraction"] ["fractions"] (defScope sSum) := ⟨rfl, rfl, rfl, by decide +kernel, rfl, by decide +kernel, by decide +kernel⟩
theorem ok_sum {f : Addr} {fd : FuncData} (F : Fun K "sum_of" "sum_of" sSum f fd) (T : Txt K mg aN) (D : Dn P w K mg base 2 "plus" ["a", "b"] (spBin K fun x y => x + y)) : FnOk P w K mg base CX0 3 f fd ["fractions"] (spSum K) := by
  refine F.ok scSum (fun vs H Q E h => ?_) (fun cdv A outer s H vs Q E hr h => ?_)
  · obtain ⟨l, cs, rfl, _⟩ := h
    rfl
  · obtain ⟨l, cs, rfl, ⟨a, us, rfl, hl, hp⟩, k⟩ := h
    refine ⟨_, pss_cons (ps_set (i := 1) scSum.nd rfl (.inl rfl) (pe_glob rfl T.noth (v := .ref aN) rfl))
      (pss_cons (ps_for PassesOwn.never rfl (pi_list (pv 0)) (pg_name (i := 2) scSum.nd rfl (.inl rfl)) (pss_one (ps_set (i := 1) scSum.nd rfl (.inl rfl) (pe_callD D hr (by decide) (pa_cons (pv 1) (pa_cons (pv 2) pa_nil)) rfl))))
      (pss_one (ps_ret (pv 1)))), ?_⟩
    have f0 : Fr K H (.ref aN) 0 := ⟨aN, rfl, by unfold FT; rw [num0.1, num0.2]; exact T.nothT H⟩
    refine ⟨_, rfl, a, rfl, ⟨_, hl⟩, for_list (K := K) (a := a) (xs := us) (fun i σ H' => ∃ (tv : V) (x3 : Option V), σ = [some (.ref a), some tv, x3] ∧ Same H H' ∧ Fr K H' tv (cs.take i).sum)
      ⟨_, none, rfl, Same.refl H, f0⟩ (fun i σ H' _ ⟨_, _, _, s1, _⟩ => s1.seq hl) ?_ ?_⟩
    · rintro i u σ H' hu ⟨tv, x3, rfl, s1, ft⟩
      obtain ⟨c, hc, fc⟩ := pr_get hp hu
      refine ⟨_, rfl, _, rfl, _, _, _, _, rfl, ft, fc.mono s1, fun v H2 s2 fv => ?_⟩
      refine ⟨v, some u, rfl, s1.trans s2, ?_⟩
      rw [sum_take' hc]
      exact fv
    · rintro σ H' ⟨tv, x3, rfl, s1, ft⟩
      refine ⟨_, rfl, k _ _ s1 ?_⟩
      rw [pr_len hp, List.take_length] at ft
      exact ft
/-! ### the law's own fractions -/
theorem gg_abs (p q : Int) : gg (if p < 0 then -p else p) q = gg p q := by
  unfold gg
  have : (if p < 0 then -p else p).natAbs = p.natAbs := by split <;> omega
  rw [this]
theorem gg_step {a b : Int} (ha : 0 ≤ a) (hb : 0 < b) : gg b (a % b) = gg a b := by
  obtain ⟨m, rfl⟩ := Int.eq_ofNat_of_zero_le ha
  obtain ⟨n, rfl⟩ := Int.eq_ofNat_of_zero_le (Int.le_of_lt hb)
  unfold gg
  rw [← Int.natCast_emod, Int.natAbs_natCast, Int.natAbs_natCast, Int.natAbs_natCast, gcd_step m n (by omega)]
theorem gg_zero {a : Int} (ha : 0 ≤ a) : gg a 0 = a := by
  unfold gg
  simp
  omega
def mu3 (σ : L2.St) (_ : Hp) : Nat := match σ[3]? with
  | some (some (V.int b)) => b.toNat
  | _ => 0
theorem scLLow : FnScope ["_law_p", "_law_q", "_law_first", "_law_second"] ["_law_p", "_law_q"] (defScope sLLow) := ⟨rfl, rfl, rfl, by decide +kernel, rfl, by decide +kernel, by decide +kernel⟩
theorem ok_llow {f : Addr} {fd : FuncData} (F : Fun K "_law_low" "_law_low" sLLow f fd) (T : Txt K mg aN) : FnOk P w K mg base CX0 1 f fd ["_law_p", "_law_q"] (spLow K) := by
  refine F.ok scLLow (fun vs H Q E h => ?_) (fun cdv A outer s H vs Q E hr h => ?_)
  · obtain ⟨p, q, x, rfl, _⟩ := h
    rfl
  · obtain ⟨p, q, x, rfl, h0, h1, hx, k⟩ := h
    refine ⟨_, pss_cons (ps_par (i := 2) (j := 3) (by rfl) scLLow.nd rfl rfl (by decide) rfl rfl (pa_cons (pe_callB call_abs (by rfl) T.abs (by decide +kernel) (pa_cons (pv 0) pa_nil)) (pa_cons (pv 1) pa_nil)) (by rfl))
      (pss_cons (ps_while PassesOwn.never (pt_cmpR op_ne (pv 3) pe_int (nomark _))
        (pss_one (ps_par (i := 2) (j := 3) (by rfl) scLLow.nd rfl rfl (by decide) rfl rfl (pa_cons (pv 3) (pa_cons (pe_op op_modN (pe_callTy call_int1 (by rfl) T.int (by decide +kernel) (pa_cons (pv 2) pa_nil)) (pv 3)) pa_nil)) (by rfl))))
      (pss_one (ps_ret (pe_tup (pa_cons (pe_op op_fdivN (pv 0) (pv 2)) (pa_cons (pe_op op_fdivN (pv 1) (pv 2)) pa_nil)))))), ?_⟩
    refine ⟨_, rfl, p, rfl, _, rfl, _, _, rfl, ?_⟩
    refine while_by (fun σ H' => ∃ a b : Int, σ = [some (.int p), some (.int q), some (.int a), some (.int b)] ∧ 0 ≤ a ∧ 0 ≤ b ∧ gg a b = gg p q ∧ H' = H) mu3 ⟨_, _, rfl, by split <;> omega, by omega, gg_abs p q, rfl⟩ ?_ ?_
    · rintro σ H' ⟨a, b, rfl, ha, hb, hg, rfl⟩
      refine ⟨_, rfl, rfl, _, rfl, ?_⟩
      by_cases e : b = 0
      · subst e
        rw [decide_eq_true rfl]
        refine iteF ?_
        rw [gg_zero ha] at hg
        subst hg
        obtain ⟨e1, e2⟩ := low_eq h0 hx
        have g := gg_pos (p := p) h0
        refine ⟨_, rfl, _, rfl, _, _, rfl, rfl, gg_small h0 h1, _, rfl, _, rfl, _, _, rfl, rfl, gg_small h0 h1, (by show 2 ≤ sizeLine; decide), fun t ht => ?_⟩
        exact k _ _ (same_upd ht) (Fr.of upd_same ((fdv g).trans e1) ((fdv g).trans e2))
      · rw [decide_eq_false (vne e)]
        refine iteT ?_
        have hb' : 0 < b := by omega
        have em : a.fmod b = a % b := Int.fmod_eq_emod_of_nonneg _ hb
        have m0 := Int.emod_nonneg a e
        have m1 := Int.emod_lt_of_pos a hb'
        refine ⟨_, rfl, _, rfl, .inl ⟨_, rfl, _, rfl, _, _, rfl, rfl, e, _, _, rfl, ⟨_, _, rfl, hb, by rw [em]; exact m0, by rw [em, gg_step ha hb']; exact hg, rfl⟩, ?_⟩⟩
        show (a.fmod b).toNat < b.toNat
        rw [em]
        omega
    · rintro σ H' Q1 Q2 hq ⟨v, hv, hs, kk, e, q⟩
      exact ⟨v, hv, hs, kk, e, hq _ _ q⟩
theorem scLPlus : FnScope ["_law_one", "_law_other"] ["_law_one", "_law_other"] (defScope sLPlus) := ⟨rfl, rfl, rfl, by decide +kernel, rfl, by decide +kernel, by decide +kernel⟩
theorem ok_lplus {f : Addr} {fd : FuncData} (F : Fun K "_law_plus" "_law_plus" sLPlus f fd) (D : Dn P w K mg base 1 "_law_low" ["_law_p", "_law_q"] (spLow K)) : FnOk P w K mg base CX0 2 f fd ["_law_one", "_law_other"] (spBin K fun x y => x + y) := by
  refine F.ok scLPlus (fun vs H Q E h => ?_) (fun cdv A outer s H vs Q E hr h => ?_)
  · obtain ⟨a, b, x, y, rfl, _⟩ := h
    rfl
  · obtain ⟨a, b, x, y, rfl, ⟨ta, rfl, ha⟩, ⟨tb, rfl, hb⟩, k⟩ := h
    refine ⟨_, pss_one (ps_ret (pe_callD D hr (by decide) (pa_cons (pe_op op_add (pe_op op_mul (px 0) (px 1)) (pe_op op_mul (px 1) (px 0))) (pa_cons (pe_op op_mul (px 0) (px 1)) pa_nil)) rfl)), ?_⟩
    have qb := q_bound (den_pos x) (den_le x) (den_pos y) (den_le y)
    refine ⟨_, rfl, _, _, _, _, rfl, rfl, ha, atI_nat (j := 0) rfl, _, rfl, _, _, _, _, rfl, rfl, hb, atI_nat (j := 1) rfl, _, _, rfl, rfl, .inr (den_mulok y), ?_⟩
    refine ⟨_, rfl, _, _, _, _, rfl, rfl, hb, atI_nat (j := 0) rfl, _, rfl, _, _, _, _, rfl, rfl, ha, atI_nat (j := 1) rfl, _, _, rfl, rfl, .inr (den_mulok x), _, _, rfl, rfl, ?_⟩
    refine ⟨_, rfl, _, _, _, _, rfl, rfl, ha, atI_nat (j := 1) rfl, _, rfl, _, _, _, _, rfl, rfl, hb, atI_nat (j := 1) rfl, _, _, rfl, rfl, .inr (den_mulok y), ?_⟩
    exact ⟨_, _, _, rfl, qb.1, qb.2, ar_plus x y, k⟩
theorem scLTimes : FnScope ["_law_one", "_law_other"] ["_law_one", "_law_other"] (defScope sLTimes) := ⟨rfl, rfl, rfl, by decide +kernel, rfl, by decide +kernel, by decide +kernel⟩
theorem ok_ltimes {f : Addr} {fd : FuncData} (F : Fun K "_law_times" "_law_times" sLTimes f fd) (D : Dn P w K mg base 1 "_law_low" ["_law_p", "_law_q"] (spLow K)) : FnOk P w K mg base CX0 2 f fd ["_law_one", "_law_other"] (spTimes K) := by
  refine F.ok scLTimes (fun vs H Q E h => ?_) (fun cdv A outer s H vs Q E hr h => ?_)
  · obtain ⟨a, b, n, y, rfl, _⟩ := h
    rfl
  · obtain ⟨a, b, n, y, rfl, hn, ⟨ta, rfl, ha⟩, ⟨tb, rfl, hb⟩, k⟩ := h
    rw [ft_nat] at ha
    refine ⟨_, pss_one (ps_ret (pe_callD D hr (by decide) (pa_cons (pe_op op_mul (px 0) (px 1)) (pa_cons (pe_op op_mul (px 0) (px 1)) pa_nil)) rfl)), ?_⟩
    refine ⟨_, rfl, _, _, _, _, rfl, rfl, ha, atI_nat (j := 0) rfl, _, rfl, _, _, _, _, rfl, rfl, hb, atI_nat (j := 0) rfl, _, _, rfl, rfl, .inl hn, ?_⟩
    refine ⟨_, rfl, _, _, _, _, rfl, rfl, ha, atI_nat (j := 1) rfl, _, rfl, _, _, _, _, rfl, rfl, hb, atI_nat (j := 1) rfl, _, _, rfl, rfl, .inr (den_mulok y), ?_⟩
    exact ⟨_, _, _, rfl, (one_bound y).1, (one_bound y).2, ar_times n y, k⟩
theorem scLLess : FnScope ["_law_one", "_law_other"] ["_law_one", "_law_other"] (defScope sLLess) := ⟨rfl, rfl, rfl, by decide +kernel, rfl, by decide +kernel, by decide +kernel⟩
theorem ok_lless {f : Addr} {fd : FuncData} (F : Fun K "_law_less" "_law_less" sLLess f fd) : FnOk P w K mg base CX0 1 f fd ["_law_one", "_law_other"] (spLess K) := by
  refine F.ok scLLess (fun vs H Q E h => ?_) (fun cdv A outer s H vs Q E hr h => ?_)
  · obtain ⟨a, b, x, y, rfl, _⟩ := h
    rfl
  · obtain ⟨a, b, x, y, rfl, ⟨ta, rfl, ha⟩, ⟨tb, rfl, hb⟩, k⟩ := h
    refine ⟨_, pss_one (ps_ret (pe_cmpR op_lt (pe_op op_mul (px 0) (px 1)) (pe_op op_mul (px 1) (px 0)) (nomark _))), ?_⟩
    refine ⟨_, rfl, _, _, _, _, rfl, rfl, ha, atI_nat (j := 0) rfl, _, rfl, _, _, _, _, rfl, rfl, hb, atI_nat (j := 1) rfl, _, _, rfl, rfl, .inr (den_mulok y), ?_⟩
    refine ⟨_, rfl, _, _, _, _, rfl, rfl, hb, atI_nat (j := 0) rfl, _, rfl, _, _, _, _, rfl, rfl, ha, atI_nat (j := 1) rfl, _, _, rfl, rfl, .inr (den_mulok x), _, _, rfl, rfl, ?_⟩
    show Q (V.bl (decide (num x * den y < num y * den x))) H
    rw [dec_less]
    exact k
end
end K54

namespace K54
open PySem PySem.Spec PyProof.Rows L2
theorem iteN1 {c A B : Prop} [Decidable c] (hc : ¬ c) (h : A) : if (!decide c) = true then A else B := by
  rw [decide_eq_false hc]
  exact iteT h
theorem same_D {H H' : Hp} {D : Addr} {o : HO} (s : Same H H') (h : H D = none) : Same H (upd H' D o) := fun b x e => by
  rw [upd_ne (ne_of_none e h)]
  exact s b x e
/-- one turn of a comprehension: the slots are back, and what the element says holds behind it -/
abbrev TurnOk (tt : TT) (te : TE) (vs : List Nat) (σ : L2.St) (D : Addr) (N : Hp → Prop) : L2.St → Hp → Prop := fun σ2 H2 => wipe σ2 vs = wipe σ vs ∧ tt σ2 H2 fun b H3 =>
  if b = true then (te σ2 H3 fun y H4 => ∃ acc, H4 D = some (.lst acc) ∧ acc.length < sizeLine ∧ N (upd H4 D (.lst (acc ++ [y])))) else N H3
/-- a comprehension over zip of two lists of one length -/
theorem lc_zip {K : PySem.W.Frag} {a b : Addr} {xs ys : List V} {g : TG} {tt : TT} {te : TE} {vs : List Nat} {σ : L2.St} {H1 : Hp} {D : Addr} {Qd : Hp → Prop} (hl : xs.length = ys.length) (Pv : Nat → Hp → Prop) (h0 : Pv 0 (upd H1 D (.lst []))) (hq : ∀ i H, Pv i H → SqL K H a xs ∧ SqL K H b ys)
    (hs : ∀ (i : Nat) (x y : V) (T : Addr) (H : Hp), xs[i]? = some x → ys[i]? = some y → Pv i H → H T = none → g (.ref T) (wipe σ vs) (upd H T (.tup [x, y])) (TurnOk tt te vs σ D (Pv (i + 1)))) (hd : ∀ H, Pv xs.length H → Qd H) :
    ∃ W : Nat → Nat → Hp → Prop, (∃ left, W 0 left (upd H1 D (.lst []))) ∧ ∀ i left H, W i left H → ((Itz K a b).stop i H ∧ Qd H) ∨
      ((Itz K a b).go i H ∧ ∃ N : Hp → Prop, (∀ H', N H' → ∃ l', l' < left ∧ W (i + 1) l' H') ∧ ∀ r H', (Itz K a b).yld i H r H' → g r (wipe σ vs) H' (TurnOk tt te vs σ D N)) := by
  refine ⟨fun i left H => i + left = xs.length ∧ Pv i H, ⟨xs.length, Nat.zero_add _, h0⟩, fun i left H ⟨tot, now⟩ => ?_⟩
  have ⟨sx, sy⟩ := hq i H now
  cases left with
  | zero =>
    have all : i = xs.length := tot
    exact .inl ⟨⟨xs, ys, sx, sy, .inl (Nat.le_of_eq all.symm)⟩, hd H (all ▸ now)⟩
  | succ left =>
    have lx : i < xs.length := by omega
    have ly : i < ys.length := hl ▸ lx
    refine .inr ⟨⟨xs, ys, xs[i], ys[i], sx, sy, List.getElem?_eq_getElem lx, List.getElem?_eq_getElem ly⟩, Pv (i + 1), fun H' t => ⟨left, Nat.lt_succ_self left, by omega, t⟩, ?_⟩
    rintro _ _ ⟨T, x, y, rfl, fresh, rfl, ax, ay⟩
    exact hs i x y T H (ax xs sx) (ay ys sy) now fresh
def okN (n l : Int) : Bool := decide (1 ≤ n) && decide (n ≤ l)
theorem zw_get {α β γ : Type} {f : α → β → γ} {l1 : List α} {l2 : List β} {i : Nat} {a : α} {b : β} (h1 : l1[i]? = some a) (h2 : l2[i]? = some b) : (List.zipWith f l1 l2)[i]? = some (f a b) := by
  rw [List.getElem?_zipWith, h1, h2]
section
variable {P : Program} {w : World} {K : PySem.W.Frag} {mg : Str → Option Value} {base : Heap} {aN : Addr}
/-! ### is_deal -/
abbrev nIsDeal : List Str := ["limits", "places", "numbers", "number", "limit"]
theorem scIsDeal : FnScope nIsDeal ["limits", "places", "numbers"] (defScope sIsDeal) := ⟨rfl, rfl, rfl, by decide +kernel, rfl, by decide +kernel, by decide +kernel⟩
theorem ok_isdeal {f : Addr} {fd : FuncData} (F : Fun K "is_deal" "is_deal" sIsDeal f fd) (T : Txt K mg aN) : FnOk P w K mg base CX0 1 f fd ["limits", "places", "numbers"] (spIsDeal K) := by
  refine F.ok scIsDeal (fun vs H Q E h => ?_) (fun cdv A outer s H vs Q E hr h => ?_)
  · obtain ⟨l, n, ls, ns, m, rfl, _⟩ := h
    rfl
  · obtain ⟨l, n, ls, ns, m, rfl, hz, ⟨a, rfl, hl⟩, ⟨b, rfl, hn⟩, k⟩ := h
    refine ⟨_, pss_cons (ps_if (PW.pt (pw_or (pt_cmpR op_ne (pe_callB call_len_seq (by rfl) T.len PySem.boot_len (pa_cons (pv 2) pa_nil)) (pe_callB call_len_seq (by rfl) T.len PySem.boot_len (pa_cons (pv 0) pa_nil)) (nomark _))
        (pw_or1 (pt_cmpR op_ne (pe_callB (cr_sum rfl) (by rfl) T.sum (by decide +kernel) (pa_cons (pv 2) pa_nil)) (pv 1) (nomark _))))) (pss_one (ps_ret pe_bl)) pss_nil)
      (pss_one (ps_ret (pe_callB (cr_all rfl) (by rfl) T.all (by decide +kernel) (pa_cons (pe_lc (own := [("number", 3), ("limit", 4)]) (g := gTup K 2 (gCons (gName 3) (gCons (gName 4) gNil))) (tt := tYes) (te := tChain (rI0 fun i j => .bl (decide (i ≤ j))) (rI0 fun i j => .bl (decide (i ≤ j))) (tC (.int 1)) (tVar 3) (tVar 4)) rfl scIsDeal.nd
        (pi_zip (by rfl) T.zip (pa_cons (pv 2) (pa_cons (pv 0) pa_nil)))
        (blkOk_by (N := nIsDeal) (sc := defScope sIsDeal) (by decide +kernel)) (fun _ _ _ _ _ => pg_tup rfl (pgs_cons (pg_name (i := 3) scIsDeal.nd rfl (Or.inl rfl)) (pgs_cons (pg_name (i := 4) scIsDeal.nd rfl (Or.inl rfl)) pgs_nil))) (fun _ _ _ _ _ => pts_nil)
        (fun _ _ _ _ _ => pe_chain op_le op_le pe_int (pv 3) (pv 4))) pa_nil)))), ?_⟩
    refine ⟨_, rfl, _, _, rfl, .inl hn, _, rfl, _, _, rfl, .inl hl, rfl, _, rfl, ?_⟩
    have eB : isDealB ls m ns = (decide (ns.length = ls.length) && (decide (ns.sum = m) && (List.zipWith okN ns ls).all id)) := rfl
    by_cases e1 : ns.length = ls.length
    · refine iteNS (by rw [List.length_map, List.length_map, e1]) ?_
      refine ⟨_, rfl, b, ns, rfl, hn, _, rfl, rfl, _, rfl, ?_⟩
      by_cases e2 : ns.sum = m
      · refine iteNS (by rw [e2]) ?_
        refine ⟨_, rfl, _, rfl, b, a, _, _, rfl, hn, hl, fun D hD => ?_⟩
        refine lc_zip (xs := ns.map V.int) (ys := ls.map V.int) (by rw [List.length_map, List.length_map, e1]) (fun i H' => Same H H' ∧ H' D = some (.lst (((List.zipWith okN ns ls).take i).map V.bl))) ⟨same_upd hD, upd_same⟩ (fun i H' hp => ⟨hp.1.seq hn, hp.1.seq hl⟩) ?_ ?_
        · rintro i x y T H' hx hy ⟨s1, hD'⟩ hT
          obtain ⟨x', hx', rfl⟩ := map_get hx
          obtain ⟨y', hy', rfl⟩ := map_get hy
          refine ⟨T, _, rfl, .inl (.inl upd_same), rfl, _, _, rfl, _, _, rfl, rfl, rfl, _, rfl, _, _, rfl, rfl, _, rfl, ?_⟩
          have fin : ∀ z : Bool, z = okN x' y' → ∃ acc, (upd H' T (.tup [.int x', .int y'])) D = some (.lst acc) ∧ acc.length < sizeLine ∧
              (Same H (upd (upd H' T (.tup [.int x', .int y'])) D (.lst (acc ++ [.bl z]))) ∧ (upd (upd H' T (.tup [.int x', .int y'])) D (.lst (acc ++ [.bl z]))) D = some (.lst (((List.zipWith okN ns ls).take (i + 1)).map V.bl))) := by
            intro z hz'
            refine ⟨_, by rw [upd_ne (ne_of_none hD' hT)]; exact hD', ?_, same_D (s1.trans (same_upd hT)) hD, ?_⟩
            · rw [List.length_map, List.length_take, List.length_zipWith]
              exact small_line' (by omega)
            · rw [upd_same, take_snoc (zw_get hx' hy'), List.map_append, hz']
              rfl
          by_cases c1 : 1 ≤ x'
          · refine iteD1 c1 ⟨_, rfl, _, _, rfl, rfl, fin _ ?_⟩
            unfold okN
            rw [decide_eq_true c1, Bool.true_and]
          · refine iteD0 c1 (fin _ ?_)
            unfold okN
            rw [decide_eq_false c1, Bool.false_and]
        · rintro H' ⟨s1, hD'⟩
          have ez : (List.zipWith okN ns ls).take (ns.map V.int).length = List.zipWith okN ns ls := List.take_of_length_le (by rw [List.length_zipWith, List.length_map]; omega)
          rw [ez] at hD'
          refine ⟨D, _, rfl, .of hD', ?_⟩
          have q := k H' s1
          rw [eB, decide_eq_true e1, decide_eq_true e2, Bool.true_and, Bool.true_and] at q
          exact q
      · refine iteN1 (vne e2) ?_
        have q := k H (Same.refl H)
        rw [eB, decide_eq_false e2, Bool.false_and, Bool.and_false] at q
        exact q
    · refine iteN1 (fun e => e1 ?_) (iteT ?_)
      · have e' := V.int.inj e
        rw [List.length_map, List.length_map] at e'
        omega
      · have q := k H (Same.refl H)
        rw [eB, decide_eq_false e1, Bool.false_and] at q
        exact q

/-! ### a list that grows holds its fractions -/
theorem fr_upd {H : Hp} {D : Addr} {us us' : List V} {v : V} {x : Int} (hD : H D = some (.lst us)) (h : Fr K H v x) : Fr K (upd H D (.lst us')) v x := by
  obtain ⟨t, e, q⟩ := h
  refine ⟨t, e, ?_⟩
  rcases q with (q | ⟨o, q⟩) | q
  · exact .inl (.inl (by rw [upd_ne (ne_of q hD (by intro z; cases z))]; exact q))
  · exact .inl (.inr ⟨o, by rw [upd_ne (ne_of q hD (by intro z; cases z))]; exact q⟩)
  · exact .inr q
theorem frs_upd {H : Hp} {D : Addr} {us us' vs : List V} {cs : List Int} (hD : H D = some (.lst us)) (h : Paired (Fr K H) vs cs) : Paired (Fr K (upd H D (.lst us'))) vs cs := Paired.mapP h fun _ _ q => fr_upd hD q
theorem div_ok {d n : Int} (h1 : 1 ≤ n) (h5 : n ≤ 5) : 420 * d / n * n = 420 * d := by
  have : n = 1 ∨ n = 2 ∨ n = 3 ∨ n = 4 ∨ n = 5 := by omega
  rcases this with e | e | e | e | e <;> subst e <;> omega
theorem fall_eq {d n : Int} (h1 : 1 ≤ n) (h4 : n ≤ 4) : 420 * d / n - 420 * d / (n + 1) = fall (420 * d) n := by
  have : n = 1 ∨ n = 2 ∨ n = 3 ∨ n = 4 := by omega
  rcases this with e | e | e | e <;> subst e
  · rw [fall1]; omega
  · rw [fall2]; omega
  · rw [fall3]; omega
  · rw [fall4]; omega
/-! ### variance_of -/
abbrev nVar : List Str := ["costs", "numbers", "cost", "number"]
theorem scVar : FnScope nVar ["costs", "numbers"] (defScope sVar) := ⟨rfl, rfl, rfl, by decide +kernel, rfl, by decide +kernel, by decide +kernel⟩
theorem ok_var {f : Addr} {fd : FuncData} (F : Fun K "variance_of" "variance_of" sVar f fd) (T : Txt K mg aN) (DO : Dn P w K mg base 2 "over" ["a", "b"] (spOver K)) (DS : Dn P w K mg base 3 "sum_of" ["fractions"] (spSum K)) : FnOk P w K mg base CX0 4 f fd ["costs", "numbers"] (spVar K) := by
  refine F.ok scVar (fun vs H Q E h => ?_) (fun cdv A outer s H vs Q E hr h => ?_)
  · obtain ⟨c, n, cs, ns, rfl, _⟩ := h
    rfl
  · obtain ⟨c, n, cs, ns, rfl, hlen, hz, hc, hn, ⟨a, us, rfl, ha, hp⟩, ⟨b, rfl, hb⟩, k⟩ := h
    refine ⟨_, pss_one (ps_ret (pe_callD DS hr (by decide) (pa_cons (pe_lc (own := [("cost", 2), ("number", 3)]) (g := gTup K 2 (gCons (gName 2) (gCons (gName 3) gNil))) (tt := tYes)
        (te := tCall (spOver K) [] E0 (tCons (tVar 2) (tCons (tTup (tCons (tVar 3) (tCons (tC (.int 1)) tNil))) tNil))) rfl scVar.nd
        (pi_zip (by rfl) T.zip (pa_cons (pv 0) (pa_cons (pv 1) pa_nil)))
        (blkOk_by (N := nVar) (sc := defScope sVar) (by decide +kernel)) (fun _ _ _ _ _ => pg_tup rfl (pgs_cons (pg_name (i := 2) scVar.nd rfl (Or.inl rfl)) (pgs_cons (pg_name (i := 3) scVar.nd rfl (Or.inl rfl)) pgs_nil))) (fun _ _ _ _ _ => pts_nil)
        (fun _ _ _ _ _ => pe_callD DO hr (by decide) (pa_cons (pv 2) (pa_cons (pe_tup (pa_cons (pv 3) (pa_cons pe_int pa_nil))) pa_nil)) rfl)) pa_nil) rfl)), ?_⟩
    have eul := pr_len hp
    refine ⟨_, rfl, _, rfl, a, b, _, _, rfl, ha, hb, fun D hD => ?_⟩
    refine lc_zip (xs := us) (ys := ns.map V.int) (by rw [List.length_map, eul, hlen]) (fun i H' => Same H H' ∧ ∃ ws, H' D = some (.lst ws) ∧ Paired (Fr K H') ws ((List.zipWith (fun c n => c / n) cs ns).take i)) ⟨same_upd hD, _, upd_same, .nil⟩ (fun i H' hp => ⟨hp.1.seq ha, hp.1.seq hb⟩) ?_ ?_
    · rintro i x y T H' hx hy ⟨s1, ws, hD', hw⟩ hT
      obtain ⟨c', hc', fc⟩ := pr_get hp hx
      obtain ⟨n', hn', rfl⟩ := map_get hy
      obtain ⟨d, rfl⟩ := hc _ (List.mem_of_getElem? hc')
      have hn5 := hn _ (List.mem_of_getElem? hn')
      refine ⟨T, _, rfl, .inl (.inl upd_same), rfl, _, _, rfl, _, _, rfl, rfl, rfl, _, rfl, _, rfl, (by show 2 ≤ sizeLine; decide), fun t ht => ?_⟩
      have s2 : Same H' (upd H' T (.tup [x, .int n'])) := same_upd hT
      have s3 := s2.trans (same_upd (o := .tup [.int n', .int 1]) ht)
      refine ⟨_, _, 420 * d, n', 420 * d / n', rfl, ⟨hn5.1, by omega⟩, div_ok hn5.1 hn5.2, (fc.mono s1).mono s3, Fr.nat upd_same, fun v H4 s4 fv => ?_⟩
      have s5 := s3.trans s4
      have hD4 := s5 _ _ hD'
      refine ⟨ws, hD4, ?_, same_D (s1.trans s5) hD, ws ++ [v], upd_same, ?_⟩
      · rw [pr_len hw, List.length_take, List.length_zipWith]
        exact small_line' (by omega)
      · rw [take_snoc (zw_get hc' hn')]
        exact pr_snoc (frs_upd hD4 (frs_mono s5 hw)) (fr_upd hD4 fv)
    · rintro H' ⟨s1, ws, hD', hw⟩
      have ez : (List.zipWith (fun c n => c / n) cs ns).take us.length = List.zipWith (fun c n => c / n) cs ns := List.take_of_length_le (by rw [List.length_zipWith]; omega)
      rw [ez] at hw
      exact ⟨_, _, rfl, ⟨D, ws, rfl, .of hD', hw⟩, fun v H2 s2 fv => k v H2 (s1.trans s2) fv⟩
/-! ### fall -/
theorem scFall : FnScope ["cost", "number"] ["cost", "number"] (defScope sFall) := ⟨rfl, rfl, rfl, by decide +kernel, rfl, by decide +kernel, by decide +kernel⟩
theorem ok_fall {f : Addr} {fd : FuncData} (F : Fun K "fall" "fall" sFall f fd) (DO : Dn P w K mg base 2 "over" ["a", "b"] (spOver K)) (DM : Dn P w K mg base 2 "minus" ["a", "b"] (spBin K fun x y => x - y)) : FnOk P w K mg base CX0 3 f fd ["cost", "number"] (spFall K) := by
  refine F.ok scFall (fun vs H Q E h => ?_) (fun cdv A outer s H vs Q E hr h => ?_)
  · obtain ⟨c, d, n, rfl, _⟩ := h
    rfl
  · obtain ⟨c, d, n, rfl, hn, hc, k⟩ := h
    refine ⟨_, pss_one (ps_ret (pe_callD DM hr (by decide) (pa_cons (pe_callD DO hr (by decide) (pa_cons (pv 0) (pa_cons (pe_tup (pa_cons (pv 1) (pa_cons pe_int pa_nil))) pa_nil)) rfl)
      (pa_cons (pe_callD DO hr (by decide) (pa_cons (pv 0) (pa_cons (pe_tup (pa_cons (pe_op op_add (pv 1) pe_int) (pa_cons pe_int pa_nil))) pa_nil)) rfl) pa_nil)) rfl)), ?_⟩
    refine ⟨_, rfl, _, rfl, (by show 2 ≤ sizeLine; decide), fun t ht => ⟨_, _, 420 * d, n, 420 * d / n, rfl, ⟨hn.1, by omega⟩, div_ok hn.1 (by omega), hc.mono (same_upd ht), Fr.nat upd_same, fun v1 H1 s1 f1 => ?_⟩⟩
    have q1 := (same_upd (o := .tup [.int n, .int 1]) ht).trans s1
    refine ⟨_, rfl, _, rfl, _, _, rfl, rfl, (by show 2 ≤ sizeLine; decide), fun t2 ht2 => ⟨_, _, 420 * d, n + 1, 420 * d / (n + 1), rfl, ⟨by omega, by omega⟩, div_ok (by omega) (by omega), (hc.mono q1).mono (same_upd ht2), Fr.nat upd_same, fun v2 H2 s2 f2 => ?_⟩⟩
    have q2 := (same_upd (o := .tup [.int (n + 1), .int 1]) ht2).trans s2
    refine ⟨_, _, _, _, rfl, f1.mono q2, f2, fun v H3 s3 fv => k v H3 ((q1.trans q2).trans s3) ?_⟩
    rw [← fall_eq hn.1 hn.2]
    exact fv
/-! ### next_place -/
theorem bestUpto_succ {cs ls ns : List Int} {i : Nat} {c l n : Int} (hc : cs[i]? = some c) (hl : ls[i]? = some l) (hn : ns[i]? = some n) : bestUpto cs ls ns (i + 1) = bestStep c l n i (bestUpto cs ls ns i) := by
  show bestStep (cs.getD i 0) (ls.getD i 0) (ns.getD i 0) i (bestUpto cs ls ns i) = _
  rw [getD_of hc, getD_of hl, getD_of hn]
abbrev nNext : List Str := ["costs", "limits", "numbers", "best", "stratum", "cost", "limit", "by"]
theorem scNext : FnScope nNext ["costs", "limits", "numbers"] (defScope sNext) := ⟨rfl, rfl, rfl, by decide +kernel, rfl, by decide +kernel, by decide +kernel⟩
theorem ok_next {f : Addr} {fd : FuncData} (F : Fun K "next_place" "next_place" sNext f fd) (T : Txt K mg aN) (DF : Dn P w K mg base 3 "fall" ["cost", "number"] (spFall K)) (DL : Dn P w K mg base 1 "less" ["a", "b"] (spLess K)) : FnOk P w K mg base CX0 4 f fd ["costs", "limits", "numbers"] (spNext K) := by
  refine F.ok scNext (fun vs H Q E h => ?_) (fun cdv A outer s H vs Q E hr h => ?_)
  · obtain ⟨c, l, n, cs, ls, ns, rfl, _⟩ := h
    rfl
  · obtain ⟨c, l, n, cs, ls, ns, rfl, G, hlen, hpos, ⟨a, us, rfl, ha, hp⟩, ⟨b, rfl, hb⟩, ⟨d, rfl, hd⟩, k⟩ := h
    refine ⟨_, pss_cons (ps_set (i := 3) scNext.nd rfl (.inl rfl) pe_non)
      (pss_cons (ps_for PassesOwn.never rfl (pi_ez (by rfl) T.enum (by rfl) T.zip (pa_cons (pv 0) (pa_cons (pv 1) pa_nil)))
          (pg_tup rfl (pgs_cons (pg_name (i := 4) scNext.nd rfl (Or.inl rfl)) (pgs_cons (pg_tup rfl (pgs_cons (pg_name (i := 5) scNext.nd rfl (Or.inl rfl)) (pgs_cons (pg_name (i := 6) scNext.nd rfl (Or.inl rfl)) pgs_nil))) pgs_nil)))
        (pss_one (ps_if (pt_cmpR op_lt (pe_ix ix_list (pv 2) (pv 4) (fun _ _ => rfl)) (pv 6) (nomark _))
          (pss_cons (ps_set (i := 7) scNext.nd rfl (.inl rfl) (pe_callD DF hr (by decide) (pa_cons (pv 5) (pa_cons (pe_ix ix_list (pv 2) (pv 4) (fun _ _ => rfl)) pa_nil)) rfl))
          (pss_one (ps_if (PW.pt (pw_or (pt_cmpR op_isN (pv 3) pe_non (nomark _)) (pw_or1 (pt_val (pe_callD DL hr (by decide) (pa_cons (px 3) (pa_cons (pv 7) pa_nil)) rfl)))))
            (pss_one (ps_set (i := 3) scNext.nd rfl (.inl rfl) (pe_tup (pa_cons (pv 4) (pa_cons (pv 7) pa_nil))))) pss_nil))) pss_nil)))
      (pss_one (ps_ret (pv 3)))), ?_⟩
    have eul := pr_len hp
    refine ⟨_, rfl, _, rfl, a, b, _, _, rfl, ha, hb, for_ez (K := K) (a := a) (b := b) (xs := us) (ys := ls.map V.int) (by rw [List.length_map, eul, G.len])
      (fun i σ H' => ∃ (bv : V) (x4 x5 x6 x7 : Option V), σ = [some (.ref a), some (.ref b), some (.ref d), some bv, x4, x5, x6, x7] ∧ Same H H' ∧ OptB K H' bv (bestUpto cs ls ns i))
      ⟨_, _, _, _, _, rfl, Same.refl H, rfl⟩ (fun i σ H' ⟨_, _, _, _, _, _, s1, _⟩ => ⟨s1.seq ha, s1.seq hb⟩) ?_ ?_⟩
    · rintro i x y T1 T2 σ H' hx hy ⟨bv, x4, x5, x6, x7, rfl, s1, ob⟩ hT1 hT2 hne
      obtain ⟨c', hc', fc⟩ := pr_get hp hx
      obtain ⟨l', hl', rfl⟩ := map_get hy
      have hil : i < ls.length := (List.getElem?_eq_some_iff.mp hl').1
      have hn' : ns[i]? = some (ns.getD i 0) := getD_get (by omega)
      generalize ns.getD i 0 = n' at hn'
      have hn1 := hpos _ (List.mem_of_getElem? hn')
      have hl5 := G.l _ (List.mem_of_getElem? hl')
      obtain ⟨dd, ed⟩ := (G.c _ (List.mem_of_getElem? hc')).2
      have sT1 : Same H' (upd H' T1 (.tup [x, .int l'])) := same_upd hT1
      have hT2' : (upd H' T1 (.tup [x, .int l'])) T2 = none := by rw [upd_ne hne.symm]; exact hT2
      have sT2 := sT1.trans (same_upd (o := .tup [.int (i : Nat), .ref T1]) hT2')
      have sA := s1.trans sT2
      have hd2 := sA.seq hd
      refine ⟨T2, _, rfl, .inl (.inl upd_same), rfl, _, _, rfl, _, _, rfl, ⟨T1, _, rfl, .inl (.inl (by rw [upd_ne hne, upd_same])), rfl, _, _, rfl, _, _, rfl, rfl, rfl, ?_⟩⟩
      refine ⟨_, rfl, _, rfl, _, _, _, _, rfl, rfl, hd2, at_of rfl (get_map hn'), _, rfl, _, _, rfl, rfl, _, rfl, ?_⟩
      have ebs := bestUpto_succ hc' hl' hn'
      by_cases c1 : n' < l'
      · refine iteD1 c1 ?_
        refine ⟨_, rfl, _, rfl, _, rfl, _, _, _, _, rfl, rfl, hd2, at_of rfl (get_map hn'), ⟨_, dd, n', rfl, ⟨hn1, by omega⟩, by rw [← ed]; exact fc.mono sA, fun v H2 s2 fv => ?_⟩⟩
        rw [← ed] at fv
        have sB := sA.trans s2
        have ob2 := (ob.mono sT2).mono s2
        cases eb : bestUpto cs ls ns i with
        | none =>
          rw [eb] at ob2
          have eo : bv = .non := ob2
          subst eo
          refine ⟨_, rfl, rfl, _, rfl, ?_⟩
          refine ⟨_, rfl, _, rfl, (by show 2 ≤ sizeLine; decide), fun t ht => ?_⟩
          refine ⟨_, _, _, _, _, rfl, sB.trans (same_upd ht), ?_⟩
          rw [ebs, eb]
          unfold bestStep
          rw [if_pos c1]
          exact ⟨t, v, rfl, .inl (.inl upd_same), fv.mono (same_upd ht)⟩
        | some jv =>
          obtain ⟨j, v0⟩ := jv
          rw [eb] at ob2
          obtain ⟨p, u, rfl, hpt, fu⟩ := ob2
          refine ⟨_, rfl, rfl, _, rfl, ?_⟩
          refine ⟨_, rfl, _, _, _, _, rfl, rfl, hpt, atI_nat (j := 1) rfl, _, rfl, _, _, _, _, rfl, fu, fv, _, rfl, ?_⟩
          by_cases c2 : v0 < fall c' n'
          · refine iteD1 c2 ?_
            refine ⟨_, rfl, _, rfl, (by show 2 ≤ sizeLine; decide), fun t ht => ?_⟩
            refine ⟨_, _, _, _, _, rfl, sB.trans (same_upd ht), ?_⟩
            rw [ebs, eb]
            unfold bestStep
            rw [if_pos c1]
            simp only [if_pos c2]
            exact ⟨t, v, rfl, .inl (.inl upd_same), fv.mono (same_upd ht)⟩
          · refine iteD0 c2 ?_
            refine ⟨_, _, _, _, _, rfl, sB, ?_⟩
            rw [ebs, eb]
            unfold bestStep
            rw [if_pos c1]
            simp only [if_neg c2]
            exact ⟨p, u, rfl, hpt, fu⟩
      · refine iteD0 c1 ?_
        refine ⟨_, _, _, _, _, rfl, sA, ?_⟩
        rw [ebs]
        unfold bestStep
        rw [if_neg c1]
        exact ob.mono sT2
    · rintro σ H' ⟨bv, x4, x5, x6, x7, rfl, s1, ob⟩
      refine ⟨_, rfl, k bv H' s1 ?_⟩
      unfold best
      rw [← G.len, ← eul]
      exact ob
/-! ### least_term -/
theorem leastUpto_succ (c p : Int) (k : Nat) : leastUpto c p (k + 1) = (match leastUpto c p k with
    | none => some (c / ((k : Int) + 1) + ((k : Int) + 1) * p)
    | some b => if c / ((k : Int) + 1) + ((k : Int) + 1) * p < b then some (c / ((k : Int) + 1) + ((k : Int) + 1) * p) else some b) := rfl
abbrev nLeast : List Str := ["cost", "limit", "price", "best", "number", "term"]
theorem scLeast : FnScope nLeast ["cost", "limit", "price"] (defScope sLeast) := ⟨rfl, rfl, rfl, by decide +kernel, rfl, by decide +kernel, by decide +kernel⟩
theorem ok_least {f : Addr} {fd : FuncData} (F : Fun K "least_term" "least_term" sLeast f fd) (T : Txt K mg aN) (DP : Dn P w K mg base 2 "plus" ["a", "b"] (spBin K fun x y => x + y)) (DO : Dn P w K mg base 2 "over" ["a", "b"] (spOver K)) (DT : Dn P w K mg base 2 "times" ["a", "b"] (spTimes K))
    (DL : Dn P w K mg base 1 "less" ["a", "b"] (spLess K)) : FnOk P w K mg base CX0 3 f fd ["cost", "limit", "price"] (spLeast K) := by
  refine F.ok scLeast (fun vs H Q E h => ?_) (fun cdv A outer s H vs Q E hr h => ?_)
  · obtain ⟨c, p, d, l, y, rfl, _⟩ := h
    rfl
  · obtain ⟨c, p, d, l, y, rfl, hl, hc, hp, k⟩ := h
    refine ⟨_, pss_cons (ps_set (i := 3) scLeast.nd rfl (.inl rfl) pe_non)
      (pss_cons (ps_for PassesOwn.never rfl (pi_range2 (by rfl) T.range (pa_cons pe_int (pa_cons (pe_op op_add (pv 1) pe_int) pa_nil))) (pg_name (i := 4) scLeast.nd rfl (Or.inl rfl))
        (pss_cons (ps_set (i := 5) scLeast.nd rfl (.inl rfl) (pe_callD DP hr (by decide) (pa_cons (pe_callD DO hr (by decide) (pa_cons (pv 0) (pa_cons (pe_tup (pa_cons (pv 4) (pa_cons pe_int pa_nil))) pa_nil)) rfl)
            (pa_cons (pe_callD DT hr (by decide) (pa_cons (pe_tup (pa_cons (pv 4) (pa_cons pe_int pa_nil))) (pa_cons (pv 2) pa_nil)) rfl) pa_nil)) rfl))
          (pss_one (ps_if (PW.pt (pw_or (pt_cmpR op_isN (pv 3) pe_non (nomark _)) (pw_or1 (pt_val (pe_callD DL hr (by decide) (pa_cons (pv 5) (pa_cons (pv 3) pa_nil)) rfl)))))
            (pss_one (ps_set (i := 3) scLeast.nd rfl (.inl rfl) (pv 5))) pss_nil))))
      (pss_one (ps_ret (pv 3)))), ?_⟩
    refine ⟨_, rfl, _, _, rfl, rfl, 1, l + 1, rfl, ⟨by decide, by decide, by omega, by omega⟩, ?_⟩
    refine for_range (lo := 1) (n := (l + 1 - 1).toNat) (fun i σ H' => ∃ (bv : V) (x4 x5 : Option V), σ = [some c, some (.int l), some p, some bv, x4, x5] ∧ Same H H' ∧ OptF K H' bv (leastUpto (420 * d) y i)) ⟨_, _, _, rfl, Same.refl H, rfl⟩ ?_ ?_
    · rintro i σ H' hi ⟨bv, x4, x5, rfl, s1, ob⟩
      have hn : 1 ≤ (1 : Int) + i ∧ (1 : Int) + i ≤ 5 := ⟨by omega, by omega⟩
      have en : (1 : Int) + i = (i : Int) + 1 := by omega
      refine ⟨_, rfl, _, rfl, (by show 2 ≤ sizeLine; decide), fun t ht => ⟨_, _, 420 * d, 1 + i, 420 * d / (1 + i), rfl, ⟨by omega, by omega⟩, div_ok hn.1 hn.2, (hc.mono s1).mono (same_upd ht), Fr.nat upd_same, fun v1 H1 t1 f1 => ?_⟩⟩
      have q1 := (same_upd (o := .tup [.int (1 + i), .int 1]) ht).trans t1
      refine ⟨_, rfl, (by show 2 ≤ sizeLine; decide), fun t2 ht2 => ⟨_, rfl, _, _, 1 + i, y, rfl, ⟨by omega, by omega⟩, Fr.nat upd_same, ((hp.mono s1).mono q1).mono (same_upd ht2), fun v2 H2 t3 f2 => ?_⟩⟩
      have q2 := (same_upd (o := .tup [.int (1 + i), .int 1]) ht2).trans t3
      refine ⟨_, _, _, _, rfl, f1.mono q2, f2, fun v H3 t4 fv => ?_⟩
      have sB := (q1.trans q2).trans t4
      have ob2 := ob.mono sB
      rw [en] at fv
      cases eb : leastUpto (420 * d) y i with
      | none =>
        rw [eb] at ob2
        have eo : bv = .non := ob2
        subst eo
        refine ⟨_, rfl, rfl, _, rfl, ?_⟩
        refine ⟨_, rfl, _, _, _, rfl, s1.trans sB, ?_⟩
        rw [leastUpto_succ, eb]
        exact fv
      | some b =>
        rw [eb] at ob2
        obtain ⟨p', e', q'⟩ := id ob2
        subst e'
        refine ⟨_, rfl, rfl, _, rfl, ?_⟩
        refine ⟨_, rfl, _, rfl, _, _, _, _, rfl, fv, ob2, _, rfl, ?_⟩
        by_cases c2 : 420 * d / ((i : Int) + 1) + ((i : Int) + 1) * y < b
        · refine iteD1 c2 ?_
          refine ⟨_, rfl, _, _, _, rfl, s1.trans sB, ?_⟩
          rw [leastUpto_succ, eb]
          simp only [if_pos c2]
          exact fv
        · refine iteD0 c2 ?_
          refine ⟨_, _, _, rfl, s1.trans sB, ?_⟩
          rw [leastUpto_succ, eb]
          simp only [if_neg c2]
          exact ob2
    · rintro σ H' ⟨bv, x4, x5, rfl, s1, ob⟩
      refine ⟨_, rfl, k bv H' s1 ?_⟩
      have e0 : (l + 1 - 1).toNat = l.toNat := by omega
      rw [e0] at ob
      obtain ⟨kk, ek⟩ : ∃ kk : Nat, l.toNat = kk + 1 := ⟨l.toNat - 1, by omega⟩
      obtain ⟨v, ev, _⟩ := leastUpto_some (420 * d) y kk
      rw [ek, ev] at ob
      unfold least
      rw [ek, ev]
      exact ob
/-! ### deal_bound -/
abbrev nBound : List Str := ["costs", "limits", "places", "price", "whole", "cost", "limit"]
theorem scBound : FnScope nBound ["costs", "limits", "places", "price"] (defScope sBound) := ⟨rfl, rfl, rfl, by decide +kernel, rfl, by decide +kernel, by decide +kernel⟩
theorem ok_bound {f : Addr} {fd : FuncData} (F : Fun K "deal_bound" "deal_bound" sBound f fd) (T : Txt K mg aN) (DT : Dn P w K mg base 2 "times" ["a", "b"] (spTimes K)) (DM : Dn P w K mg base 2 "minus" ["a", "b"] (spBin K fun x y => x - y)) (DS : Dn P w K mg base 3 "sum_of" ["fractions"] (spSum K))
    (DLe : Dn P w K mg base 3 "least_term" ["cost", "limit", "price"] (spLeast K)) : FnOk P w K mg base CX0 4 f fd ["costs", "limits", "places", "price"] (spBound K) := by
  refine F.ok scBound (fun vs H Q E h => ?_) (fun cdv A outer s H vs Q E hr h => ?_)
  · obtain ⟨c, l, p, cs, ls, m, y, rfl, _⟩ := h
    rfl
  · obtain ⟨c, l, p, cs, ls, m, y, rfl, G, hm, ⟨a, us, rfl, ha, hp⟩, ⟨b, rfl, hb⟩, hpr, k⟩ := h
    refine ⟨_, pss_cons (ps_set (i := 4) scBound.nd rfl (.inl rfl) (pe_callD DS hr (by decide) (pa_cons (pe_lc (own := [("cost", 5), ("limit", 6)]) (g := gTup K 2 (gCons (gName 5) (gCons (gName 6) gNil))) (tt := tYes)
        (te := tCall (spLeast K) [] E0 (tCons (tVar 5) (tCons (tVar 6) (tCons (tVar 3) tNil)))) rfl scBound.nd
        (pi_zip (by rfl) T.zip (pa_cons (pv 0) (pa_cons (pv 1) pa_nil)))
        (blkOk_by (N := nBound) (sc := defScope sBound) (by decide +kernel)) (fun _ _ _ _ _ => pg_tup rfl (pgs_cons (pg_name (i := 5) scBound.nd rfl (Or.inl rfl)) (pgs_cons (pg_name (i := 6) scBound.nd rfl (Or.inl rfl)) pgs_nil))) (fun _ _ _ _ _ => pts_nil)
        (fun _ _ _ _ _ => pe_callD DLe hr (by decide) (pa_cons (pv 5) (pa_cons (pv 6) (pa_cons (pv 3) pa_nil))) rfl)) pa_nil) rfl))
      (pss_one (ps_ret (pe_callD DM hr (by decide) (pa_cons (pv 4) (pa_cons (pe_callD DT hr (by decide) (pa_cons (pe_tup (pa_cons (pv 2) (pa_cons pe_int pa_nil))) (pa_cons (pv 3) pa_nil)) rfl) pa_nil)) rfl))), ?_⟩
    have eul := pr_len hp
    refine ⟨_, rfl, _, rfl, a, b, _, _, rfl, ha, hb, fun D hD => ?_⟩
    refine lc_zip (xs := us) (ys := ls.map V.int) (by rw [List.length_map, eul, G.len]) (fun i H' => Same H H' ∧ ∃ ws, H' D = some (.lst ws) ∧ Paired (Fr K H') ws ((List.zipWith (fun c l => least c y l) cs ls).take i)) ⟨same_upd hD, _, upd_same, .nil⟩ (fun i H' hp => ⟨hp.1.seq ha, hp.1.seq hb⟩) ?_ ?_
    · rintro i x z T H' hx hz ⟨s1, ws, hD', hw⟩ hT
      obtain ⟨c', hc', fc⟩ := pr_get hp hx
      obtain ⟨l', hl', rfl⟩ := map_get hz
      obtain ⟨d, rfl⟩ := (G.c _ (List.mem_of_getElem? hc')).2
      have hl5 := G.l _ (List.mem_of_getElem? hl')
      have s2 : Same H' (upd H' T (.tup [x, .int l'])) := same_upd hT
      refine ⟨T, _, rfl, .inl (.inl upd_same), rfl, _, _, rfl, _, _, rfl, rfl, rfl, _, rfl, _, rfl, _, rfl, ?_⟩
      refine ⟨_, _, d, l', y, rfl, hl5, (fc.mono s1).mono s2, (hpr.mono s1).mono s2, fun v H4 s4 fv => ?_⟩
      have s5 := s2.trans s4
      have hD4 := s5 _ _ hD'
      refine ⟨ws, hD4, ?_, same_D (s1.trans s5) hD, ws ++ [v], upd_same, ?_⟩
      · have := G.hi
        rw [pr_len hw, List.length_take, List.length_zipWith]
        exact small_line' (by omega)
      · rw [take_snoc (zw_get hc' hl')]
        exact pr_snoc (frs_upd hD4 (frs_mono s5 hw)) (fr_upd hD4 fv)
    · rintro H' ⟨s1, ws, hD', hw⟩
      have ez : (List.zipWith (fun c l => least c y l) cs ls).take us.length = List.zipWith (fun c l => least c y l) cs ls := List.take_of_length_le (by rw [List.length_zipWith]; omega)
      rw [ez] at hw
      refine ⟨_, _, rfl, ⟨D, ws, rfl, .of hD', hw⟩, fun v H2 s2 fv => ?_⟩
      have sA := s1.trans s2
      refine ⟨_, rfl, _, rfl, (by show 2 ≤ sizeLine; decide), fun t ht => ⟨_, rfl, _, _, m, y, rfl, ⟨by omega, by omega⟩, Fr.nat upd_same, (hpr.mono sA).mono (same_upd ht), fun v2 H3 s3 f2 => ?_⟩⟩
      have sB := (same_upd (o := .tup [.int m, .int 1]) ht).trans s3
      exact ⟨_, _, _, _, rfl, fv.mono sB, f2, fun v3 H4 s4 f3 => k v3 H4 ((sA.trans sB).trans s4) f3⟩
end
end K54

namespace K54
open PySem PySem.Spec PyProof.Rows L2
/-- what the top has written of the errors -/
structure TxtE (K : PySem.W.Frag) (mg : Str → Option Value) (ND SE : Addr) : Prop where
  gND : mg "NoDeal" = some (.ref ND)
  xND : PySem.W.excIn K ND [.type "ValueError", .type "Exception", .type "BaseException", .type "object"] "ValueError.__new__" = true
  kND : PySem.W.keepIn K (.ref ND) = true
  bND : PySem.W.subIn K (.ref ND) (.type "BaseException") = some true
  tND : PySem.W.typeIn K (.ref ND) = some (.type "type")
  eND : PySem.W.exmOne K (.ref ND) (.ref ND) = some true
  gSE : mg "SamphireError" = some (.ref SE)
section
variable {P : Program} {w : World} {K : PySem.W.Frag} {mg : Str → Option Value} {base : Heap} {aN ND SE : Addr}
/-! ### _law_mix -/
theorem pos1 : (0 : Int) < 1000003 := by decide
theorem pos2 : (0 : Int) < 1000033 := by decide
theorem pos3 : (0 : Int) < 998244353 := by decide
theorem pos4 : (0 : Int) < 840 := by decide
theorem scMix : FnScope ["_law_number", "_law_k"] ["_law_number", "_law_k"] (defScope sMix) := ⟨rfl, rfl, rfl, by decide +kernel, rfl, by decide +kernel, by decide +kernel⟩
theorem ok_mix {f : Addr} {fd : FuncData} (F : Fun K "_law_mix" "_law_mix" sMix f fd) (T : Txt K mg aN) : FnOk P w K mg base CX0 1 f fd ["_law_number", "_law_k"] spMix := by
  refine F.ok scMix (fun vs H Q E h => ?_) (fun cdv A outer s H vs Q E hr h => ?_)
  · obtain ⟨n, k, rfl, _⟩ := h
    rfl
  · obtain ⟨n, k, rfl, hk, q⟩ := h
    refine ⟨_, pss_one (ps_ret (pe_op op_mod (pe_op op_mul (pe_op op_mod (pe_callTy call_int1 (by rfl) T.int (by decide +kernel) (pa_cons (pe_op op_mul (pe_op op_add (pe_op op_add
      (pe_op op_mod (pe_callTy call_int1 (by rfl) T.int (by decide +kernel) (pa_cons (pv 0) pa_nil)) pe_int) (pe_op op_mul pe_int (pv 1))) pe_int) pe_int) pa_nil)) pe_int) pe_int) pe_int)), ?_⟩
    refine ⟨_, rfl, .inl ⟨_, rfl, _, _, rfl, rfl, pos1, _, rfl, _, _, rfl, rfl, .inl (by decide), _, _, rfl, rfl, _, _, rfl, rfl, _, _, rfl, rfl, .inr (by decide), .inl ⟨_, rfl, _, _, rfl, rfl, pos2, _, _, rfl, rfl, .inr (by decide), _, _, rfl, rfl, pos3, q _⟩⟩⟩
/-! ### _law_take -/
theorem scTake : FnScope ["_law_row", "_law_bound_here"] ["_law_row", "_law_bound_here"] (defScope sTake) := ⟨rfl, rfl, rfl, by decide +kernel, rfl, by decide +kernel, by decide +kernel⟩
theorem last_map {rs : List Int} (h : rs ≠ []) : (rs.map V.int)[(rs.map V.int).length - 1]? = some (V.int (rs.getLast h)) := by
  rw [List.length_map, List.getElem?_map, ← List.getLast?_eq_getElem?, List.getLast?_eq_getLast h]
  rfl
theorem ok_take {f : Addr} {fd : FuncData} (F : Fun K "_law_take" "_law_take" sTake f fd) (T : Txt K mg aN) : FnOk P w K mg base CX0 1 f fd ["_law_row", "_law_bound_here"] spTake := by
  refine F.ok scTake (fun vs H Q E h => ?_) (fun cdv A outer s H vs Q E hr h => ?_)
  · obtain ⟨a, rs, b, rfl, _⟩ := h
    rfl
  · obtain ⟨a, rs, b, rfl, hb, ha, k⟩ := h
    refine ⟨_, pss_cons (ps_if (pt_not (pt_truth (pv 0) (by intro _; rfl))) (pss_one (ps_ret pe_int)) pss_nil)
      (pss_one (ps_ret (pe_op op_mod (pe_callTy call_int1 (by rfl) T.int (by decide +kernel) (pa_cons (pe_bm0 PySem.F.plainAttrs_list PySem.F.slot_list_pop PySem.F.type_list_pop mt_pop (pv 0)) pa_nil)) (pv 1)))), ?_⟩
    by_cases e : rs = []
    · subst e
      refine ⟨_, rfl, false, .inl ⟨_, .of ha, rfl⟩, ?_⟩
      exact k 0 [] H (Int.le_refl _) hb (fun _ _ => rfl) ha
    · refine ⟨_, rfl, true, .inl ⟨_, .of ha, ?_⟩, ?_⟩
      · cases rs with
        | nil => exact absurd rfl e
        | cons x r => rfl
      · refine ⟨_, rfl, .inl ⟨rfl, _, .inl (.inl ha)⟩, a, _, _, rfl, rfl, ha, last_map e, .inl ⟨_, rfl, _, rfl, _, _, rfl, rfl, hb, ?_⟩⟩
        refine k _ rs.dropLast _ (Int.emod_nonneg _ (by omega)) (Int.emod_lt_of_pos _ hb) (fun c hc => upd_ne hc) ?_
        rw [upd_same, List.map_dropLast]
/-! ### _law_numbers -/
abbrev nNums : List Str := ["_law_script", "_law_count", "_law_row", "_law_base", "_law_cell", "_law_rest", "_law_k"]
theorem scNums : FnScope nNums ["_law_script", "_law_count"] (defScope sNums) := ⟨rfl, rfl, rfl, by decide +kernel, rfl, by decide +kernel, by decide +kernel⟩
theorem cut_ints {ns : List Int} {lo hi : Option Int} {i : Nat} {x : V} (h : (cutV (ns.map V.int) lo hi)[i]? = some x) : ∃ z, x = V.int z := by
  have m : x ∈ cutV (ns.map V.int) lo hi := List.mem_of_getElem? h
  unfold cutV at m
  have m2 := List.mem_of_mem_drop (List.mem_of_mem_take m)
  rw [List.mem_map] at m2
  obtain ⟨z, _, e⟩ := m2
  exact ⟨z, e.symm⟩
theorem ok_nums {f : Addr} {fd : FuncData} (F : Fun K "_law_numbers" "_law_numbers" sNums f fd) (T : Txt K mg aN) (DM : Dn P w K mg base 1 "_law_mix" ["_law_number", "_law_k"] spMix) : FnOk P w K mg base CX0 2 f fd ["_law_script", "_law_count"] (spNums K) := by
  refine F.ok scNums (fun vs H Q E h => ?_) (fun cdv A outer s H vs Q E hr h => ?_)
  · obtain ⟨sc, ns, rfl, _⟩ := h
    rfl
  · obtain ⟨sc, ns, rfl, hlen, ⟨a, rfl, ha⟩, k⟩ := h
    refine ⟨_, pss_cons (ps_set (i := 2) scNums.nd rfl (.inl rfl) (pe_lst pa_nil))
      (pss_cons (ps_set (i := 3) scNums.nd rfl (.inl rfl) pe_int)
      (pss_cons (ps_for PassesOwn.never rfl (pi_list (pe_slice sl_list (pv 0) po_none (po_some pe_int))) (pg_name (i := 4) scNums.nd rfl (Or.inl rfl))
        (pss_cons (ps_set (i := 3) scNums.nd rfl (.inl rfl) (pe_op op_add (pv 3) (pv 4)))
        (pss_one (ps_if (pt_cmpR op_ge (pv 4) pe_int (nomark _))
          (pss_cons (ps_set (i := 5) scNums.nd rfl (.inl rfl) (pv 4))
          (pss_one (ps_for PassesOwn.never rfl (pi_range1 (by rfl) T.range (pa_cons pe_int pa_nil)) (pg_name (i := 6) scNums.nd rfl (Or.inl rfl))
            (pss_cons (ps_expr (pe_bm PySem.F.plainAttrs_list PySem.F.slot_list_append PySem.F.type_list_append mt_append (pv 2) (pa_cons (pe_op op_mod (pe_callTy call_int1 (by rfl) T.int (by decide +kernel) (pa_cons (pv 5) pa_nil)) pe_int) pa_nil)))
            (pss_cons (ps_set (i := 5) scNums.nd rfl (.inl rfl) (pe_op op_fdiv (pv 5) pe_int))
            (pss_one (ps_if (pt_cmpR op_eq (pv 5) pe_int (nomark _)) (pss_one ps_break) pss_nil)))))))
          (pss_one (ps_expr (pe_bm PySem.F.plainAttrs_list PySem.F.slot_list_append PySem.F.type_list_append mt_append (pv 2) (pa_cons (pe_callD DM hr (by decide) (pa_cons (pe_callD DM hr (by decide) (pa_cons (pv 4) (pa_cons pe_int pa_nil)) rfl) (pa_cons pe_int pa_nil)) rfl) pa_nil))))))))
      (pss_cons (ps_for PassesOwn.never rfl (pi_range1 (by rfl) T.range (pa_cons (pv 1) pa_nil)) (pg_name (i := 6) scNums.nd rfl (Or.inl rfl))
        (pss_one (ps_expr (pe_bm PySem.F.plainAttrs_list PySem.F.slot_list_append PySem.F.type_list_append mt_append (pv 2) (pa_cons (pe_callD DM hr (by decide) (pa_cons (pe_callD DM hr (by decide) (pa_cons (pe_op op_add (pv 3) (pe_op op_mul pe_int (pv 6))) (pa_cons (pe_op op_add pe_int (pv 6)) pa_nil)) rfl) (pa_cons pe_int pa_nil)) rfl) pa_nil)))))
      (pss_cons (ps_expr (pe_bm0 PySem.F.plainAttrs_list PySem.F.slot_list_reverse PySem.F.type_list_reverse mt_reverse (pv 2)))
      (pss_one (ps_ret (pv 2))))))), ?_⟩
    -- row = []; base = 0
    refine ⟨Nat.zero_le _, fun r hr0 => ?_⟩
    have s0 : Same H (upd H r (.lst [])) := same_upd hr0
    -- script[:63]
    refine ⟨_, rfl, _, rfl, a, _, rfl, s0.seq ha, fun c hc => ?_⟩
    have ncr : c ≠ r := fun e => by
      rw [e, upd_same] at hc
      cases hc
    have s1 : Same H (upd (upd H r (.lst [])) c (.lst (cutV (ns.map V.int) none (some 63)))) := s0.trans (same_upd hc)
    have hcl : (cutV (ns.map V.int) none (some 63)).length ≤ 63 := by
      have := cutV_length (ns.map V.int) none (some 63)
      rw [List.length_map] at this
      omega
    refine ⟨c, rfl, ⟨_, .of upd_same⟩, ?_⟩
    generalize hX : cutV (ns.map V.int) none (some 63) = X at *
    refine for_list (K := K) (a := c) (xs := X) (fun i σ H' => ∃ (bs : Int) (x4 x5 x6 : Option V) (rs : List Int), σ = [some (.ref a), some (.int 110), some (.ref r), some (.int bs), x4, x5, x6] ∧ Same H H' ∧ H' r = some (.lst (rs.map V.int)) ∧ H' c = some (.lst X) ∧ rs.length ≤ 60 * i)
      ⟨0, _, _, _, [], rfl, s1, by rw [upd_ne ncr.symm, upd_same]; rfl, upd_same, by simp⟩ (fun i σ H' _ ⟨_, _, _, _, _, _, _, _, hc', _⟩ => .of hc') ?_ ?_
    · rintro i x σ H' hx ⟨bs, x4, x5, x6, rs, rfl, sH, hr', hc', hrl⟩
      have hi : i < 63 := by
        have := (List.getElem?_eq_some_iff.mp hx).1
        omega
      obtain ⟨z, rfl⟩ : ∃ z, x = V.int z := by
        rw [← hX] at hx
        exact cut_ints hx
      refine ⟨_, rfl, _, rfl, _, _, rfl, rfl, ?_⟩
      refine ⟨_, rfl, _, _, rfl, rfl, _, rfl, ?_⟩
      by_cases c1 : (1000000000000000000 : Int) ≤ z
      · refine iteD1 c1 ?_
        refine ⟨_, rfl, 60, rfl, by decide, by decide, ?_⟩
        refine for_range (lo := 0) (n := 60) (fun j σ H' => ∃ (q : Int) (x6 : Option V) (rs : List Int), σ = [some (.ref a), some (.int 110), some (.ref r), some (.int (bs + z)), some (.int z), some (.int q), x6] ∧ Same H H' ∧ H' r = some (.lst (rs.map V.int)) ∧ H' c = some (.lst X) ∧ rs.length ≤ 60 * i + j)
          ⟨z, _, rs, rfl, sH, hr', hc', by omega⟩ ?_ ?_
        · rintro j σ H2 hj ⟨q, x6, rs2, rfl, sH2, hr2, hc2, hrl2⟩
          refine ⟨_, rfl, .inl ⟨rfl, _, .inl (.inl hr2)⟩, _, rfl, .inl ⟨_, rfl, _, _, rfl, rfl, pos4, r, _, _, rfl, rfl, hr2, ?_, ?_⟩⟩
          · rw [List.length_map]
            exact small_line' (by omega)
          · refine ⟨_, rfl, _, _, rfl, rfl, ⟨by decide, by decide⟩, ?_⟩
            refine ⟨_, rfl, rfl, _, rfl, ?_⟩
            have sH3 : Same H (upd H2 r (.lst (rs2.map V.int ++ [.int (q % 840)]))) := same_D sH2 hr0
            have hr3 : (upd H2 r (.lst (rs2.map V.int ++ [.int (q % 840)]))) r = some (.lst ((rs2 ++ [q % 840]).map V.int)) := by
              rw [upd_same, List.map_append]
              rfl
            have hc3 : (upd H2 r (.lst (rs2.map V.int ++ [.int (q % 840)]))) c = some (.lst X) := by
              rw [upd_ne ncr]
              exact hc2
            refine ite2 (fun e => ?_) (fun e => ?_)
            · exact ⟨_, _, _, _, rs2 ++ [q % 840], rfl, sH3, hr3, hc3, by rw [List.length_append]; simp; omega⟩
            · exact ⟨_, _, rs2 ++ [q % 840], rfl, sH3, hr3, hc3, by rw [List.length_append]; simp; omega⟩
        · rintro σ H2 ⟨q, x6, rs2, rfl, sH2, hr2, hc2, hrl2⟩
          exact ⟨_, _, _, _, rs2, rfl, sH2, hr2, hc2, by omega⟩
      · refine iteD0 c1 ?_
        refine ⟨_, rfl, .inl ⟨rfl, _, .inl (.inl hr')⟩, _, rfl, _, _, rfl, ⟨by decide, by decide⟩, fun r1 => ⟨_, _, rfl, ⟨by decide, by decide⟩, fun r2 => ?_⟩⟩
        refine ⟨r, _, _, rfl, rfl, hr', ?_, ?_⟩
        · rw [List.length_map]
          exact small_line' (by omega)
        · refine ⟨_, _, _, _, rs ++ [r2], rfl, same_D sH hr0, ?_, ?_, by rw [List.length_append]; simp; omega⟩
          · rw [upd_same, List.map_append]
            rfl
          · rw [upd_ne ncr]
            exact hc'
    · rintro σ H' ⟨bs, x4, x5, x6, rs, rfl, sH, hr', hc', hrl⟩
      refine ⟨_, rfl, 110, rfl, by decide, by decide, ?_⟩
      refine for_range (lo := 0) (n := 110) (fun j σ H' => ∃ (x4 x5 x6 : Option V) (rs : List Int), σ = [some (.ref a), some (.int 110), some (.ref r), some (.int bs), x4, x5, x6] ∧ Same H H' ∧ H' r = some (.lst (rs.map V.int)) ∧ rs.length ≤ 3780 + j)
        ⟨_, _, _, rs, rfl, sH, hr', by omega⟩ ?_ ?_
      · rintro j σ H2 hj ⟨x4, x5, x6, rs2, rfl, sH2, hr2, hrl2⟩
        refine ⟨_, rfl, .inl ⟨rfl, _, .inl (.inl hr2)⟩, _, rfl, _, rfl, _, _, rfl, rfl, .inl (by decide), _, _, rfl, rfl, _, rfl, _, _, rfl, rfl, _, _, rfl, ⟨by omega, by omega⟩, fun r1 => ⟨_, _, rfl, ⟨by decide, by decide⟩, fun r2 => ?_⟩⟩
        refine ⟨r, _, _, rfl, rfl, hr2, ?_, ?_⟩
        · rw [List.length_map]
          exact small_line' (by omega)
        · refine ⟨_, _, _, rs2 ++ [r2], rfl, same_D sH2 hr0, ?_, by rw [List.length_append]; simp; omega⟩
          rw [upd_same, List.map_append]
          rfl
      · rintro σ H2 ⟨x4, x5, x6, rs2, rfl, sH2, hr2, hrl2⟩
        refine ⟨_, rfl, .inl ⟨rfl, _, .inl (.inl hr2)⟩, r, _, rfl, rfl, hr2, ?_⟩
        refine ⟨_, rfl, k r rs2.reverse _ (same_D sH2 hr0) hr0 ?_⟩
        rw [upd_same, List.map_reverse]
end
end K54

namespace K54
open PySem PySem.Spec PyProof.Rows L2
section
variable {P : Program} {w : World} {K : PySem.W.Frag} {mg : Str → Option Value} {base : Heap} {aN ND SE : Addr}
/-! ### deal -/
theorem rep_ones (n : Nat) : (List.replicate n [V.int 1]).flatten = (List.replicate n (1 : Int)).map V.int := by
  induction n with
  | zero => rfl
  | succ n ih =>
    rw [List.replicate_succ, List.flatten_cons, ih, List.replicate_succ, List.map_cons]
    rfl
theorem dealN_succ {cs ls : List Int} {i k : Nat} {v : Int} (e : best cs ls (dealN cs ls i).1 = some (k, v)) : dealN cs ls (i + 1) = ((dealN cs ls i).1.set k ((dealN cs ls i).1.getD k 0 + 1), v) := by
  show stepDeal cs ls (dealN cs ls i) = _
  unfold stepDeal
  rw [e]
theorem price0_none {cs ls : List Int} (e : best cs ls (ones ls) = none) : price0 cs ls = 0 := by
  unfold price0
  rw [e]
theorem price0_some {cs ls : List Int} {k : Nat} {v : Int} (e : best cs ls (ones ls) = some (k, v)) : price0 cs ls = v := by
  unfold price0
  rw [e]
theorem all_ge {ns : List Int} {n : Nat} (hl : ns.length = n) (h : ∀ j, j < n → 1 ≤ ns.getD j 0) : ∀ y ∈ ns, 1 ≤ y := fun y hy => by
  obtain ⟨i, hi⟩ := List.getElem?_of_mem hy
  have := h i (by have := (List.getElem?_eq_some_iff.mp hi).1; omega)
  rw [getD_of hi] at this
  exact this
theorem sum5 : ∀ {ls : List Int}, (∀ l ∈ ls, l ≤ 5) → ls.sum ≤ 5 * ls.length
  | [], _ => by simp
  | x :: r, h => by
    have ih := sum5 (ls := r) fun l hl => h l (List.mem_cons_of_mem _ hl)
    have hx := h x List.mem_cons_self
    rw [List.sum_cons, List.length_cons]
    omega
theorem Good.sum20 {cs ls : List Int} (G : Good cs ls) : ls.sum ≤ 20 := by
  have := sum5 (ls := ls) fun l hl => (G.l l hl).2
  have := G.hi
  omega
abbrev nDeal : List Str := ["costs", "limits", "places", "numbers", "chosen", "price", "_", "stratum"]
theorem scDeal : FnScope nDeal ["costs", "limits", "places"] (defScope sDeal) := ⟨rfl, rfl, rfl, by decide +kernel, rfl, by decide +kernel, by decide +kernel⟩
theorem ok_deal {f : Addr} {fd : FuncData} (F : Fun K "deal" "deal" sDeal f fd) (T : Txt K mg aN) (TE : TxtE K mg ND SE) (DN : Dn P w K mg base 4 "next_place" ["costs", "limits", "numbers"] (spNext K)) : FnOk P w K mg base (L2.CX P w) 5 f fd ["costs", "limits", "places"] (spDeal K ND) := by
  refine F.okX scDeal (fun vs H Q E h => ?_) (fun cdv A outer s H vs Q E hr h => ?_)
  · obtain ⟨c, l, cs, ls, m, rfl, _⟩ := h
    rfl
  · obtain ⟨c, l, cs, ls, m, rfl, G, ⟨a, us, rfl, ha, hp⟩, ⟨b, rfl, hb⟩, k1, k2⟩ := h
    have fC : FrL K H (.ref a) cs := ⟨a, us, rfl, ha, hp⟩
    have fL : IL K H (.ref b) ls := ⟨b, rfl, hb⟩
    refine ⟨_, pss_cons (ps_if (pt_not (pt_chain op_le op_le (pe_callB call_len_seq (by rfl) T.len PySem.boot_len (pa_cons (pv 1) pa_nil)) (pv 2) (pe_callB (cr_sum rfl) (by rfl) T.sum (by decide +kernel) (pa_cons (pv 1) pa_nil))))
        (pss_one (ps_raise rfl (takes_of rfl rfl rfl rfl) (pmk_own0 PySem.F.excBase_ValueError TE.xND TE.gND TE.kND (raises_own TE.bND TE.tND) rfl))) pss_nil)
      (PSs.nox (pss_cons (ps_set (i := 3) scDeal.nd rfl (.inl rfl) (pe_op op_rep (pe_lst (pa_cons pe_int pa_nil)) (pe_callB call_len_seq (by rfl) T.len PySem.boot_len (pa_cons (pv 1) pa_nil))))
      (pss_cons (ps_set (i := 4) scDeal.nd rfl (.inl rfl) (pe_callD DN hr (by decide) (pa_cons (pv 0) (pa_cons (pv 1) (pa_cons (pv 3) pa_nil))) rfl))
      (pss_cons (ps_set (i := 5) scDeal.nd rfl (.inl rfl) (pe_ifExp (pt_cmpR op_isN (pv 4) pe_non (nomark _)) (pe_tup (pa_cons pe_int (pa_cons pe_int pa_nil))) (px 4)))
      (pss_cons (ps_for PassesOwn.never rfl (pi_range1 (by rfl) T.range (pa_cons (pe_op op_sub (pv 2) (pe_callB call_len_seq (by rfl) T.len PySem.boot_len (pa_cons (pv 1) pa_nil))) pa_nil)) (pg_name (i := 6) scDeal.nd rfl (Or.inl rfl))
        (pss_cons (ps_asg (pe_callD DN hr (by decide) (pa_cons (pv 0) (pa_cons (pv 1) (pa_cons (pv 3) pa_nil))) rfl) (pg_tup rfl (pgs_cons (pg_name (i := 7) scDeal.nd rfl (Or.inl rfl)) (pgs_cons (pg_name (i := 5) scDeal.nd rfl (Or.inl rfl)) pgs_nil))))
        (pss_one (ps_augS (pv 3) (pv 7) get_list pe_int ip_add set_list))))
      (pss_one (ps_ret (pe_tup (pa_cons (pv 3) (pa_cons (pv 5) pa_nil)))))))))), ?_⟩
    have h4 := G.hi
    have h1 := G.lo
    have h20 := G.sum20
    refine ⟨_, rfl, _, _, rfl, .inl hb, _, rfl, _, _, rfl, rfl, _, rfl, ?_⟩
    by_cases c1 : (((ls.map V.int).length : Nat) : Int) ≤ m
    · refine iteD1 c1 ?_
      refine ⟨_, rfl, b, ls, rfl, hb, _, _, rfl, rfl, _, rfl, ?_⟩
      rw [List.length_map] at c1
      by_cases c2 : m ≤ ls.sum
      · refine iteNS c2 ?_
        have k := k1 ⟨c1, c2⟩
        clear k1 k2
        -- numbers = [1] * len(limits)
        refine ⟨by show 1 ≤ sizeLine; decide, fun q hq => ⟨_, rfl, _, _, rfl, .inl ((same_upd hq).seq hb), q, _, _, rfl, rfl, upd_same, by omega, ?_, ?_, fun n hn => ?_⟩⟩
        · rw [List.length_map]; omega
        · rw [List.length_map]
          exact small_line (by simp; omega)
        have eno : (List.replicate (((ls.map V.int).length : Nat) : Int).toNat [V.int 1]).flatten = (ones ls).map V.int := by
          rw [Int.toNat_natCast, List.length_map, rep_ones]
          rfl
        rw [eno]
        have sA : Same H (upd (upd H q (.lst [.int 1])) n (.lst ((ones ls).map V.int))) := (same_upd hq).trans (same_upd hn)
        have hnH : H n = none := (same_upd hq).free hn
        -- chosen, price
        refine ⟨_, rfl, _, rfl, _, rfl, _, _, _, cs, ls, ones ls, rfl, G, ones_len ls, all_ge (ones_len ls) fun j hj => (by rw [ones_get hj]; exact Int.le_refl _), fC.mono sA, fL.mono sA, ⟨n, rfl, .of upd_same⟩, fun ch H1 s1 ob => ?_⟩
        have sB := sA.trans s1
        have hn1 : H1 n = some (.lst ((ones ls).map V.int)) := s1 _ _ upd_same
        have loop : ∀ (pv : V) (H2 : Hp), Same H H2 → H2 n = some (.lst ((ones ls).map V.int)) → Fr K H2 pv (price0 cs ls) →
            tSeq (tFor (iRng1 (tCons (tOp (rI0 fun i j => .int (i - j)) (tVar 2) (tCB (fun xs H Q => ∃ p ys, xs = [.ref p] ∧ (SqL K H p ys ∨ SqT K H p ys) ∧ Q (.int ys.length) H) (tCons (tVar 1) tNil))) tNil)) (gName 6)
              (tSeq (tAsg (tCall (spNext K) [] E0 (tCons (tVar 0) (tCons (tVar 1) (tCons (tVar 3) tNil)))) (gTup K 2 (gCons (gName 7) (gCons (gName 5) gNil))))
                (tAugS (tVar 3) (tVar 7) (tC (.int 1)) (rGetL K) (ipI fun i j => i + j) rSetL))) (tRet (tTup (tCons (tVar 3) (tCons (tVar 5) tNil))))
              { nx := fun _ H' => Q .non H', rt := Q } [some (.ref a), some (.ref b), some (.int m), some (.ref n), some ch, some pv, none, none] H2 := by
          intro pv H2 s2 hn2 fp
          refine ⟨_, rfl, _, rfl, _, _, rfl, .inl (s2.seq hb), _, _, rfl, rfl, m - ls.length, ?_, by omega, by omega, ?_⟩
          · rw [List.length_map]
          refine for_range (lo := 0) (n := (m - ls.length).toNat) (fun i σ H' => ∃ (pv : V) (x6 x7 : Option V), σ = [some (.ref a), some (.ref b), some (.int m), some (.ref n), some ch, some pv, x6, x7] ∧ Same H H' ∧ H' n = some (.lst ((dealN cs ls i).1.map V.int)) ∧ Fr K H' pv (dealN cs ls i).2)
            ⟨pv, _, _, rfl, s2, hn2, fp⟩ ?_ ?_
          · rintro i σ H' hi ⟨pv, x6, x7, rfl, sH, hn', fp'⟩
            have DI := deal_inv G i (by omega)
            have I := DI.1
            obtain ⟨kk, v, eb, hk⟩ := DI.2.2 (by omega)
            clear DI
            refine ⟨_, rfl, _, rfl, _, rfl, _, _, _, cs, ls, (dealN cs ls i).1, rfl, G, I.len, all_ge I.len fun j hj => (I.at_ j hj).1, fC.mono sH, fL.mono sH, ⟨n, rfl, .of hn'⟩, fun bv H3 s3 ob3 => ?_⟩
            rw [eb] at ob3
            obtain ⟨p, u, rfl, hpt, fu⟩ := ob3
            have hn3 := s3 _ _ hn'
            have sH3 := sH.trans s3
            have hkl : kk < (dealN cs ls i).1.length := by rw [I.len]; exact hk
            refine ⟨p, _, rfl, hpt, rfl, _, _, rfl, _, _, rfl, rfl, ?_⟩
            refine ⟨_, rfl, _, rfl, n, _, _, V.int ((dealN cs ls i).1.getD kk 0), rfl, rfl, .of hn3, by omega, by omega, ?_, (dealN cs ls i).1.getD kk 0, 1, rfl, rfl, n, _, _, kk, rfl, rfl, hn3, ?_, ?_⟩
            · rw [Int.toNat_natCast]
              exact get_map (getD_get hkl)
            · have h3 : (((dealN cs ls i).1.map V.int).length) = (dealN cs ls i).1.length := List.length_map _
              unfold ixN
              rw [if_pos (by omega), if_pos (by rw [h3]; omega), Int.toNat_natCast]
            · refine ⟨u, _, _, rfl, same_D sH3 hnH, ?_, ?_⟩
              · rw [upd_same, dealN_succ eb, List.map_set]
              · rw [dealN_succ eb]
                exact fr_upd hn3 fu
          · rintro σ H' ⟨pv, x6, x7, rfl, sH, hn', fp'⟩
            refine ⟨_, rfl, _, rfl, (by show 2 ≤ sizeLine; decide), fun t ht => ?_⟩
            have sT : Same H' (upd H' t (.tup [.ref n, pv])) := same_upd ht
            exact k _ _ (sH.trans sT) ⟨t, n, pv, rfl, upd_same, sT _ _ hn', fp'.mono sT⟩
        cases eb : best cs ls (ones ls) with
        | none =>
          rw [eb] at ob
          have eo : ch = .non := ob
          subst eo
          refine ⟨_, rfl, rfl, _, rfl, (by show 2 ≤ sizeLine; decide), fun t ht => ?_⟩
          have sT : Same H1 (upd H1 t (.tup [.int 0, .int 1])) := same_upd ht
          exact loop _ _ (sB.trans sT) (sT _ _ hn1) (by rw [price0_none eb]; exact Fr.of upd_same num0.1.symm num0.2.symm)
        | some kv =>
          obtain ⟨kk, v⟩ := kv
          rw [eb] at ob
          obtain ⟨p, u, rfl, hpt, fu⟩ := ob
          refine ⟨_, rfl, rfl, _, rfl, _, rfl, _, _, _, _, rfl, rfl, hpt, atI_nat (j := 1) rfl, ?_⟩
          exact loop _ _ sB hn1 (by rw [price0_some eb]; exact fu)
      · refine iteN1 c2 ?_
        exact k2 fun q => c2 q.2
    · refine iteD0 c1 ?_
      rw [List.length_map] at c1
      exact ⟨_, rfl, k2 fun q => c1 q.1⟩
end
end K54

namespace K54
open PySem PySem.Spec PyProof.Rows L2
section
variable {P : Program} {w : World} {K : PySem.W.Frag} {mg : Str → Option Value} {base : Heap} {aN ND SE : Addr}
/-! ### _law_variance -/
theorem zi (i : Nat) : (0 : Int) + (i : Int) = (i : Int) := by omega
theorem scLVar : FnScope ["_law_costs", "_law_numbers_here", "_law_found", "_law_k"] ["_law_costs", "_law_numbers_here"] (defScope sLVar) := ⟨rfl, rfl, rfl, by decide +kernel, rfl, by decide +kernel, by decide +kernel⟩
theorem ok_lvar {f : Addr} {fd : FuncData} (F : Fun K "_law_variance" "_law_variance" sLVar f fd) (T : Txt K mg aN) (DP : Dn P w K mg base 2 "_law_plus" ["_law_one", "_law_other"] (spBin K fun x y => x + y)) (DL : Dn P w K mg base 1 "_law_low" ["_law_p", "_law_q"] (spLow K)) :
    FnOk P w K mg base CX0 3 f fd ["_law_costs", "_law_numbers_here"] (spVar K) := by
  refine F.ok scLVar (fun vs H Q E h => ?_) (fun cdv A outer s H vs Q E hr h => ?_)
  · obtain ⟨c, n, cs, ns, rfl, _⟩ := h
    rfl
  · obtain ⟨c, n, cs, ns, rfl, hlen, hz, hc, hn, ⟨a, us, rfl, ha, hp⟩, ⟨b, rfl, hb⟩, k⟩ := h
    refine ⟨_, pss_cons (ps_set (i := 2) scLVar.nd rfl (.inl rfl) (pe_tup (pa_cons pe_int (pa_cons pe_int pa_nil))))
      (pss_cons (ps_for PassesOwn.never rfl (pi_range1 (by rfl) T.range (pa_cons (pe_callB call_len_seq (by rfl) T.len PySem.boot_len (pa_cons (pv 0) pa_nil)) pa_nil)) (pg_name (i := 3) scLVar.nd rfl (Or.inl rfl))
        (pss_one (ps_set (i := 2) scLVar.nd rfl (.inl rfl) (pe_callD DP hr (by decide) (pa_cons (pv 2) (pa_cons (pe_callD DL hr (by decide) (pa_cons (pe_ix ix_tup (pe_ix ix_list (pv 0) (pv 3) (fun _ _ => rfl)) pe_int (fun _ _ => rfl))
          (pa_cons (pe_op op_mul (pe_ix ix_tup (pe_ix ix_list (pv 0) (pv 3) (fun _ _ => rfl)) pe_int (fun _ _ => rfl)) (pe_ix ix_list (pv 1) (pv 3) (fun _ _ => rfl))) pa_nil)) rfl) pa_nil)) rfl))))
      (pss_one (ps_ret (pv 2)))), ?_⟩
    have eul := pr_len hp
    refine ⟨(by show 2 ≤ sizeLine; decide), fun t ht => ?_⟩
    have s0 : Same H (upd H t (.tup [.int 0, .int 1])) := same_upd ht
    refine ⟨_, rfl, _, _, rfl, .inl (s0.seq ha), us.length, rfl, by omega, by omega, ?_⟩
    refine for_range (lo := 0) (n := ((us.length : Nat) : Int).toNat) (fun i σ H' => ∃ (fv : V) (x3 : Option V), σ = [some (.ref a), some (.ref b), some fv, x3] ∧ Same H H' ∧ Fr K H' fv ((List.zipWith (fun c n => c / n) cs ns).take i).sum)
      ⟨_, _, rfl, s0, Fr.of upd_same num0.1.symm num0.2.symm⟩ ?_ ?_
    · rintro i σ H' hi ⟨fv, x3, rfl, sH, ff⟩
      rw [Int.toNat_natCast] at hi
      have hui : us[i]? = some us[i] := List.getElem?_eq_getElem hi
      obtain ⟨c', hc', u, eu, hu⟩ := pr_get hp hui
      have hn' : ns[i]? = some ns[i] := List.getElem?_eq_getElem (by omega)
      generalize ns[i] = n' at hn'
      generalize us[i] = u0 at hui eu
      subst eu
      obtain ⟨d, rfl⟩ := hc _ (List.mem_of_getElem? hc')
      have hn5 := hn _ (List.mem_of_getElem? hn')
      have ha' := sH.seq ha
      have hb' := sH.seq hb
      have hu' := same_tseq sH hu
      have ob := over_bound (x := 420 * d) (n := n') ⟨hn5.1, by omega⟩
      refine ⟨_, rfl, _, rfl, _, rfl, _, _, _, _, rfl, rfl, ha', at_of (zi i) hui, _, _, _, _, rfl, rfl, hu', atI_nat (j := 0) rfl, ?_⟩
      refine ⟨_, rfl, _, rfl, _, _, _, _, rfl, rfl, ha', at_of (zi i) hui, _, _, _, _, rfl, rfl, hu', atI_nat (j := 1) rfl, _, rfl, _, rfl, _, _, _, _, rfl, rfl, hb', at_of (zi i) (get_map hn'), _, _, rfl, rfl, .inl (den_mulok _), ?_⟩
      refine ⟨_, _, 420 * d / n', rfl, ob.1, ob.2, ar_over' (div_ok hn5.1 hn5.2), fun v1 H1 s1 f1 => ?_⟩
      refine ⟨_, _, _, _, rfl, ff.mono s1, f1, fun v2 H2 s2 f2 => ?_⟩
      refine ⟨v2, _, rfl, (sH.trans s1).trans s2, ?_⟩
      rw [sum_take' (zw_get hc' hn')]
      exact f2
    · rintro σ H' ⟨fv, x3, rfl, sH, ff⟩
      refine ⟨_, rfl, k fv H' sH ?_⟩
      have ez : (List.zipWith (fun c n => c / n) cs ns).take ((us.length : Nat) : Int).toNat = List.zipWith (fun c n => c / n) cs ns := List.take_of_length_le (by rw [List.length_zipWith]; omega)
      rw [ez] at ff
      exact ff
/-! ### _law_fall -/
theorem fall_mul {d n : Int} (h1 : 1 ≤ n) (h4 : n ≤ 4) : fall (420 * d) n * (n * (n + 1)) = 420 * d := by
  have : n = 1 ∨ n = 2 ∨ n = 3 ∨ n = 4 := by omega
  rcases this with e | e | e | e <;> subst e
  · rw [fall1]; omega
  · rw [fall2]; omega
  · rw [fall3]; omega
  · rw [fall4]; omega
theorem fall_q {x n : Int} (h1 : 1 ≤ n) (h4 : n ≤ 4) : 0 < den x * n * (n + 1) ∧ den x * n * (n + 1) < 1073741824 := by
  have := den_pos x
  have := den_le x
  have : n = 1 ∨ n = 2 ∨ n = 3 ∨ n = 4 := by omega
  rcases this with e | e | e | e <;> subst e <;> omega
theorem scLFall : FnScope ["_law_cost", "_law_number"] ["_law_cost", "_law_number"] (defScope sLFall) := ⟨rfl, rfl, rfl, by decide +kernel, rfl, by decide +kernel, by decide +kernel⟩
theorem ok_lfall {f : Addr} {fd : FuncData} (F : Fun K "_law_fall" "_law_fall" sLFall f fd) (DL : Dn P w K mg base 1 "_law_low" ["_law_p", "_law_q"] (spLow K)) : FnOk P w K mg base CX0 2 f fd ["_law_cost", "_law_number"] (spFall K) := by
  refine F.ok scLFall (fun vs H Q E h => ?_) (fun cdv A outer s H vs Q E hr h => ?_)
  · obtain ⟨c, d, n, rfl, _⟩ := h
    rfl
  · obtain ⟨c, d, n, rfl, hn, ⟨u, rfl, hu⟩, k⟩ := h
    refine ⟨_, pss_one (ps_ret (pe_callD DL hr (by decide) (pa_cons (px 0) (pa_cons (pe_op op_mul (pe_op op_mul (px 0) (pv 1)) (pe_op op_add (pv 1) pe_int)) pa_nil)) rfl)), ?_⟩
    have q := fall_q (x := 420 * d) hn.1 hn.2
    refine ⟨_, rfl, _, _, _, _, rfl, rfl, hu, atI_nat (j := 0) rfl, _, rfl, _, _, _, _, rfl, rfl, hu, atI_nat (j := 1) rfl, _, rfl, _, _, rfl, rfl, .inl (den_mulok _), _, rfl, _, _, rfl, rfl, _, _, rfl, rfl, .inr (by omega), ?_⟩
    refine ⟨_, _, fall (420 * d) n, rfl, q.1, q.2, ?_, k⟩
    have e := ar_over' (x := 420 * d) (n := n * (n + 1)) (fall_mul (d := d) hn.1 hn.2)
    rw [e, Int.mul_assoc (den (420 * d))]
/-! ### _law_bound -/
abbrev nLBound : List Str := ["_law_costs", "_law_limits", "_law_places", "_law_price", "_law_bound_here", "_law_k", "_law_best", "_law_number", "_law_term"]
theorem scLBound : FnScope nLBound ["_law_costs", "_law_limits", "_law_places", "_law_price"] (defScope sLBound) := ⟨rfl, rfl, rfl, by decide +kernel, rfl, by decide +kernel, by decide +kernel⟩
theorem least_is {c y l : Int} {k : Nat} {b : Int} (hl : 1 ≤ l) (hk : k = l.toNat) (e : leastUpto c y k = some b) : least c y l = b := by
  subst hk
  unfold least
  rw [e]
  rfl
theorem ok_lbound {f : Addr} {fd : FuncData} (F : Fun K "_law_bound" "_law_bound" sLBound f fd) (T : Txt K mg aN) (DT : Dn P w K mg base 2 "_law_times" ["_law_one", "_law_other"] (spTimes K)) (DP : Dn P w K mg base 2 "_law_plus" ["_law_one", "_law_other"] (spBin K fun x y => x + y))
    (DL : Dn P w K mg base 1 "_law_low" ["_law_p", "_law_q"] (spLow K)) (DLs : Dn P w K mg base 1 "_law_less" ["_law_one", "_law_other"] (spLess K)) : FnOk P w K mg base CX0 3 f fd ["_law_costs", "_law_limits", "_law_places", "_law_price"] (spBound K) := by
  refine F.ok scLBound (fun vs H Q E h => ?_) (fun cdv A outer s H vs Q E hr h => ?_)
  · obtain ⟨c, l, p, cs, ls, m, y, rfl, _⟩ := h
    rfl
  · obtain ⟨c, l, p, cs, ls, m, y, rfl, G, hm, ⟨a, us, rfl, ha, hp⟩, ⟨b, rfl, hb⟩, hpr, k⟩ := h
    refine ⟨_, pss_cons (ps_set (i := 4) scLBound.nd rfl (.inl rfl) (pe_callD DT hr (by decide) (pa_cons (pe_tup (pa_cons (pe_op op_sub pe_int (pv 2)) (pa_cons pe_int pa_nil))) (pa_cons (pv 3) pa_nil)) rfl))
      (pss_cons (ps_for PassesOwn.never rfl (pi_range1 (by rfl) T.range (pa_cons (pe_callB call_len_seq (by rfl) T.len PySem.boot_len (pa_cons (pv 0) pa_nil)) pa_nil)) (pg_name (i := 5) scLBound.nd rfl (Or.inl rfl))
        (pss_cons (ps_set (i := 6) scLBound.nd rfl (.inl rfl) pe_non)
        (pss_cons (ps_for PassesOwn.never rfl (pi_range2 (by rfl) T.range (pa_cons pe_int (pa_cons (pe_op op_add (pe_ix ix_list (pv 1) (pv 5) (fun _ _ => rfl)) pe_int) pa_nil))) (pg_name (i := 7) scLBound.nd rfl (Or.inl rfl))
          (pss_cons (ps_set (i := 8) scLBound.nd rfl (.inl rfl) (pe_callD DP hr (by decide) (pa_cons (pe_callD DL hr (by decide) (pa_cons (pe_ix ix_tup (pe_ix ix_list (pv 0) (pv 5) (fun _ _ => rfl)) pe_int (fun _ _ => rfl))
              (pa_cons (pe_op op_mul (pe_ix ix_tup (pe_ix ix_list (pv 0) (pv 5) (fun _ _ => rfl)) pe_int (fun _ _ => rfl)) (pv 7)) pa_nil)) rfl)
              (pa_cons (pe_callD DT hr (by decide) (pa_cons (pe_tup (pa_cons (pv 7) (pa_cons pe_int pa_nil))) (pa_cons (pv 3) pa_nil)) rfl) pa_nil)) rfl))
          (pss_one (ps_if (PW.pt (pw_or (pt_cmpR op_isN (pv 6) pe_non (nomark _)) (pw_or1 (pt_val (pe_callD DLs hr (by decide) (pa_cons (pv 8) (pa_cons (pv 6) pa_nil)) rfl)))))
            (pss_one (ps_set (i := 6) scLBound.nd rfl (.inl rfl) (pv 8))) pss_nil))))
        (pss_one (ps_set (i := 4) scLBound.nd rfl (.inl rfl) (pe_callD DP hr (by decide) (pa_cons (pv 4) (pa_cons (pv 6) pa_nil)) rfl))))))
      (pss_one (ps_ret (pv 4)))), ?_⟩
    have eul := pr_len hp
    have h4 := G.hi
    have gl := G.len
    refine ⟨_, rfl, _, _, rfl, rfl, (by show 2 ≤ sizeLine; decide), fun t ht => ⟨_, rfl, _, _, 0 - m, y, rfl, ⟨by omega, by omega⟩, Fr.nat upd_same, hpr.mono (same_upd ht), fun v0 H0 s0 f0 => ?_⟩⟩
    have sA := (same_upd (o := .tup [.int (0 - m), .int 1]) ht).trans s0
    refine ⟨_, rfl, _, _, rfl, .inl (sA.seq ha), us.length, rfl, by omega, by omega, ?_⟩
    refine for_range (lo := 0) (n := ((us.length : Nat) : Int).toNat) (fun i σ H' => ∃ (bv : V) (x5 x6 x7 x8 : Option V), σ = [some (.ref a), some (.ref b), some (.int m), some p, some bv, x5, x6, x7, x8] ∧ Same H H' ∧
      Fr K H' bv ((0 - m) * y + ((List.zipWith (fun c l => least c y l) cs ls).take i).sum)) ⟨v0, _, _, _, _, rfl, sA, by simpa using f0⟩ ?_ ?_
    · rintro i σ H' hi ⟨bv, x5, x6, x7, x8, rfl, sH, fb⟩
      rw [Int.toNat_natCast] at hi
      have hui : us[i]? = some us[i] := List.getElem?_eq_getElem hi
      obtain ⟨c', hc', u, eu, hu⟩ := pr_get hp hui
      have hl' : ls[i]? = some ls[i] := List.getElem?_eq_getElem (by omega)
      generalize ls[i] = l' at hl'
      generalize us[i] = u0 at hui eu
      subst eu
      obtain ⟨d, rfl⟩ := (G.c _ (List.mem_of_getElem? hc')).2
      have hl5 := G.l _ (List.mem_of_getElem? hl')
      refine ⟨_, rfl, _, rfl, _, _, _, _, rfl, rfl, sH.seq hb, at_of (zi i) (get_map hl'), _, _, rfl, rfl, 1, l' + 1, rfl, ⟨by decide, by decide, by omega, by omega⟩, ?_⟩
      refine for_range (lo := 1) (n := (l' + 1 - 1).toNat) (fun j σ H2 => ∃ (tv : V) (x7 x8 : Option V), σ = [some (.ref a), some (.ref b), some (.int m), some p, some bv, some (.int (0 + i)), some tv, x7, x8] ∧ Same H' H2 ∧ OptF K H2 tv (leastUpto (420 * d) y j)) ⟨_, _, _, rfl, Same.refl H', rfl⟩ ?_ ?_
      · rintro j σ H2 hj ⟨tv, x7, x8, rfl, s2, ob⟩
        have hn : 1 ≤ (1 : Int) + j ∧ (1 : Int) + j ≤ 5 := ⟨by omega, by omega⟩
        have en : (1 : Int) + j = (j : Int) + 1 := by omega
        have sH2 := sH.trans s2
        have ha' := sH2.seq ha
        have hu' := same_tseq sH2 hu
        have obd := over_bound (x := 420 * d) (n := 1 + (j : Int)) ⟨hn.1, by omega⟩
        refine ⟨_, rfl, _, rfl, _, _, _, _, rfl, rfl, ha', at_of (zi i) hui, _, _, _, _, rfl, rfl, hu', atI_nat (j := 0) rfl, ?_⟩
        refine ⟨_, rfl, _, rfl, _, _, _, _, rfl, rfl, ha', at_of (zi i) hui, _, _, _, _, rfl, rfl, hu', atI_nat (j := 1) rfl, _, rfl, _, _, rfl, rfl, .inl (den_mulok _), ?_⟩
        refine ⟨_, _, 420 * d / (1 + j), rfl, obd.1, obd.2, ar_over' (div_ok hn.1 hn.2), fun v1 H3 t1 f1 => ?_⟩
        refine ⟨_, rfl, (by show 2 ≤ sizeLine; decide), fun t2 ht2 => ⟨_, rfl, _, _, 1 + j, y, rfl, ⟨by omega, by omega⟩, Fr.nat upd_same, ((hpr.mono sH2).mono t1).mono (same_upd ht2), fun v2 H4 t3 f2 => ?_⟩⟩
        have q2 := (same_upd (o := .tup [.int (1 + j), .int 1]) ht2).trans t3
        refine ⟨_, _, _, _, rfl, f1.mono q2, f2, fun v H5 t4 fv => ?_⟩
        have sB := (t1.trans q2).trans t4
        have ob2 := ob.mono sB
        rw [en] at fv
        cases eb : leastUpto (420 * d) y j with
        | none =>
          rw [eb] at ob2
          have eo : tv = .non := ob2
          subst eo
          refine ⟨_, rfl, rfl, _, rfl, ?_⟩
          refine ⟨_, rfl, _, _, _, rfl, s2.trans sB, ?_⟩
          rw [leastUpto_succ, eb]
          exact fv
        | some b0 =>
          rw [eb] at ob2
          obtain ⟨p', e', q'⟩ := id ob2
          subst e'
          refine ⟨_, rfl, rfl, _, rfl, ?_⟩
          refine ⟨_, rfl, _, rfl, _, _, _, _, rfl, fv, ob2, _, rfl, ?_⟩
          by_cases c2 : 420 * d / ((j : Int) + 1) + ((j : Int) + 1) * y < b0
          · refine iteD1 c2 ?_
            refine ⟨_, rfl, _, _, _, rfl, s2.trans sB, ?_⟩
            rw [leastUpto_succ, eb]
            simp only [if_pos c2]
            exact fv
          · refine iteD0 c2 ?_
            refine ⟨_, _, _, rfl, s2.trans sB, ?_⟩
            rw [leastUpto_succ, eb]
            simp only [if_neg c2]
            exact ob2
      · rintro σ H2 ⟨tv, x7, x8, rfl, s2, ob⟩
        obtain ⟨kk, ek⟩ : ∃ kk : Nat, (l' + 1 - 1).toNat = kk + 1 := ⟨(l' + 1 - 1).toNat - 1, by omega⟩
        obtain ⟨v, ev, _⟩ := leastUpto_some (420 * d) y kk
        rw [ek, ev] at ob
        have el := least_is (l := l') hl5.1 (by omega) ev
        refine ⟨_, rfl, _, rfl, _, _, _, _, rfl, fb.mono s2, ob, fun v2 H3 s3 f3 => ?_⟩
        refine ⟨v2, _, _, _, _, rfl, (sH.trans s2).trans s3, ?_⟩
        rw [sum_take' (zw_get hc' hl'), el, ← Int.add_assoc]
        exact f3
    · rintro σ H' ⟨bv, x5, x6, x7, x8, rfl, sH, fb⟩
      refine ⟨_, rfl, k bv H' sH ?_⟩
      have ez : (List.zipWith (fun c l => least c y l) cs ls).take ((us.length : Nat) : Int).toNat = List.zipWith (fun c l => least c y l) cs ls := List.take_of_length_le (by rw [List.length_zipWith]; omega)
      rw [ez] at fb
      have eb : bound cs ls m y = (0 - m) * y + (List.zipWith (fun c l => least c y l) cs ls).sum := by
        unfold bound boundW
        rw [Int.zero_sub, Int.neg_mul]
        omega
      rw [eb]
      exact fb
end
end K54

namespace K54
open PySem PySem.Spec PyProof.Rows L2
/-- the lists that a list at D holds, none of them D itself, none that H0 has -/
def ILn (H0 : Hp) (D : Addr) (H : Hp) (v : V) (ns : List Int) : Prop := ∃ a, H0 a = none ∧ a ≠ D ∧ v = V.ref a ∧ H a = some (.lst (ns.map V.int))
theorem ILn.t {H0 : Hp} {D : Addr} {H : Hp} {v : V} {ns : List Int} (h : ILn H0 D H v ns) : ILf H0 H v ns := let ⟨a, f, _, e, q⟩ := h; ⟨a, f, e, q⟩
theorem ILn.mono {H0 : Hp} {D : Addr} {H H' : Hp} {v : V} {ns : List Int} (s : Same H H') (h : ILn H0 D H v ns) : ILn H0 D H' v ns := by
  obtain ⟨a, f, n, e, q⟩ := h
  exact ⟨a, f, n, e, s _ _ q⟩
theorem ILn.upd {H0 : Hp} {D : Addr} {H : Hp} {v : V} {ns : List Int} {o : HO} (h : ILn H0 D H v ns) : ILn H0 D (upd H D o) v ns := by
  obtain ⟨a, f, n, e, q⟩ := h
  exact ⟨a, f, n, e, by rw [upd_ne n]; exact q⟩
theorem nums_get {l : Int} {i : Nat} (h : i < l.toNat) : (nums l)[i]? = some (1 + (i : Int)) := by
  unfold nums
  rw [List.getElem?_map, List.getElem?_range h]
  rfl
theorem nums_len (l : Int) : (nums l).length = l.toNat := by
  unfold nums
  rw [List.length_map, List.length_range]
theorem longer_snoc (l : Int) (ds : List (List Int)) (d : List Int) : longer l (ds ++ [d]) = longer l ds ++ (nums l).map fun n => d ++ [n] := by
  unfold longer
  rw [List.flatMap_append]
  simp
theorem filter_snoc (p : List Int → Bool) (ds : List (List Int)) (d : List Int) : (ds ++ [d]).filter p = ds.filter p ++ (if p d = true then [d] else []) := by
  rw [List.filter_append]
  congr 1
  rw [List.filter_cons]
  rfl
theorem allD_item_len {ls : List Int} {k : Nat} (hk : k ≤ ls.length) {d : List Int} (h : d ∈ allD (ls.take k)) : d.length = k := ((mem_allD_take ls k hk d).mp h).1
theorem longer_le {l : Int} (hl : l ≤ 5) (ds : List (List Int)) (j : Nat) : (longer l (ds.take j)).length ≤ ds.length * 5 := by
  have := longer_len hl (ds.take j)
  rw [List.length_take] at this
  omega
section
variable {P : Program} {w : World} {K : PySem.W.Frag} {mg : Str → Option Value} {base : Heap} {aN ND SE : Addr}
/-! ### _law_deals -/
abbrev nLDeals : List Str := ["_law_limits", "_law_places", "_law_found", "_law_limit", "_law_longer", "_law_one", "_law_number"]
theorem scLDeals : FnScope nLDeals ["_law_limits", "_law_places"] (defScope sLDeals) := ⟨rfl, rfl, rfl, by decide +kernel, rfl, by decide +kernel, by decide +kernel⟩
theorem ok_ldeals {f : Addr} {fd : FuncData} (F : Fun K "_law_deals" "_law_deals" sLDeals f fd) (T : Txt K mg aN) : FnOk P w K mg base CX0 1 f fd ["_law_limits", "_law_places"] (spLDeals K) := by
  refine F.ok scLDeals (fun vs H Q E h => ?_) (fun cdv A outer s H vs Q E hr h => ?_)
  · obtain ⟨l, ls, m, rfl, _⟩ := h
    rfl
  · obtain ⟨l, ls, m, rfl, hl15, hl4, ⟨a, rfl, ha⟩, k⟩ := h
    have hl5 : ∀ x ∈ ls, x ≤ 5 := fun x hx => (hl15 x hx).2
    refine ⟨_, pss_cons (ps_set (i := 2) scLDeals.nd rfl (.inl rfl) (pe_lst (pa_cons (pe_lst pa_nil) pa_nil)))
      (pss_cons (ps_for PassesOwn.never rfl (pi_list (pv 0)) (pg_name (i := 3) scLDeals.nd rfl (Or.inl rfl))
        (pss_cons (ps_set (i := 4) scLDeals.nd rfl (.inl rfl) (pe_lst pa_nil))
        (pss_cons (ps_for PassesOwn.never rfl (pi_list (pv 2)) (pg_name (i := 5) scLDeals.nd rfl (Or.inr rfl))
          (pss_one (ps_set (i := 4) scLDeals.nd rfl (.inl rfl) (pe_op op_cat (pv 4) (pe_lc (own := [("_law_number", 6)]) (g := gName 6) (tt := tYes) (te := tOp rCat (tVar 5) (tLst (tCons (tVar 6) tNil))) rfl scLDeals.nd
            (pi_range2 (by rfl) T.range (pa_cons pe_int (pa_cons (pe_op op_add (pv 3) pe_int) pa_nil)))
            (blkOk_by (N := nLDeals) (sc := defScope sLDeals) (by decide +kernel)) (fun _ _ _ _ _ => pg_name (i := 6) scLDeals.nd rfl (Or.inl rfl)) (fun _ _ _ _ _ => pts_nil)
            (fun _ _ _ _ _ => pe_op op_cat (pv 5) (pe_lst (pa_cons (pv 6) pa_nil))))))))
        (pss_one (ps_set (i := 2) scLDeals.nd rfl (.inl rfl) (pv 4))))))
      (pss_one (ps_ret (pe_lc (own := [("_law_one", 5)]) (g := gName 5) (tt := tTest (tOp rEq (tCB (rSum K) (tCons (tVar 5) tNil)) (tVar 1))) (te := tVar 5) rfl scLDeals.nd
        (pi_list (pv 2)) (blkOk_by (N := nLDeals) (sc := defScope sLDeals) (by decide +kernel)) (fun _ _ _ _ _ => pg_name (i := 5) scLDeals.nd rfl (Or.inl rfl))
        (fun _ _ _ _ _ => pts_one (pt_cmpR op_eq (pe_callB (cr_sum rfl) (by rfl) T.sum (by decide +kernel) (pa_cons (pv 5) pa_nil)) (pv 1) (nomark _)))
        (fun _ _ _ _ _ => pv 5))))), ?_⟩
    refine ⟨Nat.zero_le _, fun e he => ⟨(by show 1 ≤ sizeLine; decide), fun f0 hf0 => ?_⟩⟩
    have s0 : Same H (upd (upd H e (.lst [])) f0 (.lst [.ref e])) := (same_upd he).trans (same_upd hf0)
    have nef : e ≠ f0 := ne_of_none upd_same hf0
    refine ⟨_, rfl, a, rfl, ⟨_, s0.seq ha⟩, for_list (K := K) (a := a) (xs := ls.map V.int) (fun i σ H' => ∃ (af : Addr) (x3 x4 x5 x6 : Option V) (xs : List V), σ = [some (.ref a), some (.int m), some (.ref af), x3, x4, x5, x6] ∧ Same H H' ∧ H' af = some (.lst xs) ∧ DealsL H H' xs (allD (ls.take i)))
      ⟨f0, _, _, _, _, [.ref e], rfl, s0, upd_same, .cons ⟨e, he, rfl, by rw [upd_ne nef, upd_same]; rfl⟩ .nil⟩ (fun i σ H' _ ⟨_, _, _, _, _, _, _, s1, _⟩ => s1.seq ha) ?_ ?_⟩
    · rintro i x σ H' hx ⟨af, x3, x4, x5, x6, xs, rfl, sH, haf, hds⟩
      obtain ⟨l', hl', rfl⟩ := map_get hx
      have hil : i < ls.length := (List.getElem?_eq_some_iff.mp hl').1
      have hl'5 := hl15 _ (List.mem_of_getElem? hl')
      have lenA := allD_len625 hl5 hl4 (k := i) (by omega)
      have exs := pr_len hds
      refine ⟨Nat.zero_le _, fun g0 hg0 => ?_⟩
      have sg : Same H' (upd H' g0 (.lst [])) := same_upd hg0
      refine ⟨_, rfl, af, rfl, ⟨_, .of (sg _ _ haf)⟩, for_list (K := K) (a := af) (xs := xs) (fun j σ H2 => ∃ (al : Addr) (x5 x6 : Option V) (ys : List V), σ = [some (.ref a), some (.int m), some (.ref af), some (.int l'), some (.ref al), x5, x6] ∧ Same H' H2 ∧ H2 al = some (.lst ys) ∧ DealsL H H2 ys (longer l' ((allD (ls.take i)).take j)))
        ⟨g0, _, _, [], rfl, sg, upd_same, .nil⟩ (fun j σ H2 _ ⟨_, _, _, _, _, s2, _⟩ => .of (s2 _ _ haf)) ?_ ?_⟩
      · rintro j x σ H2 hx2 ⟨al, x5, x6, ys, rfl, s2, hal, hys⟩
        obtain ⟨one, hone, b1, hbf, rfl, hb1⟩ := pr_get hds hx2
        have hol := allD_item_len (by omega) (List.mem_of_getElem? hone)
        refine ⟨_, rfl, _, rfl, _, _, rfl, rfl, 1, l' + 1, rfl, ⟨by decide, by decide, by omega, by omega⟩, fun D hD => ?_⟩
        refine lc_range (lo := 1) (n := (l' + 1 - 1).toNat) (fun t H3 => Same H2 H3 ∧ ∃ zs, H3 D = some (.lst zs) ∧ Paired (ILn H D H3) zs (((nums l').take t).map fun n => one ++ [n])) ⟨same_upd hD, [], upd_same, .nil⟩ ?_ ?_
        · rintro t H3 ht ⟨s3, zs, hzD, hzs⟩
          have hb3 := s3 _ _ (s2 _ _ hb1)
          have hnt : (nums l')[t]? = some (1 + (t : Int)) := nums_get (by omega)
          refine ⟨rfl, _, rfl, _, rfl, (by show 1 ≤ sizeLine; decide), fun q hq => ?_⟩
          have sq : Same H3 (upd H3 q (.lst [.int (1 + t)])) := same_upd hq
          refine ⟨b1, q, _, _, rfl, rfl, sq _ _ hb3, upd_same, ?_, fun r hr => ?_⟩
          · rw [List.length_map]
            exact small_line (by simp; omega)
          have sr := sq.trans (same_upd (o := .lst (one.map V.int ++ [.int (1 + t)])) hr)
          have hrH3 : H3 r = none := sq.free hr
          have hrD : r ≠ D := (ne_of_none hzD hrH3).symm
          refine ⟨zs, sr _ _ hzD, ?_, same_D (s3.trans sr) hD, zs ++ [.ref r], upd_same, ?_⟩
          · rw [pr_len hzs, List.length_map, List.length_take]
            exact small_line' (by omega)
          · rw [take_snoc hnt, List.map_append]
            refine pr_app (Paired.mapP hzs fun _ _ z => (z.mono sr).upd) (.cons ?_ .nil)
            refine ⟨r, (sH.trans (s2.trans s3)).free hrH3, hrD, rfl, ?_⟩
            rw [upd_ne hrD, upd_same, List.map_append]
            rfl
        · rintro H3 ⟨s3, zs, hzD, hzs⟩
          have e0 : (l' + 1 - 1).toNat = (nums l').length := by rw [nums_len]; omega
          rw [e0, List.take_length] at hzs
          have hal3 := s3 _ _ hal
          refine ⟨al, D, _, _, rfl, rfl, hal3, hzD, ?_, fun p hp => ?_⟩
          · have h1 := pr_len hys
            have h2 := pr_len hzs
            have h3 := longer_le hl'5.2 (allD (ls.take i)) j
            rw [List.length_map, nums_len] at h2
            exact small_line (by omega)
          · have sp : Same H3 (upd H3 p (.lst (ys ++ zs))) := same_upd hp
            refine ⟨p, _, _, ys ++ zs, rfl, (s2.trans s3).trans sp, upd_same, ?_⟩
            rw [take_snoc hone, longer_snoc]
            exact pr_app ((hys.mono s3).mono sp) (Paired.mapP hzs fun _ _ z => z.t.mono sp)
      · rintro σ H2 ⟨al, x5, x6, ys, rfl, s2, hal, hys⟩
        rw [exs, List.take_length] at hys
        refine ⟨_, rfl, al, _, _, _, _, ys, rfl, sH.trans s2, hal, ?_⟩
        rw [take_snoc hl', allD_snoc]
        exact hys
    · rintro σ H' ⟨af, x3, x4, x5, x6, xs, rfl, sH, haf, hds⟩
      rw [List.length_map, List.take_length] at hds
      have exs := pr_len hds
      have lenA := allD_len625 hl5 hl4 (k := ls.length) (Nat.le_refl _)
      rw [List.take_length] at lenA
      refine ⟨_, rfl, af, rfl, ⟨_, .of haf⟩, fun D hD => ?_⟩
      refine lc_list (K := K) (a := af) (xs := xs) (fun i H2 => Same H' H2 ∧ ∃ zs, H2 D = some (.lst zs) ∧ Paired (ILf H H') zs (((allD ls).take i).filter fun ns => decide (ns.sum = m))) ⟨same_upd hD, [], upd_same, .nil⟩ (fun i H2 _ hp => .of (hp.1 _ _ haf)) ?_ ?_
      · rintro i x H2 hx ⟨s2, zs, hzD, hzs⟩
        obtain ⟨one, hone, b1, hbf, rfl, hb1⟩ := pr_get hds hx
        have hzl : zs.length < sizeLine := by
          rw [pr_len hzs]
          refine small_line' (Nat.le_trans (List.length_filter_le _ _) ?_)
          rw [List.length_take]
          omega
        refine ⟨rfl, _, rfl, b1, one, rfl, .of (s2 _ _ hb1), _, rfl, rfl, _, rfl, ?_⟩
        by_cases c : one.sum = m
        · refine iteD1 (by rw [c]) ?_
          refine ⟨_, rfl, zs, hzD, hzl, same_D s2 hD, zs ++ [.ref b1], upd_same, ?_⟩
          rw [take_snoc hone, filter_snoc, if_pos (decide_eq_true c)]
          exact pr_snoc hzs ⟨b1, hbf, rfl, hb1⟩
        · refine iteD0 (vne c) ?_
          refine ⟨s2, zs, hzD, ?_⟩
          rw [take_snoc hone, filter_snoc, if_neg (by rw [decide_eq_false c]; exact Bool.false_ne_true), List.append_nil]
          exact hzs
      · rintro H2 ⟨s2, zs, hzD, hzs⟩
        rw [exs, List.take_length] at hzs
        exact k D zs H2 (sH.trans s2) (sH.free hD) hzD (Paired.mapP hzs fun _ _ z => z.mono s2)
end
end K54

namespace K54
open PySem PySem.Spec PyProof.Rows L2
/-- what the law's own steps have after i turns -/
def gst (cs ls : List Int) (m : Int) (i : Nat) : List Int × Int :=
  if (ls.length : Int) < m then ((dealN cs ls i).1, if i = 0 then 0 else (dealN cs ls i).2) else (ones ls, if i = 0 then 0 else price0 cs ls)
theorem gst0 (cs ls : List Int) (m : Int) : gst cs ls m 0 = (ones ls, 0) := by
  unfold gst
  split <;> rfl
theorem gst_end {cs ls : List Int} {m : Int} (h : (ls.length : Int) ≤ m) {n : Nat} (hn : n = (if m - ls.length > 1 then m - ls.length else 1).toNat) : gst cs ls m n = dealN cs ls (m - ls.length).toNat := by
  unfold gst
  by_cases c : (ls.length : Int) < m
  · rw [if_pos c]
    have e : n = (m - ls.length).toNat := by rw [hn]; split <;> omega
    rw [if_neg (by omega), e]
  · rw [if_neg c]
    have e : n = 1 := by rw [hn]; split <;> omega
    have e2 : (m - ls.length).toNat = 0 := by omega
    rw [if_neg (by omega), e2]
    rfl
theorem gst_none {cs ls : List Int} {m : Int} (G : Good cs ls) (h : m ≤ ls.sum) {i : Nat} (hi : (ls.length : Int) < m → (ls.length : Int) + i < m) (e : best cs ls (gst cs ls m i).1 = none) : gst cs ls m (i + 1) = gst cs ls m i := by
  unfold gst at *
  by_cases c : (ls.length : Int) < m
  · rw [if_pos c] at e
    have A := deal_inv G i (by have := hi c; omega)
    obtain ⟨k, v, eb, _⟩ := A.2.2 (by have := hi c; omega)
    rw [eb] at e
    cases e
  · rw [if_neg c] at e ⊢
    rw [if_neg c]
    rw [price0_none e]
    simp
theorem gst_some {cs ls : List Int} {m : Int} {i k : Nat} {v : Int} (e : best cs ls (gst cs ls m i).1 = some (k, v)) :
    gst cs ls m (i + 1) = (if (ls.length : Int) < m then ((gst cs ls m i).1.set k ((gst cs ls m i).1.getD k 0 + 1), v) else ((gst cs ls m i).1, v)) := by
  unfold gst at *
  by_cases c : (ls.length : Int) < m
  · rw [if_pos c] at e
    rw [if_pos c, if_pos c, if_pos c, if_neg (by omega), dealN_succ e]
  · rw [if_neg c] at e
    rw [if_neg c, if_neg c, if_neg c, if_neg (by omega), price0_some e]
theorem gst_inv {cs ls : List Int} {m : Int} (G : Good cs ls) (h : m ≤ ls.sum) {i : Nat} (hi : (ls.length : Int) < m → (ls.length : Int) + i < m) : (gst cs ls m i).1.length = ls.length ∧ ∀ y ∈ (gst cs ls m i).1, 1 ≤ y := by
  unfold gst
  by_cases c : (ls.length : Int) < m
  · rw [if_pos c]
    have A := (deal_inv G i (by have := hi c; omega)).1
    exact ⟨A.len, all_ge A.len fun j hj => (A.at_ j hj).1⟩
  · rw [if_neg c]
    exact ⟨ones_len ls, all_ge (ones_len ls) fun j hj => by rw [ones_get hj]; exact Int.le_refl _⟩
theorem best_lt {cs ls ns : List Int} {k : Nat} {v : Int} (e : best cs ls ns = some (k, v)) : k < ls.length := (bestUpto_some e).1
section
variable {P : Program} {w : World} {K : PySem.W.Frag} {mg : Str → Option Value} {base : Heap} {aN ND SE : Addr}
/-! ### _law_greedy -/
abbrev nGreedy : List Str := ["_law_costs", "_law_limits", "_law_places", "_law_numbers_here", "_law_price", "_law_turn", "_law_chosen", "_law_k", "_law_by", "_law_limit"]
theorem scGreedy : FnScope nGreedy ["_law_costs", "_law_limits", "_law_places"] (defScope sGreedy) := ⟨rfl, rfl, rfl, by decide +kernel, rfl, by decide +kernel, by decide +kernel⟩
theorem ok_greedy {f : Addr} {fd : FuncData} (F : Fun K "_law_greedy" "_law_greedy" sGreedy f fd) (T : Txt K mg aN) (DF : Dn P w K mg base 2 "_law_fall" ["_law_cost", "_law_number"] (spFall K)) (DL : Dn P w K mg base 1 "_law_less" ["_law_one", "_law_other"] (spLess K)) :
    FnOk P w K mg base CX0 3 f fd ["_law_costs", "_law_limits", "_law_places"] (spGreedy K) := by
  refine F.ok scGreedy (fun vs H Q E h => ?_) (fun cdv A outer s H vs Q E hr h => ?_)
  · obtain ⟨c, l, cs, ls, m, rfl, _⟩ := h
    rfl
  · obtain ⟨c, l, cs, ls, m, rfl, G, hm, ⟨a, us, rfl, ha, hp⟩, ⟨b, rfl, hb⟩, k⟩ := h
    refine ⟨_, pss_cons (ps_setLc (i := 3) (own := [("_law_limit", 9)]) (g := gName 9) (tt := tYes) (te := tC (.int 1)) rfl scGreedy.nd rfl rfl (sw_true rfl rfl rfl (by decide +kernel)) (pi_list (pv 1))
        (blkOk_by (N := nGreedy) (sc := defScope sGreedy) (by decide +kernel)) (fun _ _ _ _ _ => pg_name (i := 9) scGreedy.nd rfl (Or.inl rfl)) (fun _ _ _ _ _ => pts_nil) (fun _ _ _ _ _ => pe_int))
      (pss_cons (ps_set (i := 4) scGreedy.nd rfl (.inl rfl) (pe_tup (pa_cons pe_int (pa_cons pe_int pa_nil))))
      (pss_cons (ps_for PassesOwn.never rfl (pi_range1 (by rfl) T.range (pa_cons (pe_callB (call_max2 rfl) (by rfl) T.max (by decide +kernel) (pa_cons pe_int (pa_cons (pe_op op_sub (pv 2) (pe_callB call_len_seq (by rfl) T.len PySem.boot_len (pa_cons (pv 1) pa_nil))) pa_nil))) pa_nil)) (pg_name (i := 5) scGreedy.nd rfl (Or.inl rfl))
        (pss_cons (ps_set (i := 6) scGreedy.nd rfl (.inl rfl) pe_non)
        (pss_cons (ps_for PassesOwn.never rfl (pi_range1 (by rfl) T.range (pa_cons (pe_callB call_len_seq (by rfl) T.len PySem.boot_len (pa_cons (pv 1) pa_nil)) pa_nil)) (pg_name (i := 7) scGreedy.nd rfl (Or.inl rfl))
          (pss_one (ps_if (pt_cmpR op_lt (pe_ix ix_list (pv 3) (pv 7) (fun _ _ => rfl)) (pe_ix ix_list (pv 1) (pv 7) (fun _ _ => rfl)) (nomark _))
            (pss_cons (ps_set (i := 8) scGreedy.nd rfl (.inl rfl) (pe_callD DF hr (by decide) (pa_cons (pe_ix ix_list (pv 0) (pv 7) (fun _ _ => rfl)) (pa_cons (pe_ix ix_list (pv 3) (pv 7) (fun _ _ => rfl)) pa_nil)) rfl))
            (pss_one (ps_if (PW.pt (pw_or (pt_cmpR op_isN (pv 6) pe_non (nomark _)) (pw_or1 (pt_val (pe_callD DL hr (by decide) (pa_cons (px 6) (pa_cons (pv 8) pa_nil)) rfl)))))
              (pss_one (ps_set (i := 6) scGreedy.nd rfl (.inl rfl) (pe_tup (pa_cons (pv 7) (pa_cons (pv 8) pa_nil))))) pss_nil))) pss_nil)))
        (pss_one (ps_if (pt_cmpR op_notN (pv 6) pe_non (nomark _))
          (pss_cons (ps_set (i := 4) scGreedy.nd rfl (.inl rfl) (px 6))
          (pss_one (ps_if (pt_cmpR op_gt (pv 2) (pe_callB call_len_seq (by rfl) T.len PySem.boot_len (pa_cons (pv 1) pa_nil)) (nomark _))
            (pss_one (ps_asg (pe_op op_add (pe_ix ix_list (pv 3) (px 6) (fun _ _ => rfl)) pe_int) (pg_sub (pv 3) (px 6) set_list))) pss_nil))) pss_nil)))))
      (pss_one (ps_ret (pe_tup (pa_cons (pv 3) (pa_cons (pv 4) pa_nil))))))), ?_⟩
    have eul := pr_len hp
    have h4 := G.hi
    have h1 := G.lo
    have gl := G.len
    have h20 := G.sum20
    have fC : FrL K H (.ref a) cs := ⟨a, us, rfl, ha, hp⟩
    -- numbers_here = [1 for ..]
    refine ⟨_, rfl, b, rfl, ⟨_, hb⟩, fun n hn => ?_⟩
    refine lc_list (K := K) (a := b) (xs := ls.map V.int) (fun i H' => Same H H' ∧ H' n = some (.lst ((List.replicate i (1 : Int)).map V.int))) ⟨same_upd hn, upd_same⟩ (fun i H' _ hp => hp.1.seq hb) ?_ ?_
    · rintro i x H' hx ⟨s1, hn'⟩
      have hi : i < ls.length := by
        have := (List.getElem?_eq_some_iff.mp hx).1
        rw [List.length_map] at this
        exact this
      refine ⟨rfl, _, hn', ?_, same_D s1 hn, ?_⟩
      · rw [List.length_map, List.length_replicate]
        exact small_line' (by omega)
      · rw [upd_same, List.replicate_succ', List.map_append]
        rfl
    rintro H0 ⟨s0, hn0⟩
    rw [List.length_map] at hn0
    -- price = (0, 1)
    refine ⟨(by show 2 ≤ sizeLine; decide), fun t ht => ?_⟩
    have sT : Same H0 (upd H0 t (.tup [.int 0, .int 1])) := same_upd ht
    refine ⟨_, rfl, _, rfl, _, _, rfl, .inl ((s0.trans sT).seq hb), _, _, rfl, rfl, 1, m - ls.length, ?_, _, rfl, ?_, ?_, ?_⟩
    · rw [List.length_map]
    · split <;> omega
    · split <;> omega
    refine for_range (lo := 0) (n := (if m - ls.length > 1 then m - ls.length else 1).toNat) (fun i σ H' => ∃ (pv : V) (x5 x6 x7 x8 : Option V), σ = [some (.ref a), some (.ref b), some (.int m), some (.ref n), some pv, x5, x6, x7, x8, none] ∧ Same H H' ∧ H' n = some (.lst ((gst cs ls m i).1.map V.int)) ∧ Fr K H' pv (gst cs ls m i).2)
      ⟨_, _, _, _, _, rfl, s0.trans sT, sT _ _ (by rw [gst0]; exact hn0), by rw [gst0]; exact Fr.of upd_same num0.1.symm num0.2.symm⟩ ?_ ?_
    · rintro i σ H' hi ⟨pv, x5, x6, x7, x8, rfl, sH, hn', fp⟩
      have hi' : (ls.length : Int) < m → (ls.length : Int) + i < m := fun z => by
        have : (i : Int) < (if m - ls.length > 1 then m - ls.length else 1) := by omega
        split at this <;> omega
      have GI := gst_inv G hm.2 hi'
      generalize hns : (gst cs ls m i).1 = ns at *
      refine ⟨_, rfl, _, _, rfl, .inl (sH.seq hb), _, rfl, by omega, by rw [List.length_map]; omega, ?_⟩
      refine for_range (lo := 0) (n := (((ls.map V.int).length : Nat) : Int).toNat) (fun j σ H2 => ∃ (cv : V) (x7 x8 : Option V), σ = [some (.ref a), some (.ref b), some (.int m), some (.ref n), some pv, some (.int (0 + i)), some cv, x7, x8, none] ∧ Same H' H2 ∧ OptB K H2 cv (bestUpto cs ls ns j))
        ⟨_, _, _, rfl, Same.refl H', rfl⟩ ?_ ?_
      · rintro j σ H2 hj ⟨cv, x7, x8, rfl, s2, ob⟩
        rw [Int.toNat_natCast, List.length_map] at hj
        have sA := sH.trans s2
        have hnn := s2 _ _ hn'
        have hn'' : ns[j]? = some (ns.getD j 0) := getD_get (by omega)
        have hl' : ls[j]? = some (ls.getD j 0) := getD_get hj
        have hc' : cs[j]? = some (cs.getD j 0) := getD_get (by omega)
        generalize ns.getD j 0 = n' at hn''
        generalize ls.getD j 0 = l' at hl'
        generalize cs.getD j 0 = c' at hc'
        obtain ⟨u0, hu0, fc⟩ := pr_get2 hp hc'
        have hn1 := GI.2 _ (List.mem_of_getElem? hn'')
        have hl5 := G.l _ (List.mem_of_getElem? hl')
        obtain ⟨dd, ed⟩ := (G.c _ (List.mem_of_getElem? hc')).2
        have ebs := bestUpto_succ hc' hl' hn''
        refine ⟨_, rfl, _, rfl, _, _, _, _, rfl, rfl, .of hnn, at_of (zi j) (get_map hn''), _, rfl, _, rfl, _, _, _, _, rfl, rfl, sA.seq hb, at_of (zi j) (get_map hl'), _, _, rfl, rfl, _, rfl, ?_⟩
        by_cases c1 : n' < l'
        · refine iteD1 c1 ?_
          refine ⟨_, rfl, _, rfl, _, _, _, _, rfl, rfl, sA.seq ha, at_of (zi j) hu0, _, rfl, _, rfl, _, _, _, _, rfl, rfl, .of hnn, at_of (zi j) (get_map hn''), ⟨_, dd, n', rfl, ⟨hn1, by omega⟩, by rw [← ed]; exact fc.mono sA, fun v H3 s3 fv => ?_⟩⟩
          rw [← ed] at fv
          have sB := s2.trans s3
          have ob2 := ob.mono s3
          cases eb : bestUpto cs ls ns j with
          | none =>
            rw [eb] at ob2
            have eo : cv = .non := ob2
            subst eo
            refine ⟨_, rfl, rfl, _, rfl, ?_⟩
            refine ⟨_, rfl, _, rfl, (by show 2 ≤ sizeLine; decide), fun t ht => ?_⟩
            refine ⟨_, _, _, rfl, sB.trans (same_upd ht), ?_⟩
            rw [ebs, eb]
            unfold bestStep
            rw [if_pos c1]
            exact ⟨t, v, rfl, .inl (.inl (by rw [upd_same, zi])), fv.mono (same_upd ht)⟩
          | some jv =>
            obtain ⟨j0, v0⟩ := jv
            rw [eb] at ob2
            obtain ⟨p, u, rfl, hpt, fu⟩ := ob2
            refine ⟨_, rfl, rfl, _, rfl, ?_⟩
            refine ⟨_, rfl, _, _, _, _, rfl, rfl, hpt, atI_nat (j := 1) rfl, _, rfl, _, _, _, _, rfl, fu, fv, _, rfl, ?_⟩
            by_cases c2 : v0 < fall c' n'
            · refine iteD1 c2 ?_
              refine ⟨_, rfl, _, rfl, (by show 2 ≤ sizeLine; decide), fun t ht => ?_⟩
              refine ⟨_, _, _, rfl, sB.trans (same_upd ht), ?_⟩
              rw [ebs, eb]
              unfold bestStep
              rw [if_pos c1]
              simp only [if_pos c2]
              exact ⟨t, v, rfl, .inl (.inl (by rw [upd_same, zi])), fv.mono (same_upd ht)⟩
            · refine iteD0 c2 ?_
              refine ⟨_, _, _, rfl, sB, ?_⟩
              rw [ebs, eb]
              unfold bestStep
              rw [if_pos c1]
              simp only [if_neg c2]
              exact ⟨p, u, rfl, hpt, fu⟩
        · refine iteD0 c1 ?_
          refine ⟨_, _, _, rfl, s2, ?_⟩
          rw [ebs]
          unfold bestStep
          rw [if_neg c1]
          exact ob
      · rintro σ H2 ⟨cv, x7, x8, rfl, s2, ob⟩
        rw [Int.toNat_natCast, List.length_map] at ob
        have hnn := s2 _ _ hn'
        have sA := sH.trans s2
        cases eb : best cs ls ns with
        | none =>
          have ob' : OptB K H2 cv none := by rw [← eb]; exact ob
          have eo : cv = .non := ob'
          subst eo
          refine ⟨_, rfl, rfl, _, rfl, ?_⟩
          have eg := gst_none (m := m) (i := i) G hm.2 hi' (by rw [hns]; exact eb)
          refine ⟨pv, _, _, _, _, rfl, sA, ?_, ?_⟩
          · rw [eg, hns]
            exact hnn
          · rw [eg]
            exact fp.mono s2
        | some kv =>
          obtain ⟨kk, v⟩ := kv
          have ob' : OptB K H2 cv (some (kk, v)) := by rw [← eb]; exact ob
          obtain ⟨p, u, rfl, hpt, fu⟩ := ob'
          have eg := gst_some (m := m) (i := i) (by rw [hns]; exact eb)
          rw [hns] at eg
          have hkl : kk < ns.length := by rw [GI.1]; exact best_lt eb
          refine ⟨_, rfl, rfl, _, rfl, ?_⟩
          refine ⟨_, rfl, _, _, _, _, rfl, rfl, hpt, atI_nat (j := 1) rfl, ?_⟩
          refine ⟨_, rfl, _, rfl, _, _, rfl, .inl (sA.seq hb), _, _, rfl, rfl, _, rfl, ?_⟩
          by_cases c3 : (((ls.map V.int).length : Nat) : Int) < m
          · refine iteD1 c3 ?_
            rw [List.length_map] at c3
            rw [if_pos c3] at eg
            refine ⟨_, rfl, _, rfl, _, _, _, _, rfl, rfl, hpt, atI_nat (j := 0) rfl, _, _, _, _, rfl, rfl, .of hnn, atI_nat (get_map (getD_get hkl)), _, _, rfl, rfl, ?_⟩
            refine ⟨_, rfl, _, rfl, _, _, _, _, rfl, rfl, hpt, atI_nat (j := 0) rfl, n, _, _, kk, rfl, rfl, hnn, ?_, ?_⟩
            · have h3 : ((ns.map V.int).length) = ns.length := List.length_map _
              unfold ixN
              rw [if_pos (by omega), if_pos (by rw [h3]; omega), Int.toNat_natCast]
            · refine ⟨u, _, _, _, _, rfl, same_D sA hn, ?_, ?_⟩
              · rw [upd_same, eg, List.map_set]
              · rw [eg]
                exact fr_upd hnn fu
          · refine iteD0 c3 ?_
            rw [List.length_map] at c3
            rw [if_neg c3] at eg
            refine ⟨u, _, _, _, _, rfl, sA, ?_, ?_⟩
            · rw [eg]
              exact hnn
            · rw [eg]
              exact fu
    · rintro σ H' ⟨pv, x5, x6, x7, x8, rfl, sH, hn', fp⟩
      refine ⟨_, rfl, _, rfl, (by show 2 ≤ sizeLine; decide), fun t ht => ?_⟩
      have sX : Same H' (upd H' t (.tup [.ref n, pv])) := same_upd ht
      have ee := gst_end (cs := cs) hm.1 rfl
      rw [ee] at hn' fp
      exact k _ _ (sH.trans sX) ⟨t, n, pv, rfl, upd_same, sX _ _ hn', fp.mono sX⟩
/-! ### _law_told -/
theorem scTold : FnScope ["_law_costs", "_law_limits", "_law_places"] ["_law_costs", "_law_limits", "_law_places"] (defScope sTold) := ⟨rfl, rfl, rfl, by decide +kernel, rfl, by decide +kernel, by decide +kernel⟩
theorem ok_told {f fD : Addr} {fd fdD : FuncData} (F : Fun K "_law_told" "_law_told" sTold f fd) (TE : TxtE K mg ND SE) (GD : FnOk P w K mg base (L2.CX P w) 5 fD fdD ["costs", "limits", "places"] (spDeal K ND)) (gD : mg "deal" = some (.ref fD)) (kD : PySem.W.keepIn K (.ref fD) = true)
    (bD : Binds K fdD ["costs", "limits", "places"] []) : FnOk P w K mg base CX0 6 f fd ["_law_costs", "_law_limits", "_law_places"] (spTold K) := by
  refine F.ok scTold (fun vs H Q E h => ?_) (fun cdv A outer s H vs Q E hr h => ?_)
  · obtain ⟨c, l, cs, ls, m, rfl, _⟩ := h
    rfl
  · obtain ⟨c, l, cs, ls, m, rfl, G, fC, fL, k1, k2⟩ := h
    refine ⟨_, pss_one (ps_try_many (tb := fun W => tRet (tCallS (spDeal K ND) (WE W) (tCons (tVar 0) (tCons (tVar 1) (tCons (tVar 2) tNil))))) (Wout := fun _ _ _ _ => False)
      (l := [(.ref ND, fun _ _ _ => tRet (tC (.str "none"))), (.ref SE, fun _ _ _ => tRet (tC (.str "other")))]) rfl rfl takes0
      (fun W pn xe tk _ => pss_one (ps_ret (pe_callS GD hr rfl gD kD bD (fun σ => passAt tk σ) (pa_cons (pv 0) (pa_cons (pv 1) (pa_cons (pv 2) pa_nil))))))
      (.cons ⟨rfl, by decide, .inl TE.gND⟩ (fun a oe cls d pn _ _ => pss_one (ps_ret pe_str)) (.cons ⟨rfl, by decide, .inl TE.gSE⟩ (fun a oe cls d pn _ _ => pss_one (ps_ret pe_str)) .nil))), ?_⟩
    refine ⟨_, rfl, _, rfl, _, rfl, c, l, cs, ls, m, rfl, G, fC, fL, k1, fun z => ?_⟩
    exact ⟨true, TE.eND, fun _ a ha => k2 z, fun q => Bool.noConfusion q⟩
end
end K54

namespace K54
open PySem PySem.Spec PyProof.Rows L2
/-! ### what == sees -/
def pI (ns : List Int) : PyData := .list (ns.map PyData.int)
def pF (x : Int) : PyData := .tuple [.int (num x), .int (den x)]
def pDeal (r : List Int × Int) : PyData := .tuple [pI r.1, pF r.2]
def pDs (ds : List (List Int)) : PyData := .list (ds.map pI)
def pCs (cs : List Int) : PyData := .list (cs.map pF)
theorem lay_all : ∀ {ds : List PyData}, (∀ d ∈ ds, d.canLay0 = true) → PyData.canLayAll0 ds = true
  | [], _ => by simp [PyData.canLayAll0]
  | d :: ds, h => by simp [PyData.canLayAll0, h d List.mem_cons_self, lay_all (ds := ds) fun x hx => h x (List.mem_cons_of_mem _ hx)]
theorem depth_all {n : Nat} : ∀ {ds : List PyData}, (∀ d ∈ ds, d.depth ≤ n) → PyData.depthAll ds ≤ n
  | [], _ => by simp [PyData.depthAll]
  | d :: ds, h => by
    have h1 := h d List.mem_cons_self
    have h2 := depth_all (ds := ds) fun x hx => h x (List.mem_cons_of_mem _ hx)
    simp only [PyData.depthAll]
    omega
/-- laid out, and not deep -/
def Lay (n : Nat) (d : PyData) : Prop := d.canLay0 = true ∧ d.depth ≤ n
theorem Lay.shaped {n : Nat} {d : PyData} (h : Lay n d) (hn : n ≤ 64) : SeqAt.shaped d = true := by
  unfold SeqAt.shaped
  rw [Bool.and_eq_true]
  exact ⟨h.1, decide_eq_true (Nat.le_trans h.2 hn)⟩
theorem lay_int (i : Int) : Lay 0 (.int i) := by
  constructor
  · simp [PyData.canLay0]
  · simp [PyData.depth]
theorem lay_list {n : Nat} {ds : List PyData} (h : ∀ d ∈ ds, Lay n d) : Lay (n + 1) (.list ds) := by
  constructor
  · simp only [PyData.canLay0]
    exact lay_all fun d hd => (h d hd).1
  · have := depth_all (n := n) fun d hd => (h d hd).2
    simp only [PyData.depth]
    omega
theorem lay_tup {n : Nat} {ds : List PyData} (h : ∀ d ∈ ds, Lay n d) : Lay (n + 1) (.tuple ds) := by
  constructor
  · simp only [PyData.canLay0]
    exact lay_all fun d hd => (h d hd).1
  · have := depth_all (n := n) fun d hd => (h d hd).2
    simp only [PyData.depth]
    omega
theorem lay_I (ns : List Int) : Lay 1 (pI ns) := lay_list fun d hd => by
  rw [List.mem_map] at hd
  obtain ⟨i, _, rfl⟩ := hd
  exact lay_int i
theorem lay_F (x : Int) : Lay 1 (pF x) := lay_tup fun d hd => by
  simp at hd
  rcases hd with rfl | rfl <;> exact lay_int _
theorem lay_Deal (r : List Int × Int) : Lay 2 (pDeal r) := lay_tup fun d hd => by
  simp at hd
  rcases hd with rfl | rfl
  · exact lay_I _
  · exact lay_F _
theorem lay_Ds (ds : List (List Int)) : Lay 2 (pDs ds) := lay_list fun d hd => by
  rw [List.mem_map] at hd
  obtain ⟨i, _, rfl⟩ := hd
  exact lay_I i
theorem lay_Cs (cs : List Int) : Lay 2 (pCs cs) := lay_list fun d hd => by
  rw [List.mem_map] at hd
  obtain ⟨i, _, rfl⟩ := hd
  exact lay_F i
theorem lay_nil : Lay 1 (.list []) := lay_list fun d hd => by cases hd
theorem eqv_same {n : Nat} {d : PyData} (h : Lay n d) : PyData.eqv d d = true := SeqAt.eqv_refl d h.1
theorem eqvAll_I : ∀ a b : List Int, PyData.eqvAll (a.map PyData.int) (b.map PyData.int) = decide (a = b)
  | [], [] => by simp [PyData.eqvAll]
  | [], y :: b => by simp [PyData.eqvAll]
  | x :: a, [] => by simp [PyData.eqvAll]
  | x :: a, y :: b => by
    simp only [List.map_cons, PyData.eqvAll, PyData.eqv]
    rw [eqvAll_I a b]
    by_cases h1 : x = y
    · by_cases h2 : a = b
      · simp [h1, h2]
      · simp [h1, h2]
    · simp [h1]
theorem eqv_I (a b : List Int) : PyData.eqv (pI a) (pI b) = decide (a = b) := by
  unfold pI
  simp only [PyData.eqv]
  exact eqvAll_I a b
theorem eqv_F (x y : Int) : PyData.eqv (pF x) (pF y) = decide (x = y) := by
  unfold pF
  simp only [PyData.eqv, PyData.eqvAll]
  by_cases h : x = y
  · subst h
    simp
  · rw [decide_eq_false h]
    by_cases h1 : num x = num y
    · by_cases h2 : den x = den y
      · exact absurd (f_inj h1 h2) h
      · simp [h2]
    · simp [h1]
theorem eqv_Ds_nil (ds : List (List Int)) : PyData.eqv (pDs ds) (.list []) = decide (ds = []) := by
  unfold pDs
  simp only [PyData.eqv]
  cases ds with
  | nil => simp [PyData.eqvAll]
  | cons d r => simp [PyData.eqvAll]
theorem any_I (ns : List Int) : ∀ ds : List (List Int), ((ds.map pI).any fun z => PyData.eqv z (pI ns)) = decide (ns ∈ ds)
  | [] => by simp
  | d :: r => by
    rw [List.map_cons, List.any_cons, eqv_I, any_I ns r]
    by_cases h1 : d = ns
    · subst h1
      simp
    · rw [decide_eq_false h1, Bool.false_or]
      by_cases h2 : ns ∈ r
      · rw [decide_eq_true h2, decide_eq_true (List.mem_cons_of_mem _ h2)]
      · rw [decide_eq_false h2, decide_eq_false]
        intro q
        rcases List.mem_cons.mp q with e | e
        · exact h1 e.symm
        · exact h2 e
section
variable {K : PySem.W.Frag} {H : Hp}
theorem dpAll_I : ∀ ns : List Int, DpAll K H (ns.map V.int) (ns.map PyData.int)
  | [] => .nil
  | n :: ns => .cons (.int n) (dpAll_I ns)
theorem dp_I {a : Addr} {ns : List Int} (h : SqL K H a (ns.map V.int)) : Dp K H (.ref a) (pI ns) := .lst h (dpAll_I ns)
theorem dp_F {v : V} {x : Int} (h : Fr K H v x) : Dp K H v (pF x) := by
  obtain ⟨t, rfl, q⟩ := h
  exact .tup q (.cons (.int _) (.cons (.int _) .nil))
theorem dp_Deal {v : V} {r : List Int × Int} (h : DealT K H v r) : Dp K H v (pDeal r) := by
  obtain ⟨t, a, u, rfl, h1, h2, h3⟩ := h
  exact .tup (.of h1) (.cons (dp_I (.of h2)) (.cons (dp_F h3) .nil))
theorem dpAll_Ds {H0 : Hp} : ∀ {xs : List V} {ds : List (List Int)}, Paired (ILf H0 H) xs ds → DpAll K H xs (ds.map pI)
  | _, _, .nil => .nil
  | _, _, .cons r t => by
    obtain ⟨a, _, rfl, q⟩ := r
    exact .cons (dp_I (.of q)) (dpAll_Ds t)
theorem dp_Ds {H0 : Hp} {a : Addr} {xs : List V} {ds : List (List Int)} (h : H a = some (.lst xs)) (q : DealsL H0 H xs ds) : Dp K H (.ref a) (pDs ds) := .lst (.of h) (dpAll_Ds q)
theorem dpAll_Cs : ∀ {xs : List V} {cs : List Int}, Paired (Fr K H) xs cs → DpAll K H xs (cs.map pF)
  | _, _, .nil => .nil
  | _, _, .cons r t => .cons (dp_F r) (dpAll_Cs t)
theorem dp_Cs {a : Addr} {xs : List V} {cs : List Int} (h : SqL K H a xs) (q : Paired (Fr K H) xs cs) : Dp K H (.ref a) (pCs cs) := .lst h (dpAll_Cs q)
theorem dp_nil {a : Addr} (h : H a = some (.lst [])) : Dp K H (.ref a) (.list []) := .lst (.of h) .nil
end
/-! ### all but the row stands -/
def SameX (r : Addr) (H H' : Hp) : Prop := ∀ b o, b ≠ r → H b = some o → H' b = some o
theorem SameX.refl (r : Addr) (H : Hp) : SameX r H H := fun _ _ _ h => h
theorem SameX.trans {r : Addr} {H H1 H2 : Hp} (a : SameX r H H1) (b : SameX r H1 H2) : SameX r H H2 := fun c o n h => b c o n (a c o n h)
theorem SameX.of {r : Addr} {H H' : Hp} (s : Same H H') : SameX r H H' := fun b o _ h => s b o h
theorem SameX.thn {r : Addr} {H H1 H2 : Hp} (a : SameX r H H1) (b : Same H1 H2) : SameX r H H2 := a.trans (.of b)
/-- the row is a list of ints -/
def Row (r : Addr) (H : Hp) : Prop := ∃ rs : List Int, H r = some (.lst (rs.map V.int))
theorem Row.mono {r : Addr} {H H' : Hp} (s : Same H H') (h : Row r H) : Row r H' := by
  obtain ⟨rs, e⟩ := h
  exact ⟨rs, s _ _ e⟩
theorem fr_x {K : PySem.W.Frag} {r : Addr} {H H' : Hp} {v : V} {x : Int} (hr : Row r H) (s : SameX r H H') (h : Fr K H v x) : Fr K H' v x := by
  obtain ⟨t, e, q⟩ := h
  obtain ⟨rs, hr⟩ := hr
  refine ⟨t, e, ?_⟩
  rcases q with (q | ⟨o, q⟩) | q
  · exact .inl (.inl (s _ _ (ne_of q hr (by intro z; cases z)) q))
  · exact .inl (.inr ⟨o, s _ _ (ne_of q hr (by intro z; cases z)) q⟩)
  · exact .inr q
theorem frs_x {K : PySem.W.Frag} {r : Addr} {H H' : Hp} {vs : List V} {cs : List Int} (hr : Row r H) (s : SameX r H H') (h : Paired (Fr K H) vs cs) : Paired (Fr K H') vs cs := Paired.mapP h fun _ _ q => fr_x hr s q
/-- a take: the row is another, all else stands -/
theorem take_x {r : Addr} {H H' : Hp} {rs' : List Int} (h1 : ∀ c, c ≠ r → H' c = H c) (h2 : H' r = some (.lst (rs'.map V.int))) : SameX r H H' ∧ Row r H' :=
  ⟨fun b o n e => by rw [h1 b n]; exact e, rs', h2⟩
/-- the price, the cost that are drawn -/
theorem draw_cost {p d : Int} (h0 : 0 ≤ p) (hd : 0 ≤ d) (h4 : d < 4) : ∃ x, p * 5040 = x * (1 + d) ∧ 0 ≤ x ∧ ∃ e, x = 420 * e := by
  have : d = 0 ∨ d = 1 ∨ d = 2 ∨ d = 3 := by omega
  rcases this with e | e | e | e <;> subst e
  · exact ⟨5040 * p, by omega, by omega, 12 * p, by omega⟩
  · exact ⟨2520 * p, by omega, by omega, 6 * p, by omega⟩
  · exact ⟨1680 * p, by omega, by omega, 4 * p, by omega⟩
  · exact ⟨1260 * p, by omega, by omega, 3 * p, by omega⟩
theorem draw_price {p d : Int} (hd : 0 ≤ d) (h7 : d < 7) : ∃ x, p * 5040 = x * (1 + d) := by
  have : d = 0 ∨ d = 1 ∨ d = 2 ∨ d = 3 ∨ d = 4 ∨ d = 5 ∨ d = 6 := by omega
  rcases this with e | e | e | e | e | e | e <;> subst e
  · exact ⟨5040 * p, by omega⟩
  · exact ⟨2520 * p, by omega⟩
  · exact ⟨1680 * p, by omega⟩
  · exact ⟨1260 * p, by omega⟩
  · exact ⟨1008 * p, by omega⟩
  · exact ⟨840 * p, by omega⟩
  · exact ⟨720 * p, by omega⟩
/-! ### is_deal tells the deals -/
theorem isDealB_iff {ls : List Int} {m : Int} {ns : List Int} : isDealB ls m ns = true ↔ IsDeal ls m ns := by
  have eB : isDealB ls m ns = (decide (ns.length = ls.length) && (decide (ns.sum = m) && (List.zipWith okN ns ls).all id)) := rfl
  rw [eB, Bool.and_eq_true, Bool.and_eq_true, decide_eq_true_eq, decide_eq_true_eq, List.all_eq_true]
  unfold IsDeal
  constructor
  · rintro ⟨a, b, c⟩
    refine ⟨a, b, fun h hh => ?_⟩
    have hn : ns[h]? = some (ns.getD h 0) := getD_get (by omega)
    have hl : ls[h]? = some (ls.getD h 0) := getD_get hh
    have := c _ (List.mem_of_getElem? (zw_get (f := okN) hn hl))
    unfold okN at this
    simpa using this
  · rintro ⟨a, b, c⟩
    refine ⟨a, b, fun x hx => ?_⟩
    obtain ⟨i, hi⟩ := List.getElem?_of_mem hx
    have hil : i < ls.length := by
      have := (List.getElem?_eq_some_iff.mp hi).1
      rw [List.length_zipWith] at this
      omega
    have hn : ns[i]? = some (ns.getD i 0) := getD_get (by omega)
    have hl : ls[i]? = some (ls.getD i 0) := getD_get hil
    rw [zw_get (f := okN) hn hl] at hi
    have e := Option.some.inj hi
    rw [← e]
    unfold okN
    have := c i hil
    simpa using this
theorem isDealB_mem (ls : List Int) (m : Int) (ns : List Int) : isDealB ls m ns = decide (ns ∈ deals ls m) := by
  by_cases h : ns ∈ deals ls m
  · rw [decide_eq_true h]
    exact isDealB_iff.mpr (mem_deals.mp h)
  · rw [decide_eq_false h]
    cases e : isDealB ls m ns with
    | false => rfl
    | true => exact absurd (mem_deals.mpr (isDealB_iff.mp e)) h
end K54

namespace K54
open PySem PySem.Spec PyProof.Rows L2
/-! ### ways joined behind a statement -/
def tJoin (t : TS) : TS := fun D σ H => ∃ J : L2.St → Hp → Prop, t { D with nx := J } σ H ∧ ∀ σ' H', J σ' H' → D.nx σ' H'
theorem ps_join {X : Cx} {st : Stmt} {t : TS} (h : PS X st t) : PS X st (tJoin t) := by
  refine ⟨fun pins s σ H D I ⟨J, ahead, behind⟩ => thn (h.run pins s σ H _ I ahead) fun f t out => ?_⟩
  cases f
  case next => exact out.imp fun _ q => q.imp fun _ q => q.imp_right (behind _ _)
  all_goals exact out
theorem units65 {k : Nat} {A : Around} (r : Room k A) : A.units + 65 < cLine := by
  have := r.un
  omega
theorem iteB0 {b : Bool} {A B : Prop} (h : b = true) (h2 : B) : if (!b) = true then A else B := by
  rw [h]
  exact iteF h2
theorem iteB {b : Bool} {A B : Prop} (h : b = false) (h2 : B) : if b = true then A else B := by
  rw [h]
  exact iteF h2
theorem iteBT {b : Bool} {A B : Prop} (h : b = true) (h2 : A) : if b = true then A else B := by
  rw [h]
  exact iteT h2
/-! ### what the law holds in its slots -/
def CostsAt (K : PySem.W.Frag) (r : Addr) (H : Hp) (a : Addr) (cs : List Int) : Prop := ∃ us, a ≠ r ∧ H a = some (.lst us) ∧ Paired (Fr K H) us cs
def ListAt (r : Addr) (H : Hp) (a : Addr) (ls : List Int) : Prop := a ≠ r ∧ H a = some (.lst (ls.map V.int))
def DealsAt (r : Addr) (H : Hp) (a : Addr) (ds : List (List Int)) : Prop := ∃ H0 xs, a ≠ r ∧ H0 r ≠ none ∧ H a = some (.lst xs) ∧ DealsL H0 H xs ds
theorem CostsAt.x {K : PySem.W.Frag} {r : Addr} {H H' : Hp} {a : Addr} {cs : List Int} (hr : Row r H) (s : SameX r H H') (h : CostsAt K r H a cs) : CostsAt K r H' a cs := by
  obtain ⟨us, n, e, p⟩ := h
  exact ⟨us, n, s _ _ n e, frs_x hr s p⟩
theorem ListAt.x {r : Addr} {H H' : Hp} {a : Addr} {ls : List Int} (s : SameX r H H') (h : ListAt r H a ls) : ListAt r H' a ls := ⟨h.1, s _ _ h.1 h.2⟩
theorem DealsAt.x {r : Addr} {H H' : Hp} {a : Addr} {ds : List (List Int)} (s : SameX r H H') (h : DealsAt r H a ds) : DealsAt r H' a ds := by
  obtain ⟨H0, xs, n, n0, e, p⟩ := h
  refine ⟨H0, xs, n, n0, s _ _ n e, Paired.mapP p fun v ns q => ?_⟩
  obtain ⟨b, f, eb, q⟩ := q
  exact ⟨b, f, eb, s _ _ (fun z => n0 (by rw [← z]; exact f)) q⟩
theorem CostsAt.frl {K : PySem.W.Frag} {r : Addr} {H : Hp} {a : Addr} {cs : List Int} (h : CostsAt K r H a cs) : FrL K H (.ref a) cs := by
  obtain ⟨us, n, e, p⟩ := h
  exact ⟨a, us, rfl, .of e, p⟩
theorem CostsAt.dp {K : PySem.W.Frag} {r : Addr} {H : Hp} {a : Addr} {cs : List Int} (h : CostsAt K r H a cs) : Dp K H (.ref a) (pCs cs) := by
  obtain ⟨us, n, e, p⟩ := h
  exact dp_Cs (.of e) p
theorem ListAt.il {K : PySem.W.Frag} {r : Addr} {H : Hp} {a : Addr} {ls : List Int} (h : ListAt r H a ls) : IL K H (.ref a) ls := ⟨a, rfl, .of h.2⟩
structure GoodC (cs : List Int) : Prop where
  lo : 1 ≤ cs.length
  hi : cs.length ≤ 4
  c : ∀ c ∈ cs, 0 ≤ c ∧ ∃ d, c = 420 * d
abbrev nLaw : List Str := ["_law_script", "_law_row", "_law_costs", "_law_limits", "_law_places", "_law_given", "_law_bounds", "_law_told_here", "_law_deals_here", "_law_least", "_law_numbers_here", "_law_turn", "_law_price", "_law_bound_here", "_law_k", "_law_cost", "_law_limit"]
theorem scLaw : FnScope nLaw ["_law_script"] (defScope sLaw) := ⟨rfl, rfl, rfl, by decide +kernel, rfl, by decide +kernel, by decide +kernel⟩
theorem samex_D {r D : Addr} {H H' : Hp} {o : HO} (s : SameX r H H') (h : H D = none) : SameX r H (upd H' D o) := fun b x n e => by
  rw [upd_ne (ne_of_none e h)]
  exact s b x n e
theorem row_D {r D : Addr} {H : Hp} {o : HO} (h : Row r H) (n : D ≠ r) : Row r (upd H D o) := by
  obtain ⟨q, e⟩ := h
  exact ⟨q, by rw [upd_ne n.symm]; exact e⟩
theorem Row.ne {r D : Addr} {H : Hp} (h : Row r H) (n : H D = none) : D ≠ r := by
  obtain ⟨q, e⟩ := h
  exact (ne_of_none e n).symm
theorem Row.sm {r : Addr} {H : Hp} (h : Row r H) : H r ≠ none := by
  obtain ⟨q, e⟩ := h
  rw [e]
  intro z
  cases z
theorem pr_rep {α β : Type} {G : α → β → Prop} {a : α} {b : β} (h : G a b) : ∀ n : Nat, Paired G (List.replicate n a) (List.replicate n b)
  | 0 => .nil
  | n + 1 => .cons h (pr_rep h n)
theorem sum_ge_len : ∀ {ls : List Int}, (∀ l ∈ ls, 1 ≤ l) → (ls.length : Int) ≤ ls.sum
  | [], _ => by simp
  | x :: r, h => by
    have ih := sum_ge_len (ls := r) fun l hl => h l (List.mem_cons_of_mem _ hl)
    have hx := h x List.mem_cons_self
    rw [List.sum_cons, List.length_cons]
    omega
theorem DealT.mono {K : PySem.W.Frag} {H H' : Hp} {v : V} {r : List Int × Int} (s : Same H H') (h : DealT K H v r) : DealT K H' v r := by
  obtain ⟨t, a, u, e, h1, h2, h3⟩ := h
  exact ⟨t, a, u, e, s _ _ h1, s _ _ h2, h3.mono s⟩
theorem DealsAt.dp {K : PySem.W.Frag} {r : Addr} {H : Hp} {a : Addr} {ds : List (List Int)} (h : DealsAt r H a ds) : Dp K H (.ref a) (pDs ds) := by
  obtain ⟨H0, xs, n, n0, e, p⟩ := h
  exact dp_Ds e p
/-- the pairs (i-th item, list) of the deals -/
theorem DealsAt.at {r : Addr} {H : Hp} {a : Addr} {ds : List (List Int)} (h : DealsAt r H a ds) : ∃ xs, H a = some (.lst xs) ∧ xs.length = ds.length ∧ ∀ (i : Nat) (d : List Int), ds[i]? = some d → ∃ b, b ≠ r ∧ xs[i]? = some (V.ref b) ∧ H b = some (.lst (d.map V.int)) := by
  obtain ⟨H0, xs, n, n0, e, p⟩ := h
  refine ⟨xs, e, pr_len p, fun i d hd => ?_⟩
  obtain ⟨v, hv, b, f, rfl, q⟩ := pr_get2 p hd
  exact ⟨b, fun z => n0 (by rw [← z]; exact f), hv, q⟩
theorem SameX.free {r l : Addr} {H H' : Hp} (s : SameX r H H') (h : H' l = none) (n : l ≠ r) : H l = none := by
  cases q : H l with
  | none => rfl
  | some o =>
    rw [s l o n q] at h
    cases h
theorem deal_items {cs ls : List Int} {m : Int} {d : List Int} (G : Good cs ls) (D : IsDeal ls m d) : cs.length = d.length ∧ cs.length ≤ 1000 ∧ (∀ x ∈ cs, ∃ e, x = 420 * e) ∧ ∀ y ∈ d, 1 ≤ y ∧ y ≤ 5 := by
  obtain ⟨a, b, c⟩ := D
  have h1 := G.len
  have h2 := G.hi
  refine ⟨by omega, by omega, fun x hx => (G.c x hx).2, fun y hy => ?_⟩
  obtain ⟨i, hi⟩ := List.getElem?_of_mem hy
  have hil : i < ls.length := by
    have := (List.getElem?_eq_some_iff.mp hi).1
    omega
  have := c i hil
  rw [getD_of hi] at this
  have := G.l _ (getD_mem hil)
  omega
theorem not_longer {ls : List Int} {m : Int} {d : List Int} (h : d.length = ls.length) : isDealB ls m (d ++ [1]) = false := by
  rw [isDealB_mem]
  refine decide_eq_false fun q => ?_
  have := (mem_deals.mp q).1
  rw [List.length_append, h] at this
  simp at this
section
variable {P : Program} {w : World} {K : PySem.W.Frag} {mg : Str → Option Value} {base : Heap} {aN ND SE : Addr}
theorem ok_law {f : Addr} {fd : FuncData} (F : Fun K "law" "law" sLaw f fd) (T : Txt K mg aN)
    (DNu : Dn P w K mg base 2 "_law_numbers" ["_law_script", "_law_count"] (spNums K)) (DTk : Dn P w K mg base 1 "_law_take" ["_law_row", "_law_bound_here"] spTake)
    (DLo : Dn P w K mg base 1 "_law_low" ["_law_p", "_law_q"] (spLow K)) (DTo : Dn P w K mg base 6 "_law_told" ["_law_costs", "_law_limits", "_law_places"] (spTold K))
    (DDe : Dn P w K mg base 1 "_law_deals" ["_law_limits", "_law_places"] (spLDeals K)) (DIs : Dn P w K mg base 1 "is_deal" ["limits", "places", "numbers"] (spIsDeal K))
    (DGr : Dn P w K mg base 3 "_law_greedy" ["_law_costs", "_law_limits", "_law_places"] (spGreedy K)) (DLv : Dn P w K mg base 3 "_law_variance" ["_law_costs", "_law_numbers_here"] (spVar K))
    (DLl : Dn P w K mg base 1 "_law_less" ["_law_one", "_law_other"] (spLess K)) (DVa : Dn P w K mg base 4 "variance_of" ["costs", "numbers"] (spVar K))
    (DBo : Dn P w K mg base 4 "deal_bound" ["costs", "limits", "places", "price"] (spBound K)) (DLb : Dn P w K mg base 3 "_law_bound" ["_law_costs", "_law_limits", "_law_places", "_law_price"] (spBound K)) :
    FnOk P w K mg base CX0 7 f fd ["_law_script"] (spLaw K) := by
  refine F.ok scLaw (fun vs H Q E h => ?_) (fun cdv A outer s H vs Q E hr h => ?_)
  · obtain ⟨a, ns, rfl, _⟩ := h
    rfl
  · obtain ⟨a, ns, rfl, hS, hlen, k⟩ := h
    refine ⟨_, pss_cons (ps_set (i := 1) scLaw.nd rfl (.inr rfl) (pe_callD DNu hr (by decide) (pa_cons (pv 0) (pa_cons pe_int pa_nil)) rfl))
      -- costs
      (pss_cons (ps_set (i := 2) scLaw.nd rfl (.inr rfl) (pe_lc (own := [("_law_k", 14)]) (g := gName 14) (tt := tYes)
        (te := tCall (spLow K) [] E0 (tCons (tCall spTake [] E0 (tCons (tVar 1) (tCons (tC (.int 40)) tNil))) (tCons (tOp (rI0 fun i j => .int (i + j)) (tC (.int 1)) (tCall spTake [] E0 (tCons (tVar 1) (tCons (tC (.int 4)) tNil)))) tNil))) rfl scLaw.nd
        (pi_range1 (by rfl) T.range (pa_cons (pe_op op_add pe_int (pe_callD DTk hr (by decide) (pa_cons (pv 1) (pa_cons pe_int pa_nil)) rfl)) pa_nil))
        (blkOk_by (N := nLaw) (sc := defScope sLaw) (by decide +kernel)) (fun _ _ _ _ _ => pg_name (i := 14) scLaw.nd rfl (Or.inl rfl)) (fun _ _ _ _ _ => pts_nil)
        (fun _ _ _ _ _ => pe_callD DLo hr (by decide) (pa_cons (pe_callD DTk hr (by decide) (pa_cons (pv 1) (pa_cons pe_int pa_nil)) rfl) (pa_cons (pe_op op_add pe_int (pe_callD DTk hr (by decide) (pa_cons (pv 1) (pa_cons pe_int pa_nil)) rfl)) pa_nil)) rfl)))
      (pss_cons (ps_join (ps_if (pt_cmpR op_eq (pe_callD DTk hr (by decide) (pa_cons (pv 1) (pa_cons pe_int pa_nil)) rfl) pe_int (nomark _))
        (pss_one (ps_set (i := 2) scLaw.nd rfl (.inr rfl) (pe_lc (own := [("_law_cost", 15)]) (g := gName 15) (tt := tYes) (te := tOp (rIxL K) (tVar 2) (tC (.int 0))) rfl scLaw.nd (pi_list (pv 2))
          (blkOk_by (N := nLaw) (sc := defScope sLaw) (by decide +kernel)) (fun _ _ _ _ _ => pg_name (i := 15) scLaw.nd rfl (Or.inl rfl)) (fun _ _ _ _ _ => pts_nil) (fun _ _ _ _ _ => pe_ix ix_list (pv 2) pe_int (fun _ _ => rfl))))) pss_nil))
      -- limits
      (pss_cons (ps_setLc (i := 3) (own := [("_law_cost", 15)]) (g := gName 15) (tt := tYes) (te := tOp (rI0 fun i j => .int (i + j)) (tC (.int 1)) (tCall spTake [] E0 (tCons (tVar 1) (tCons (tC (.int 5)) tNil)))) rfl scLaw.nd rfl rfl (sw_true rfl rfl rfl (by decide +kernel))
        (pi_list (pv 2)) (blkOk_by (N := nLaw) (sc := defScope sLaw) (by decide +kernel)) (fun _ _ _ _ _ => pg_name (i := 15) scLaw.nd rfl (Or.inl rfl)) (fun _ _ _ _ _ => pts_nil)
        (fun _ _ _ _ _ => pe_op op_add pe_int (pe_callD DTk hr (by decide) (pa_cons (pv 1) (pa_cons pe_int pa_nil)) rfl)))
      -- places
      (pss_cons (ps_set (i := 4) scLaw.nd rfl (.inl rfl) (pe_op op_add (pe_callB call_len_seq (by rfl) T.len PySem.boot_len (pa_cons (pv 3) pa_nil))
        (pe_callD DTk hr (by decide) (pa_cons (pv 1) (pa_cons (pe_op op_add (pe_op op_sub (pe_callB (cr_sum rfl) (by rfl) T.sum (by decide +kernel) (pa_cons (pv 3) pa_nil)) (pe_callB call_len_seq (by rfl) T.len PySem.boot_len (pa_cons (pv 3) pa_nil))) pe_int) pa_nil)) rfl)))
      (pss_cons (ps_join (ps_if (pt_cmpR op_eq (pe_callD DTk hr (by decide) (pa_cons (pv 1) (pa_cons pe_int pa_nil)) rfl) pe_int (nomark _))
        (pss_one (ps_set (i := 4) scLaw.nd rfl (.inl rfl) (pe_ix ix_list (pe_lst (pa_cons pe_int (pa_cons (pe_op op_sub (pe_callB call_len_seq (by rfl) T.len PySem.boot_len (pa_cons (pv 3) pa_nil)) pe_int)
          (pa_cons (pe_op op_add (pe_callB (cr_sum rfl) (by rfl) T.sum (by decide +kernel) (pa_cons (pv 3) pa_nil)) pe_int) pa_nil)))) (pe_callD DTk hr (by decide) (pa_cons (pv 1) (pa_cons pe_int pa_nil)) rfl) (fun _ _ => rfl)))) pss_nil))
      -- given, bounds
      (pss_cons (ps_par (i := 5) (j := 6) (by rfl) scLaw.nd rfl rfl (by decide) rfl rfl (pa_cons (pe_callTy call_list_of (by rfl) T.list (by decide +kernel) (pa_cons (pv 2) pa_nil)) (pa_cons (pe_callTy call_list_of (by rfl) T.list (by decide +kernel) (pa_cons (pv 3) pa_nil)) pa_nil)) (by rfl))
      (pss_cons (ps_join (ps_set (i := 7) scLaw.nd rfl (.inl rfl) (pe_callD DTo hr (by decide) (pa_cons (pv 5) (pa_cons (pv 6) (pa_cons (pv 4) pa_nil))) rfl)))
      (pss_cons (ps_set (i := 8) scLaw.nd rfl (.inl rfl) (pe_callD DDe hr (by decide) (pa_cons (pv 3) (pa_cons (pv 4) pa_nil)) rfl))
      -- if deals == []
      (pss_cons (ps_if (pt_cmpR (op_eqD hr.units) (pv 8) (pe_lst pa_nil) (nomark _))
        (pss_one (ps_ret (pe_and (pe_cmpR op_eq (pv 7) pe_str (nomark _)) (pe_one (pe_not (pe_callD DIs hr (by decide) (pa_cons (pv 6) (pa_cons (pv 4) (pa_cons
          (pe_lc (own := [("_law_limit", 16)]) (g := gName 16) (tt := tYes) (te := tC (.int 1)) rfl scLaw.nd (pi_list (pv 3)) (blkOk_by (N := nLaw) (sc := defScope sLaw) (by decide +kernel)) (fun _ _ _ _ _ => pg_name (i := 16) scLaw.nd rfl (Or.inl rfl)) (fun _ _ _ _ _ => pts_nil) (fun _ _ _ _ _ => pe_int)) pa_nil))) rfl)))))) pss_nil)
      -- if told != greedy or not isinstance
      (pss_cons (ps_if (PW.pt (pw_or (pt_cmpR (op_neD hr.units) (pv 7) (pe_callD DGr hr (by decide) (pa_cons (pv 2) (pa_cons (pv 3) (pa_cons (pv 4) pa_nil))) rfl) (nomark _))
          (pw_or1 (pt_not (pt_val (pe_callB RZ.call_isTy (by rfl) T.isi (by decide +kernel) (pa_cons (pv 7) (pa_cons (pe_bltn (v := .ty "tuple") (by rfl) T.tuple (by decide +kernel) rfl) pa_nil))))))))
        (pss_one (ps_ret pe_bl)) pss_nil)
      (pss_cons (ps_set (i := 9) scLaw.nd rfl (.inl rfl) (pe_callD DLv hr (by decide) (pa_cons (pv 2) (pa_cons (px 7) pa_nil)) rfl))
      -- all deals
      (pss_cons (ps_for PassesOwn.never rfl (pi_list (pv 8)) (pg_name (i := 10) scLaw.nd rfl (Or.inl rfl))
        (pss_one (ps_if (PW.pt (pw_or (pt_not (pt_val (pe_callD DIs hr (by decide) (pa_cons (pv 6) (pa_cons (pv 4) (pa_cons (pe_callTy call_list_of (by rfl) T.list (by decide +kernel) (pa_cons (pv 10) pa_nil)) pa_nil))) rfl)))
            (pw_or1 (pt_val (pe_callD DLl hr (by decide) (pa_cons (pe_callD DLv hr (by decide) (pa_cons (pv 2) (pa_cons (pv 10) pa_nil)) rfl) (pa_cons (pv 9) pa_nil)) rfl)))))
          (pss_one (ps_ret pe_bl)) pss_nil)))
      -- variance_of, the told price
      (pss_cons (ps_if (PW.pt (pw_or (pt_cmpR (op_neD hr.units) (pe_callD DVa hr (by decide) (pa_cons (pv 5) (pa_cons (pe_callTy call_list_of (by rfl) T.list (by decide +kernel) (pa_cons (pe_ix ix_list (pv 8) pe_int (fun _ _ => rfl)) pa_nil)) pa_nil)) rfl)
            (pe_callD DLv hr (by decide) (pa_cons (pv 2) (pa_cons (pe_ix ix_list (pv 8) pe_int (fun _ _ => rfl)) pa_nil)) rfl) (nomark _))
          (pw_or1 (pt_cmpR (op_neD hr.units) (pe_callD DBo hr (by decide) (pa_cons (pv 5) (pa_cons (pv 6) (pa_cons (pv 4) (pa_cons (px 7) pa_nil)))) rfl) (pv 9) (nomark _)))))
        (pss_one (ps_ret pe_bl)) pss_nil)
      -- four turns
      (pss_cons (ps_for PassesOwn.never rfl (pi_range1 (by rfl) T.range (pa_cons pe_int pa_nil)) (pg_name (i := 11) scLaw.nd rfl (Or.inl rfl))
        (pss_cons (ps_set (i := 12) scLaw.nd rfl (.inl rfl) (pe_callD DLo hr (by decide) (pa_cons (pe_callD DTk hr (by decide) (pa_cons (pv 1) (pa_cons pe_int pa_nil)) rfl) (pa_cons (pe_op op_add pe_int (pe_callD DTk hr (by decide) (pa_cons (pv 1) (pa_cons pe_int pa_nil)) rfl)) pa_nil)) rfl))
        (pss_cons (ps_set (i := 13) scLaw.nd rfl (.inl rfl) (pe_callD DBo hr (by decide) (pa_cons (pv 5) (pa_cons (pv 6) (pa_cons (pv 4) (pa_cons (pv 12) pa_nil)))) rfl))
        (pss_cons (ps_if (PW.pt (pw_or (pt_cmpR (op_neD hr.units) (pv 13) (pe_callD DLb hr (by decide) (pa_cons (pv 2) (pa_cons (pv 3) (pa_cons (pv 4) (pa_cons (pv 12) pa_nil)))) rfl) (nomark _))
            (pw_or1 (pt_val (pe_callD DLl hr (by decide) (pa_cons (pv 9) (pa_cons (pv 13) pa_nil)) rfl)))))
          (pss_one (ps_ret pe_bl)) pss_nil)
        (pss_cons (ps_set (i := 10) scLaw.nd rfl (.inl rfl) (pe_callTy call_list_of (by rfl) T.list (by decide +kernel) (pa_cons (pe_ix ix_list (pv 8) (pe_callD DTk hr (by decide) (pa_cons (pv 1) (pa_cons (pe_callB call_len_seq (by rfl) T.len PySem.boot_len (pa_cons (pv 8) pa_nil)) pa_nil)) rfl) (fun _ _ => rfl)) pa_nil)))
        (pss_cons (ps_asg (pe_callD DTk hr (by decide) (pa_cons (pv 1) (pa_cons pe_int pa_nil)) rfl) (pg_sub (pv 10) (pe_callD DTk hr (by decide) (pa_cons (pv 1) (pa_cons (pe_callB call_len_seq (by rfl) T.len PySem.boot_len (pa_cons (pv 10) pa_nil)) pa_nil)) rfl) set_list))
        (pss_one (ps_if (PW.pt (pw_or (pt_cmpR op_ne (pe_callD DIs hr (by decide) (pa_cons (pv 6) (pa_cons (pv 4) (pa_cons (pv 10) pa_nil))) rfl) (pe_cmpR (op_inD (units65 hr)) (pv 10) (pv 8) (by rfl)) (nomark _))
            (pw_or1 (pt_val (pe_callD DIs hr (by decide) (pa_cons (pv 6) (pa_cons (pv 4) (pa_cons (pe_op op_cat (pv 10) (pe_lst (pa_cons pe_int pa_nil))) pa_nil))) rfl)))))
          (pss_one (ps_ret pe_bl)) pss_nil))))))))
      (pss_one (ps_ret (pe_and (pe_cmpR (op_eqD hr.units) (pv 5) (pv 2) (nomark _)) (pe_one (pe_cmpR (op_eqD hr.units) (pv 6) (pv 3) (nomark _)))))))))))))))))))), ?_⟩
    refine ⟨_, rfl, _, ns, rfl, hlen, ⟨a, rfl, hS⟩, fun r rs1 H1 s1 hr0 hr1 => ?_⟩
    -- costs
    refine ⟨_, rfl, r, rs1, 4, rfl, by decide, hr1, fun d rs2 H2 d0 d4 x2 r2 => ⟨_, _, rfl, rfl, 1 + d, rfl, by omega, by omega, fun D hD => ?_⟩⟩
    obtain ⟨sx2, row2⟩ := take_x x2 r2
    have nDr : D ≠ r := row2.ne hD
    refine lc_range (lo := 0) (n := (1 + d).toNat) (fun i H' => SameX r H2 H' ∧ Row r H' ∧ ∃ us cs, H' D = some (.lst us) ∧ Paired (Fr K H') us cs ∧ cs.length = i ∧ ∀ c ∈ cs, 0 ≤ c ∧ ∃ e, c = 420 * e)
      ⟨.of (same_upd hD), row2.mono (same_upd hD), [], [], upd_same, .nil, rfl, by simp⟩ ?_ ?_
    · rintro i H3 hi ⟨s3, ⟨rs3, hr3⟩, us, cs, hD3, hp, hl, hc⟩
      refine ⟨rfl, _, rfl, r, rs3, 40, rfl, by decide, hr3, fun p rs4 H4 p0 p40 x4 r4 => ?_⟩
      refine ⟨_, rfl, r, rs4, 4, rfl, by decide, r4, fun e rs5 H5 e0 e4 x5 r5 => ?_⟩
      obtain ⟨x, hx, hx0, hx420⟩ := draw_cost p0 e0 e4
      refine ⟨_, _, rfl, rfl, p, 1 + e, x, rfl, by omega, by omega, hx, fun v H6 s6 fv => ?_⟩
      obtain ⟨sx4, row4⟩ := take_x x4 r4
      obtain ⟨sx5, row5⟩ := take_x x5 r5
      have sx := (sx4.trans sx5).thn s6
      have row6 := row5.mono s6
      have hD6 := sx _ _ nDr hD3
      refine ⟨us, hD6, ?_, samex_D (s3.trans sx) hD, row_D row6 nDr, us ++ [v], cs ++ [x], upd_same, pr_snoc (frs_upd hD6 (frs_x ⟨rs3, hr3⟩ sx hp)) (fr_upd hD6 fv), by simp [hl], fun c hm => ?_⟩
      · rw [pr_len hp, hl]
        exact small_line' (by omega)
      · rcases List.mem_append.mp hm with q | q
        · exact hc c q
        · rw [List.mem_singleton.mp q]
          exact ⟨hx0, hx420⟩
    rintro H3 ⟨s3, row3, us0, cs0, hD3, hp0, hl0, hc0⟩
    have gC0 : GoodC cs0 := ⟨by omega, by omega, hc0⟩
    have cA0 : CostsAt K r H3 D cs0 := ⟨us0, nDr, hD3, hp0⟩
    clear hl0 hc0 hD3 hp0 us0 s3 x2 r2 sx2 hr1 s1 row2
    -- all costs equal, or not
    refine ⟨fun σ H' => ∃ ca cs, σ = [some (.ref a), some (.ref r), some (.ref ca), none, none, none, none, none, none, none, none, none, none, none, none, none, none] ∧ Row r H' ∧ CostsAt K r H' ca cs ∧ GoodC cs, ?_, ?_⟩
    · obtain ⟨rs3, hr3⟩ := id row3
      refine ⟨_, rfl, r, rs3, 3, rfl, by decide, hr3, fun e rs4 H4 e0 e3 x4 r4 => ⟨rfl, _, rfl, ite2 (fun _ => ?_) (fun _ => ?_)⟩⟩
      · obtain ⟨sx4, row4⟩ := take_x x4 r4
        obtain ⟨us, n, hca, hp⟩ := cA0.x row3 sx4
        have l1 := gC0.lo
        have lh := gC0.hi
        have lu := pr_len hp
        obtain ⟨u0, hu0⟩ : ∃ u0, us[0]? = some u0 := ⟨us[0], List.getElem?_eq_getElem (by omega)⟩
        obtain ⟨c0, hc0, fu0⟩ := pr_get hp hu0
        refine ⟨_, rfl, D, rfl, ⟨_, .of hca⟩, fun D2 hD2 => ?_⟩
        refine lc_list (K := K) (a := D) (xs := us) (fun i H5 => Same H4 H5 ∧ H5 D2 = some (.lst (List.replicate i u0))) ⟨same_upd hD2, upd_same⟩ (fun i H5 _ hp => .of (hp.1 _ _ hca)) ?_ ?_
        · rintro i x H5 hx ⟨s5, h5⟩
          have hil := (List.getElem?_eq_some_iff.mp hx).1
          refine ⟨rfl, _, rfl, D, us, 0, u0, rfl, rfl, .of (s5 _ _ hca), atI_nat (j := 0) hu0, _, h5, ?_, same_D s5 hD2, ?_⟩
          · rw [List.length_replicate]
            exact small_line' (by omega)
          · rw [upd_same, List.replicate_succ']
        · rintro H5 ⟨s5, h5⟩
          refine ⟨D2, List.replicate us.length c0, rfl, row4.mono s5, ⟨_, row4.ne hD2, h5, pr_rep (fu0.mono s5) _⟩, ?_, ?_, fun c hm => ?_⟩
          · rw [List.length_replicate]; omega
          · rw [List.length_replicate]; omega
          · rw [List.eq_of_mem_replicate hm]
            exact gC0.c _ (List.mem_of_getElem? hc0)
      · obtain ⟨sx4, row4⟩ := take_x x4 r4
        exact ⟨D, cs0, rfl, row4, cA0.x row3 sx4, gC0⟩
    clear cA0 gC0 row3
    rintro σ H' ⟨ca, cs, rfl, row, cA, gC⟩
    obtain ⟨us, nca, hca, hp⟩ := id cA
    have lus := pr_len hp
    -- limits
    refine ⟨_, rfl, ca, rfl, ⟨_, .of hca⟩, fun la hla0 => ?_⟩
    have nlr : la ≠ r := row.ne hla0
    have l1 := gC.lo
    have lh := gC.hi
    refine lc_list (K := K) (a := ca) (xs := us) (fun i H2 => SameX r H' H2 ∧ Row r H2 ∧ ∃ ls : List Int, H2 la = some (.lst (ls.map V.int)) ∧ ls.length = i ∧ ∀ l ∈ ls, 1 ≤ l ∧ l ≤ 5)
      ⟨.of (same_upd hla0), row.mono (same_upd hla0), [], upd_same, rfl, by simp⟩ (fun i H2 _ hp => .of (hp.1 _ _ nca hca)) ?_ ?_
    · rintro i x H2 hx ⟨s2, ⟨rs2, hr2⟩, ls, hl2, hll, hl5⟩
      have hil := (List.getElem?_eq_some_iff.mp hx).1
      refine ⟨rfl, _, rfl, r, rs2, 5, rfl, by decide, hr2, fun d rs3 H3 d0 d5 x3 r3 => ?_⟩
      obtain ⟨sx3, row3⟩ := take_x x3 r3
      refine ⟨_, _, rfl, rfl, _, sx3 _ _ nlr hl2, ?_, samex_D (s2.trans sx3) hla0, row_D row3 nlr, ls ++ [1 + d], ?_, by simp [hll], fun l hm => ?_⟩
      · rw [List.length_map]
        exact small_line' (by omega)
      · rw [upd_same, List.map_append]
        rfl
      · rcases List.mem_append.mp hm with q | q
        · exact hl5 l q
        · rw [List.mem_singleton.mp q]
          exact ⟨by omega, by omega⟩
    rintro H2 ⟨s2, row2, ls, hl2, hll, hl5⟩
    have G : Good cs ls := ⟨by omega, by omega, by omega, gC.c, hl5⟩
    have cA2 := cA.x row s2
    have lA : ListAt r H2 la ls := ⟨nlr, hl2⟩
    have sgl := sum_ge_len (ls := ls) fun l hl => (hl5 l hl).1
    have h20 := G.sum20
    have h4 := G.hi
    have h1 := G.lo
    clear cA hca hp s2 hl5 hla0 lus hll gC l1 lh row
    -- places
    obtain ⟨rs2, hr2⟩ := id row2
    refine ⟨_, rfl, _, _, rfl, .inl (.of hl2), _, rfl, _, rfl, la, ls, rfl, .of hl2, _, rfl, _, _, rfl, .inl (.of hl2), _, _, rfl, rfl, _, _, rfl, rfl, r, rs2, _, rfl, ?_, hr2, fun d rs3 H3 d0 d1 x3 r3 => ⟨_, _, rfl, rfl, ?_⟩⟩
    · show (0 : Int) < ls.sum - ((ls.map V.int).length : Nat) + 1
      rw [List.length_map]
      omega
    obtain ⟨sx3, row3⟩ := take_x x3 r3
    have cA3 := cA2.x row2 sx3
    have lA3 := lA.x sx3
    replace d1 : d < ls.sum - ((ls.map V.int).length : Nat) + 1 := d1
    rw [List.length_map] at d1
    clear cA2 lA row2 hl2 hr2 x3 r3 sx3
    refine ⟨fun σ H' => ∃ m : Int, σ = [some (.ref a), some (.ref r), some (.ref ca), some (.ref la), some (.int m), none, none, none, none, none, none, none, none, none, none, none, none] ∧ (-1000 ≤ m ∧ m ≤ 1000) ∧ Row r H' ∧ CostsAt K r H' ca cs ∧ ListAt r H' la ls, ?_, ?_⟩
    · obtain ⟨rs3, hr3⟩ := id row3
      refine ⟨_, rfl, r, rs3, 6, rfl, by decide, hr3, fun e rs4 H4 e0 e6 x4 r4 => ⟨rfl, _, rfl, ite2 (fun _ => ?_) (fun _ => ?_)⟩⟩
      · obtain ⟨sx4, row4⟩ := take_x x4 r4
        have cA4 := cA3.x row3 sx4
        have lA4 := lA3.x sx4
        refine ⟨_, rfl, _, _, rfl, .inl (.of lA4.2), _, _, rfl, rfl, _, rfl, la, ls, rfl, .of lA4.2, _, _, rfl, rfl, (by show 3 ≤ sizeLine; decide), fun q hq => ?_⟩
        have nq := row4.ne hq
        have sq := same_upd (o := .lst [.int 0, .int (((ls.map V.int).length : Nat) - 1), .int (ls.sum + 1)]) hq
        obtain ⟨rs5, hr5⟩ := row4.mono sq
        refine ⟨_, rfl, r, rs5, 3, rfl, by decide, hr5, fun j rs6 H6 j0 j3 x6 r6 => ?_⟩
        obtain ⟨sx6, row6⟩ := take_x x6 r6
        have hq6 := sx6 _ _ nq upd_same
        have cA6 := (cA4.x row4 (.of sq)).x (row4.mono sq) sx6
        have lA6 := (lA4.x (.of sq)).x sx6
        have hj : j = 0 ∨ j = 1 ∨ j = 2 := by omega
        rcases hj with rfl | rfl | rfl
        · exact ⟨q, _, 0, _, rfl, rfl, .of hq6, atI_nat (j := 0) rfl, 0, rfl, by omega, row6, cA6, lA6⟩
        · exact ⟨q, _, 1, _, rfl, rfl, .of hq6, atI_nat (j := 1) rfl, _, rfl, by rw [List.length_map]; omega, row6, cA6, lA6⟩
        · exact ⟨q, _, 2, _, rfl, rfl, .of hq6, atI_nat (j := 2) rfl, _, rfl, by omega, row6, cA6, lA6⟩
      · obtain ⟨sx4, row4⟩ := take_x x4 r4
        exact ⟨_, rfl, by rw [List.length_map]; omega, row4, cA3.x row3 sx4, lA3.x sx4⟩
    clear cA3 lA3 row3 d0 d1
    rintro σ H' ⟨m, rfl, hm, row, cA, lA⟩
    obtain ⟨us, nca', hca, hp⟩ := id cA
    -- given, bounds
    refine ⟨_, rfl, ca, us, rfl, .inl (.of hca), fun ga hga => ⟨_, rfl, la, _, rfl, .inl (.of (same_upd hga _ _ lA.2)), fun ba hba => ⟨_, _, rfl, ?_⟩⟩⟩
    have sG := same_upd (o := .lst us) hga
    have sB := same_upd (o := .lst (ls.map V.int)) hba
    have sGB := sG.trans sB
    have gA : CostsAt K r (upd (upd H' ga (.lst us)) ba (.lst (ls.map V.int))) ga cs := ⟨us, row.ne hga, sB _ _ upd_same, frs_mono sGB hp⟩
    have bA : ListAt r (upd (upd H' ga (.lst us)) ba (.lst (ls.map V.int))) ba ls := ⟨(row.mono sG).ne hba, upd_same⟩
    have cA' := cA.x row (.of sGB)
    have lA' := lA.x (.of sGB)
    have row' := row.mono sGB
    clear cA lA row hca hp
    generalize upd (upd H' ga (.lst us)) ba (.lst (ls.map V.int)) = H8 at *
    -- told
    refine ⟨fun σ H9 => ∃ tv, σ = [some (.ref a), some (.ref r), some (.ref ca), some (.ref la), some (.int m), some (.ref ga), some (.ref ba), some tv, none, none, none, none, none, none, none, none, none] ∧ Row r H9 ∧ CostsAt K r H9 ca cs ∧ ListAt r H9 la ls ∧ CostsAt K r H9 ga cs ∧ ListAt r H9 ba ls ∧
      ((((ls.length : Int) ≤ m ∧ m ≤ ls.sum) ∧ DealT K H9 tv (dealN cs ls (m - ls.length).toNat)) ∨ (¬ ((ls.length : Int) ≤ m ∧ m ≤ ls.sum) ∧ tv = .str "none")), ?_, ?_⟩
    · refine ⟨_, rfl, _, rfl, _, rfl, .ref ga, .ref ba, cs, ls, m, rfl, G, gA.frl, bA.il, fun hi v H9 s9 dt => ?_, fun hn => ?_⟩
      · exact ⟨v, rfl, row'.mono s9, cA'.x row' (.of s9), lA'.x (.of s9), gA.x row' (.of s9), bA.x (.of s9), .inl ⟨hi, dt⟩⟩
      · exact ⟨_, rfl, row', cA', lA', gA, bA, .inr ⟨hn, rfl⟩⟩
    clear row' cA' lA' gA bA
    rintro σ H9 ⟨tv, rfl, row, cA, lA, gA, bA, told⟩
    -- deals
    refine ⟨_, rfl, _, rfl, .ref la, ls, m, rfl, G.l, G.hi, lA.il, fun da xs0 H10 s10 hda0 hda hds => ?_⟩
    refine ⟨_, rfl, Nat.zero_le _, fun q hq => ?_⟩
    have sq := same_upd (o := .lst []) hq
    have dA : DealsAt r (upd H10 q (.lst [])) da (deals ls m) := DealsAt.x (.of sq) ⟨H9, xs0, row.ne hda0, row.sm, hda, hds⟩
    have s11 := s10.trans sq
    replace told : (((ls.length : Int) ≤ m ∧ m ≤ ls.sum) ∧ DealT K (upd H10 q (.lst [])) tv (dealN cs ls (m - ls.length).toNat)) ∨ (¬ ((ls.length : Int) ≤ m ∧ m ≤ ls.sum) ∧ tv = .str "none") := told.imp (fun z => ⟨z.1, z.2.mono s11⟩) id
    replace cA := cA.x row (.of s11)
    replace lA := lA.x (.of s11)
    replace gA := gA.x row (.of s11)
    replace bA := bA.x (.of s11)
    replace row := row.mono s11
    have hqn : (upd H10 q (.lst [])) q = some (.lst []) := upd_same
    clear hda0 hda hds s10 sq s11 hq
    generalize upd H10 q (.lst []) = H11 at *
    refine ⟨_, _, dA.dp, dp_nil hqn, (lay_Ds _).shaped (by decide), lay_nil.shaped (by decide), _, rfl, ?_⟩
    by_cases hi : (ls.length : Int) ≤ m ∧ m ≤ ls.sum
    rotate_left
    · -- no deal
      refine iteBT (by rw [eqv_Ds_nil]; exact decide_eq_true ((deals_nil G).mpr hi)) ?_
      obtain ⟨_, rfl⟩ := told.resolve_left fun z => hi z.1
      refine ⟨_, rfl, rfl, _, rfl, iteD1 rfl ?_⟩
      refine ⟨_, rfl, _, rfl, _, rfl, la, rfl, ⟨_, .of lA.2⟩, fun D hD => ?_⟩
      refine lc_list (K := K) (a := la) (xs := ls.map V.int) (fun i H' => Same H11 H' ∧ H' D = some (.lst ((List.replicate i (1 : Int)).map V.int))) ⟨same_upd hD, upd_same⟩ (fun i H' _ hp => .of (hp.1 _ _ lA.2)) ?_ ?_
      · rintro i x H' hx ⟨s', hD'⟩
        have hil : i < ls.length := by
          have := (List.getElem?_eq_some_iff.mp hx).1
          rw [List.length_map] at this
          exact this
        refine ⟨rfl, _, hD', ?_, same_D s' hD, ?_⟩
        · rw [List.length_map, List.length_replicate]
          exact small_line' (by omega)
        · rw [upd_same, List.replicate_succ', List.map_append]
          rfl
      · rintro H' ⟨s', hD'⟩
        refine ⟨.ref ba, .ref D, ls, _, m, rfl, ?_, (bA.x (.of s')).il, ⟨D, rfl, .of hD'⟩, fun H'' s'' => ⟨_, rfl, ?_⟩⟩
        · rw [List.length_replicate, List.length_map]
          omega
        · rw [isDealB_mem, (deals_nil G).mpr hi, decide_eq_false (by intro z; cases z)]
          exact k _
    refine iteB (by rw [eqv_Ds_nil]; exact decide_eq_false fun e => (deals_nil G).mp e hi) ?_
    have dt := (told.resolve_right fun z => z.1 hi).2
    clear told hqn
    have dI := deal_is G hi.1 hi.2
    have st := strong G hi.1 hi.2
    have opt := fun (ns : List Int) (D : IsDeal ls m ns) => optimal G hi.1 hi.2 D
    have dne : deals ls m ≠ [] := fun e => (deals_nil G).mp e hi
    have dle := deals_len (ls := ls) (fun l hl => (G.l l hl).2) G.hi m
    generalize hR : dealN cs ls (m - ls.length).toNat = R at *
    obtain ⟨N, pr⟩ := R
    -- told != greedy or not isinstance
    refine ⟨_, rfl, _, rfl, _, rfl, _, rfl, .ref ca, .ref la, cs, ls, m, rfl, G, hi, cA.frl, lA.il, fun gv H12 s12 dt2 => ?_⟩
    rw [hR] at dt2
    replace dt := dt.mono s12
    replace cA := cA.x row (.of s12)
    replace lA := lA.x (.of s12)
    replace gA := gA.x row (.of s12)
    replace bA := bA.x (.of s12)
    replace dA := dA.x (.of s12)
    replace row := row.mono s12
    refine ⟨_, _, dp_Deal dt, dp_Deal dt2, (lay_Deal _).shaped (by decide), (lay_Deal _).shaped (by decide), _, rfl, iteB0 (eqv_same (lay_Deal _)) ?_⟩
    obtain ⟨t, na, u, rfl, ht, hna, fu⟩ := dt
    refine ⟨_, rfl, _, "tuple", rfl, .tup ht, true, rfl, ?_⟩
    clear dt2 s12
    -- least
    have diN := deal_items G dI
    refine ⟨_, rfl, _, rfl, t, _, 0, _, rfl, rfl, .of ht, atI_nat (j := 0) rfl, .ref ca, .ref na, cs, N, rfl, diN.1, diN.2.1, diN.2.2.1, diN.2.2.2, cA.frl, ⟨na, rfl, .of hna⟩, fun lv H13 s13 fl => ?_⟩
    replace cA := cA.x row (.of s13)
    replace lA := lA.x (.of s13)
    replace gA := gA.x row (.of s13)
    replace bA := bA.x (.of s13)
    replace dA := dA.x (.of s13)
    replace row := row.mono s13
    replace ht := s13 _ _ ht
    replace fu := fu.mono s13
    clear hna s13 diN
    -- all deals
    obtain ⟨xs, hda, lxs, hat⟩ := dA.at
    refine ⟨_, rfl, da, rfl, ⟨_, .of hda⟩, for_list (K := K) (a := da) (xs := xs) (fun i σ H' => ∃ x10, σ = [some (.ref a), some (.ref r), some (.ref ca), some (.ref la), some (.int m), some (.ref ga), some (.ref ba), some (.ref t), some (.ref da), some lv, x10, none, none, none, none, none, none] ∧ Same H13 H')
      ⟨none, rfl, Same.refl H13⟩ (fun i σ H' _ ⟨_, _, s'⟩ => .of (s' _ _ hda)) ?_ ?_⟩
    · rintro i x σ H' hx ⟨x10, rfl, s'⟩
      have hil : i < (deals ls m).length := by
        have := (List.getElem?_eq_some_iff.mp hx).1
        omega
      have hd : (deals ls m)[i]? = some (deals ls m)[i] := List.getElem?_eq_getElem hil
      generalize (deals ls m)[i] = dd at hd
      obtain ⟨b, nb, hxb, hb⟩ := hat i dd hd
      have ex : x = .ref b := Option.some.inj (hx.symm.trans hxb)
      subst ex
      have D := mem_deals.mp (List.mem_of_getElem? hd)
      have di := deal_items G D
      have len := D.1
      refine ⟨_, rfl, _, rfl, _, rfl, b, _, rfl, .inl (.of (s' _ _ hb)), fun p hp => ?_⟩
      have sp := s'.trans (same_upd (o := .lst (dd.map V.int)) hp)
      refine ⟨.ref ba, .ref p, ls, dd, m, rfl, by omega, (bA.x (.of sp)).il, ⟨p, rfl, .of upd_same⟩, fun H14 s14 => ⟨_, rfl, iteB0 (isDealB_iff.mpr D) ?_⟩⟩
      have sq := sp.trans s14
      refine ⟨_, rfl, _, rfl, .ref ca, .ref b, cs, dd, rfl, di.1, di.2.1, di.2.2.1, di.2.2.2, (cA.x row (.of sq)).frl, ⟨b, rfl, .of (sq _ _ hb)⟩, fun vv H15 s15 fv => ?_⟩
      refine ⟨_, rfl, vv, lv, _, _, rfl, fv, (fl.mono sq).mono s15, _, rfl, iteD0 (nlt (opt dd D)) ?_⟩
      exact ⟨_, rfl, sq.trans s15⟩
    rintro σ H' ⟨x10, rfl, s'⟩
    replace cA := cA.x row (.of s')
    replace lA := lA.x (.of s')
    replace gA := gA.x row (.of s')
    replace bA := bA.x (.of s')
    replace dA := dA.x (.of s')
    replace row := row.mono s'
    replace ht := s' _ _ ht
    replace fu := fu.mono s'
    replace fl := fl.mono s'
    clear hda lxs hat xs xs0 s'
    -- variance_of, the told price
    have h0 : (deals ls m)[0]? = some ((deals ls m)[0]'(List.length_pos_iff.mpr dne)) := List.getElem?_eq_getElem _
    generalize (deals ls m)[0]'(List.length_pos_iff.mpr dne) = d0 at h0
    have D0 := mem_deals.mp (List.mem_of_getElem? h0)
    have di := deal_items G D0
    obtain ⟨xs, hda, lxs, hat⟩ := dA.at
    obtain ⟨b0, nb0, hx0, hb0⟩ := hat 0 d0 h0
    refine ⟨_, rfl, _, rfl, da, xs, 0, _, rfl, rfl, .of hda, atI_nat (j := 0) hx0, b0, _, rfl, .inl (.of hb0), fun p hp => ?_⟩
    have sp := same_upd (o := .lst (d0.map V.int)) hp
    refine ⟨.ref ga, .ref p, cs, d0, rfl, di.1, di.2.1, di.2.2.1, di.2.2.2, (gA.x row (.of sp)).frl, ⟨p, rfl, .of upd_same⟩, fun v1 H16 s16 f1 => ?_⟩
    have sq := sp.trans s16
    refine ⟨_, rfl, _, rfl, da, xs, 0, _, rfl, rfl, .of (sq _ _ hda), atI_nat (j := 0) hx0, .ref ca, .ref b0, cs, d0, rfl, di.1, di.2.1, di.2.2.1, di.2.2.2, (cA.x row (.of sq)).frl, ⟨b0, rfl, .of (sq _ _ hb0)⟩, fun v2 H17 s17 f2 => ?_⟩
    refine ⟨_, _, dp_F (f1.mono s17), dp_F f2, (lay_F _).shaped (by decide), (lay_F _).shaped (by decide), _, rfl, iteB0 (eqv_same (lay_F _)) ?_⟩
    have sr := sq.trans s17
    refine ⟨_, rfl, _, rfl, _, rfl, _, rfl, t, _, 1, _, rfl, rfl, .of (sr _ _ ht), atI_nat (j := 1) rfl, .ref ga, .ref ba, u, cs, ls, m, pr, rfl, G, hm, (gA.x row (.of sr)).frl, (bA.x (.of sr)).il, fu.mono sr, fun bv H18 s18 fb => ?_⟩
    have ss := sr.trans s18
    refine ⟨_, rfl, _, _, dp_F fb, dp_F (fl.mono ss), (lay_F _).shaped (by decide), (lay_F _).shaped (by decide), _, rfl, iteB0 (by rw [eqv_F]; exact decide_eq_true st) ?_⟩
    replace cA := cA.x row (.of ss)
    replace lA := lA.x (.of ss)
    replace gA := gA.x row (.of ss)
    replace bA := bA.x (.of ss)
    replace dA := dA.x (.of ss)
    replace row := row.mono ss
    replace fl := fl.mono ss
    clear hda lxs hat hx0 hb0 sp sq sr ss f1 f2 fb di D0 h0 ht fu
    -- four turns
    refine ⟨4, rfl, by decide, by decide, ?_⟩
    refine for_range (lo := 0) (n := 4) (fun i σ H' => ∃ x10 x11 x12 x13, σ = [some (.ref a), some (.ref r), some (.ref ca), some (.ref la), some (.int m), some (.ref ga), some (.ref ba), some (.ref t), some (.ref da), some lv, x10, x11, x12, x13, none, none, none] ∧ SameX r H18 H' ∧ Row r H')
      ⟨_, _, _, _, rfl, SameX.refl r H18, row⟩ ?_ ?_
    · rintro i σ H1' hi4 ⟨x10, x11, x12, x13, rfl, sx, ⟨rs1', hr1'⟩⟩
      -- price
      refine ⟨_, rfl, r, rs1', 30, rfl, by decide, hr1', fun p rs4 H4 p0 p30 x4 r4 => ?_⟩
      refine ⟨_, rfl, r, rs4, 7, rfl, by decide, r4, fun e rs5 H5 e0 e7 x5 r5 => ?_⟩
      obtain ⟨x, hx⟩ := draw_price (p := p) e0 e7
      refine ⟨_, _, rfl, rfl, p, 1 + e, x, rfl, by omega, by omega, hx, fun pv H6 s6 fp => ?_⟩
      obtain ⟨sx4, row4⟩ := take_x x4 r4
      obtain ⟨sx5, row5⟩ := take_x x5 r5
      have sA := ((sx.trans sx4).trans sx5).thn s6
      have rowA := row5.mono s6
      clear x4 r4 x5 r5 hr1' sx4 sx5 row4 row5
      -- bound
      refine ⟨_, rfl, _, rfl, _, rfl, _, rfl, .ref ga, .ref ba, pv, cs, ls, m, x, rfl, G, hm, (gA.x row sA).frl, (bA.x sA).il, fp, fun bv H7 s7 fb => ?_⟩
      have sB := sA.thn s7
      refine ⟨_, rfl, _, rfl, _, rfl, _, rfl, _, rfl, .ref ca, .ref la, pv, cs, ls, m, x, rfl, G, hm, (cA.x row sB).frl, (lA.x sB).il, fp.mono s7, fun lb H8' s8 flb => ?_⟩
      have sC := sB.thn s8
      have rowC := (rowA.mono s7).mono s8
      refine ⟨_, _, dp_F (fb.mono s8), dp_F flb, (lay_F _).shaped (by decide), (lay_F _).shaped (by decide), _, rfl, iteB0 (eqv_same (lay_F _)) ?_⟩
      refine ⟨_, rfl, _, rfl, lv, bv, _, _, rfl, fr_x row sC fl, fb.mono s8, _, rfl, iteD0 (nlt (bound_le G dI)) ?_⟩
      clear flb fb fp s6 s7 s8 rowA sA sB
      -- numbers_here
      obtain ⟨xs, hda, lxs, hat⟩ := (dA.x sC).at
      obtain ⟨rs8, hr8⟩ := id rowC
      have dpos : 0 < (deals ls m).length := List.length_pos_iff.mpr dne
      refine ⟨_, rfl, _, rfl, _, rfl, _, _, rfl, .inl (.of hda), r, rs8, _, rfl, by omega, hr8, fun j rs9 H9' j0 jl x9 r9 => ?_⟩
      obtain ⟨sx9, row9⟩ := take_x x9 r9
      have hjl : j.toNat < (deals ls m).length := by omega
      have hd : (deals ls m)[j.toNat]? = some (deals ls m)[j.toNat] := List.getElem?_eq_getElem hjl
      generalize (deals ls m)[j.toNat] = dd at hd
      obtain ⟨b, nb, hxb, hb⟩ := hat _ dd hd
      have D := mem_deals.mp (List.mem_of_getElem? hd)
      have len := D.1
      have nda : da ≠ r := by
        obtain ⟨_, _, n, _⟩ := dA
        exact n
      refine ⟨da, xs, j, _, rfl, rfl, .of (sx9 _ _ nda hda), at_of (j := j.toNat) (by omega) hxb, b, _, rfl, .inl (.of (sx9 _ _ nb hb)), fun nh hnh => ?_⟩
      have nnr := row9.ne hnh
      have sN := same_upd (o := .lst (dd.map V.int)) hnh
      have sD := (sC.trans sx9).thn sN
      obtain ⟨rs10, hr10⟩ := row9.mono sN
      have hnH : H18 nh = none := (sC.trans sx9).free hnh nnr
      -- numbers_here[..] = ..
      refine ⟨_, rfl, r, rs10, 8, rfl, by decide, hr10, fun z rs11 H11' z0 z8 x11' r11 => ?_⟩
      obtain ⟨sx11, row11⟩ := take_x x11' r11
      have hnh11 := sx11 _ _ nnr upd_same
      refine ⟨_, rfl, _, rfl, _, rfl, _, _, rfl, .inl (.of hnh11), r, rs11, _, rfl, by rw [List.length_map]; omega, r11, fun j2 rs12 H12' j20 j2l x12' r12 => ?_⟩
      obtain ⟨sx12, row12⟩ := take_x x12' r12
      have hnh12 := sx12 _ _ nnr hnh11
      rw [List.length_map] at j2l
      have eset : (dd.map V.int).set j2.toNat (.int z) = (dd.set j2.toNat z).map V.int := List.map_set.symm
      refine ⟨nh, _, j2, j2.toNat, rfl, rfl, hnh12, ?_, ?_⟩
      · have h3 : ((dd.map V.int).length) = dd.length := List.length_map _
        unfold ixN
        rw [if_pos j20, if_pos (by rw [h3]; omega)]
      rw [eset]
      have sE := samex_D (o := .lst ((dd.set j2.toNat z).map V.int)) ((sD.trans sx11).trans sx12) hnH
      have rowE := row_D (o := .lst ((dd.set j2.toNat z).map V.int)) row12 nnr
      have hnhE : (upd H12' nh (.lst ((dd.set j2.toNat z).map V.int))) nh = some (.lst ((dd.set j2.toNat z).map V.int)) := upd_same
      have len' : (dd.set j2.toNat z).length = ls.length := by rw [List.length_set]; exact len
      generalize dd.set j2.toNat z = d' at *
      generalize upd H12' nh (.lst (d'.map V.int)) = HE at *
      clear hnh11 hnh12 r11 r12 x11' x12' sx11 sx12 row11 row12 sD sN hr10 row9 sx9 x9 r9 hr8 rowC sC hda lxs hat
      -- is_deal != in
      refine ⟨_, rfl, _, rfl, _, rfl, .ref ba, .ref nh, ls, d', m, rfl, by omega, (bA.x sE).il, ⟨nh, rfl, .of hnhE⟩, fun HF sF => ?_⟩
      have sG := sE.thn sF
      have rowF := rowE.mono sF
      have hnhF := sF _ _ hnhE
      refine ⟨_, rfl, _, rfl, pI d', _, dp_I (.of hnhF), (dA.x sG).dp, (lay_I _).shaped (by decide), (lay_Ds _).shaped (by decide), rfl, _, rfl, iteNS (by rw [any_I, isDealB_mem]) ?_⟩
      refine ⟨_, rfl, _, rfl, _, rfl, (by show 1 ≤ sizeLine; decide), fun q2 hq2 => ?_⟩
      have sq2 := same_upd (o := .lst [.int 1]) hq2
      refine ⟨nh, q2, _, _, rfl, rfl, sq2 _ _ hnhF, upd_same, ?_, fun p2 hp2 => ?_⟩
      · rw [List.length_map]
        exact small_line (by simp; omega)
      have sp2 := sq2.trans (same_upd (o := .lst (d'.map V.int ++ [.int 1])) hp2)
      refine ⟨.ref ba, .ref p2, ls, d' ++ [1], m, rfl, by rw [List.length_append]; simp; omega, (bA.x (sG.thn sp2)).il, ⟨p2, rfl, .of (by rw [upd_same, List.map_append]; rfl)⟩, fun HG sHG => ⟨_, rfl, iteB (not_longer len') ?_⟩⟩
      exact ⟨_, _, _, _, rfl, (sG.thn sp2).thn sHG, (rowF.mono sp2).mono sHG⟩
    · rintro σ H' ⟨x10, x11, x12, x13, rfl, sx, row'⟩
      refine ⟨_, rfl, _, rfl, _, _, (gA.x row sx).dp, (cA.x row sx).dp, (lay_Cs _).shaped (by decide), (lay_Cs _).shaped (by decide), _, rfl, iteBT (eqv_same (lay_Cs _)) ?_⟩
      refine ⟨_, rfl, _, rfl, pI ls, pI ls, dp_I (.of (bA.x sx).2), dp_I (.of (lA.x sx).2), (lay_I _).shaped (by decide), (lay_I _).shaped (by decide), ?_⟩
      rw [eqv_same (lay_I _)]
      exact k _
end
end K54

namespace K54
open PySem PySem.Spec PyProof.Rows L2
theorem mk_dn {P : Program} {w : World} {K : PySem.W.Frag} {mg : Str → Option Value} {base : Heap} {x : Str} {st : Stmt} {f : Addr} {fd : FuncData} {k : Nat} {ps : List Str} {sp : Sp} (F : Fun K x x st f fd) (hm : mg x = some (.ref f)) (b : Binds K fd ps []) (ok : FnOk P w K mg base CX0 k f fd ps sp) : Dn P w K mg base k x ps sp := ⟨f, fd, ok, hm, F.kp, b⟩
/-- an error of the class at S is what «except S» names -/
theorem exm_self {K : PySem.W.Frag} {S : Addr} (h1 : PySem.W.subIn K (.ref S) (.type "BaseException") = some true) (h2 : PySem.W.isClsIn K S = true) (h3 : PySem.W.typeIn K (.ref S) = some (.type "type")) (h4 : PySem.W.subIn K (.ref S) (.ref S) = some true) :
    PySem.W.exmOne K (.ref S) (.ref S) = some true := by
  have e1 : (PySem.W.subIn K (.ref S) (.type "BaseException") == some true) = true := by rw [h1] <;> rfl
  have e2 : ((PySem.W.clsIn K S).isSome && PySem.W.typeIn K (.ref S) == some (.type "type")) = true := by
    have h2' : (PySem.W.clsIn K S).isSome = true := h2
    rw [h2', h3] <;> rfl
  show (if (PySem.W.subIn K (.ref S) (.type "BaseException") == some true) = true then (if ((PySem.W.clsIn K S).isSome && PySem.W.typeIn K (.ref S) == some (.type "type")) = true then PySem.W.subIn K (.ref S) (.ref S) else none) else none) = some true
  rw [if_pos e1, if_pos e2]
  exact h4
theorem all_mk {l : PySem.W.OpenLaw} {w : World} {K : PySem.W.Frag} {h : Heap} {mg : Str → Option Value} {fa aN ND SE f1 f2 f3 f4 f5 f6 f7 f8 f9 f10 f11 f12 f13 f14 f15 f16 f17 f18 f19 f20 f21 f22 f23 f24 f25 f26 f27 f28 : Addr} (X : K.In h) (G : h.Ns mainGlobals mg) (hfa : mg "law" = some (.ref fa))
    {od1 od2 od3 od4 od5 od6 od7 od8 od9 od10 od11 od12 od13 od14 od15 od16 od17 od18 od19 od20 od21 od22 od23 od24 od25 od26 od27 od28 an1 an2 an3 an4 an5 an6 an7 an8 an9 an10 an11 an12 an13 an14 an15 an16 an17 an18 an19 an20 an21 an22 an23 an24 an25 an26 an27 an28 : Option Addr} {sl1 sl2 sl3 sl4 sl5 sl6 sl7 sl8 sl9 sl10 sl11 sl12 sl13 sl14 sl15 sl16 sl17 sl18 sl19 sl20 sl21 sl22 sl23 sl24 sl25 sl26 sl27 sl28 : Array (Option Value)} {oc1 oc2 oc3 oc4 oc5 oc6 oc7 oc8 oc9 oc10 oc11 oc12 oc13 oc14 oc15 oc16 oc17 oc18 oc19 oc20 oc21 oc22 oc23 oc24 oc25 oc26 oc27 oc28 kV1 kV2 kV3 kV4 kV5 kV6 kV7 kV8 kV9 kV10 kV11 kV12 kV13 kV14 kV15 kV16 kV17 kV18 kV19 kV20 kV21 kV22 kV23 kV24 kV25 kV26 kV27 kV28 dc1 dc2 dc3 dc4 dc5 dc6 dc7 dc8 dc9 dc10 dc11 dc12 dc13 dc14 dc15 dc16 dc17 dc18 dc19 dc20 dc21 dc22 dc23 dc24 dc25 dc26 dc27 dc28 pm1 pm2 pm3 pm4 pm5 pm6 pm7 pm8 pm9 pm10 pm11 pm12 pm13 pm14 pm15 pm16 pm17 pm18 pm19 pm20 pm21 pm22 pm23 pm24 pm25 pm26 pm27 pm28 cd1 cd2 cd3 cd4 cd5 cd6 cd7 cd8 cd9 cd10 cd11 cd12 cd13 cd14 cd15 cd16 cd17 cd18 cd19 cd20 cd21 cd22 cd23 cd24 cd25 cd26 cd27 cd28 ct1 ct2 ct3 ct4 ct5 ct6 ct7 ct8 ct9 ct10 ct11 ct12 ct13 ct14 ct15 ct16 ct17 ct18 ct19 ct20 ct21 ct22 ct23 ct24 ct25 ct26 ct27 ct28 : Value}
    {tN uN : Tok} {nN : Nat} {dN : Option Addr} {qN : Array (Option Value)}
    (a1 : PySem.W.nsIn K mainGlobals "lowest" = some (some (.ref f1))) (l1 : K.lookup f1 = some ⟨oc1, od1, .func (PySem.W.fnOf "lowest" "lowest" (defArgs sLow) (defBody sLow) (defScope sLow) .none kV1 dc1 pm1 an1 cd1 ct1), sl1⟩) (c1 : PySem.W.codeIn K cd1 "lowest" = true) (k1 : PySem.W.keepIn K (.ref f1) = true)
    (a2 : PySem.W.nsIn K mainGlobals "plus" = some (some (.ref f2))) (l2 : K.lookup f2 = some ⟨oc2, od2, .func (PySem.W.fnOf "plus" "plus" (defArgs sPlus) (defBody sPlus) (defScope sPlus) .none kV2 dc2 pm2 an2 cd2 ct2), sl2⟩) (c2 : PySem.W.codeIn K cd2 "plus" = true) (k2 : PySem.W.keepIn K (.ref f2) = true)
    (a3 : PySem.W.nsIn K mainGlobals "minus" = some (some (.ref f3))) (l3 : K.lookup f3 = some ⟨oc3, od3, .func (PySem.W.fnOf "minus" "minus" (defArgs sMinus) (defBody sMinus) (defScope sMinus) .none kV3 dc3 pm3 an3 cd3 ct3), sl3⟩) (c3 : PySem.W.codeIn K cd3 "minus" = true) (k3 : PySem.W.keepIn K (.ref f3) = true)
    (a4 : PySem.W.nsIn K mainGlobals "times" = some (some (.ref f4))) (l4 : K.lookup f4 = some ⟨oc4, od4, .func (PySem.W.fnOf "times" "times" (defArgs sTimes) (defBody sTimes) (defScope sTimes) .none kV4 dc4 pm4 an4 cd4 ct4), sl4⟩) (c4 : PySem.W.codeIn K cd4 "times" = true) (k4 : PySem.W.keepIn K (.ref f4) = true)
    (a5 : PySem.W.nsIn K mainGlobals "over" = some (some (.ref f5))) (l5 : K.lookup f5 = some ⟨oc5, od5, .func (PySem.W.fnOf "over" "over" (defArgs sOver) (defBody sOver) (defScope sOver) .none kV5 dc5 pm5 an5 cd5 ct5), sl5⟩) (c5 : PySem.W.codeIn K cd5 "over" = true) (k5 : PySem.W.keepIn K (.ref f5) = true)
    (a6 : PySem.W.nsIn K mainGlobals "less" = some (some (.ref f6))) (l6 : K.lookup f6 = some ⟨oc6, od6, .func (PySem.W.fnOf "less" "less" (defArgs sLess) (defBody sLess) (defScope sLess) .none kV6 dc6 pm6 an6 cd6 ct6), sl6⟩) (c6 : PySem.W.codeIn K cd6 "less" = true) (k6 : PySem.W.keepIn K (.ref f6) = true)
    (a7 : PySem.W.nsIn K mainGlobals "sum_of" = some (some (.ref f7))) (l7 : K.lookup f7 = some ⟨oc7, od7, .func (PySem.W.fnOf "sum_of" "sum_of" (defArgs sSum) (defBody sSum) (defScope sSum) .none kV7 dc7 pm7 an7 cd7 ct7), sl7⟩) (c7 : PySem.W.codeIn K cd7 "sum_of" = true) (k7 : PySem.W.keepIn K (.ref f7) = true)
    (a8 : PySem.W.nsIn K mainGlobals "is_deal" = some (some (.ref f8))) (l8 : K.lookup f8 = some ⟨oc8, od8, .func (PySem.W.fnOf "is_deal" "is_deal" (defArgs sIsDeal) (defBody sIsDeal) (defScope sIsDeal) .none kV8 dc8 pm8 an8 cd8 ct8), sl8⟩) (c8 : PySem.W.codeIn K cd8 "is_deal" = true) (k8 : PySem.W.keepIn K (.ref f8) = true)
    (a9 : PySem.W.nsIn K mainGlobals "variance_of" = some (some (.ref f9))) (l9 : K.lookup f9 = some ⟨oc9, od9, .func (PySem.W.fnOf "variance_of" "variance_of" (defArgs sVar) (defBody sVar) (defScope sVar) .none kV9 dc9 pm9 an9 cd9 ct9), sl9⟩) (c9 : PySem.W.codeIn K cd9 "variance_of" = true) (k9 : PySem.W.keepIn K (.ref f9) = true)
    (a10 : PySem.W.nsIn K mainGlobals "fall" = some (some (.ref f10))) (l10 : K.lookup f10 = some ⟨oc10, od10, .func (PySem.W.fnOf "fall" "fall" (defArgs sFall) (defBody sFall) (defScope sFall) .none kV10 dc10 pm10 an10 cd10 ct10), sl10⟩) (c10 : PySem.W.codeIn K cd10 "fall" = true) (k10 : PySem.W.keepIn K (.ref f10) = true)
    (a11 : PySem.W.nsIn K mainGlobals "next_place" = some (some (.ref f11))) (l11 : K.lookup f11 = some ⟨oc11, od11, .func (PySem.W.fnOf "next_place" "next_place" (defArgs sNext) (defBody sNext) (defScope sNext) .none kV11 dc11 pm11 an11 cd11 ct11), sl11⟩) (c11 : PySem.W.codeIn K cd11 "next_place" = true) (k11 : PySem.W.keepIn K (.ref f11) = true)
    (a12 : PySem.W.nsIn K mainGlobals "deal" = some (some (.ref f12))) (l12 : K.lookup f12 = some ⟨oc12, od12, .func (PySem.W.fnOf "deal" "deal" (defArgs sDeal) (defBody sDeal) (defScope sDeal) .none kV12 dc12 pm12 an12 cd12 ct12), sl12⟩) (c12 : PySem.W.codeIn K cd12 "deal" = true) (k12 : PySem.W.keepIn K (.ref f12) = true)
    (a13 : PySem.W.nsIn K mainGlobals "least_term" = some (some (.ref f13))) (l13 : K.lookup f13 = some ⟨oc13, od13, .func (PySem.W.fnOf "least_term" "least_term" (defArgs sLeast) (defBody sLeast) (defScope sLeast) .none kV13 dc13 pm13 an13 cd13 ct13), sl13⟩) (c13 : PySem.W.codeIn K cd13 "least_term" = true) (k13 : PySem.W.keepIn K (.ref f13) = true)
    (a14 : PySem.W.nsIn K mainGlobals "deal_bound" = some (some (.ref f14))) (l14 : K.lookup f14 = some ⟨oc14, od14, .func (PySem.W.fnOf "deal_bound" "deal_bound" (defArgs sBound) (defBody sBound) (defScope sBound) .none kV14 dc14 pm14 an14 cd14 ct14), sl14⟩) (c14 : PySem.W.codeIn K cd14 "deal_bound" = true) (k14 : PySem.W.keepIn K (.ref f14) = true)
    (a15 : PySem.W.nsIn K mainGlobals "_law_mix" = some (some (.ref f15))) (l15 : K.lookup f15 = some ⟨oc15, od15, .func (PySem.W.fnOf "_law_mix" "_law_mix" (defArgs sMix) (defBody sMix) (defScope sMix) .none kV15 dc15 pm15 an15 cd15 ct15), sl15⟩) (c15 : PySem.W.codeIn K cd15 "_law_mix" = true) (k15 : PySem.W.keepIn K (.ref f15) = true)
    (a16 : PySem.W.nsIn K mainGlobals "_law_numbers" = some (some (.ref f16))) (l16 : K.lookup f16 = some ⟨oc16, od16, .func (PySem.W.fnOf "_law_numbers" "_law_numbers" (defArgs sNums) (defBody sNums) (defScope sNums) .none kV16 dc16 pm16 an16 cd16 ct16), sl16⟩) (c16 : PySem.W.codeIn K cd16 "_law_numbers" = true) (k16 : PySem.W.keepIn K (.ref f16) = true)
    (a17 : PySem.W.nsIn K mainGlobals "_law_take" = some (some (.ref f17))) (l17 : K.lookup f17 = some ⟨oc17, od17, .func (PySem.W.fnOf "_law_take" "_law_take" (defArgs sTake) (defBody sTake) (defScope sTake) .none kV17 dc17 pm17 an17 cd17 ct17), sl17⟩) (c17 : PySem.W.codeIn K cd17 "_law_take" = true) (k17 : PySem.W.keepIn K (.ref f17) = true)
    (a18 : PySem.W.nsIn K mainGlobals "_law_low" = some (some (.ref f18))) (l18 : K.lookup f18 = some ⟨oc18, od18, .func (PySem.W.fnOf "_law_low" "_law_low" (defArgs sLLow) (defBody sLLow) (defScope sLLow) .none kV18 dc18 pm18 an18 cd18 ct18), sl18⟩) (c18 : PySem.W.codeIn K cd18 "_law_low" = true) (k18 : PySem.W.keepIn K (.ref f18) = true)
    (a19 : PySem.W.nsIn K mainGlobals "_law_plus" = some (some (.ref f19))) (l19 : K.lookup f19 = some ⟨oc19, od19, .func (PySem.W.fnOf "_law_plus" "_law_plus" (defArgs sLPlus) (defBody sLPlus) (defScope sLPlus) .none kV19 dc19 pm19 an19 cd19 ct19), sl19⟩) (c19 : PySem.W.codeIn K cd19 "_law_plus" = true) (k19 : PySem.W.keepIn K (.ref f19) = true)
    (a20 : PySem.W.nsIn K mainGlobals "_law_times" = some (some (.ref f20))) (l20 : K.lookup f20 = some ⟨oc20, od20, .func (PySem.W.fnOf "_law_times" "_law_times" (defArgs sLTimes) (defBody sLTimes) (defScope sLTimes) .none kV20 dc20 pm20 an20 cd20 ct20), sl20⟩) (c20 : PySem.W.codeIn K cd20 "_law_times" = true) (k20 : PySem.W.keepIn K (.ref f20) = true)
    (a21 : PySem.W.nsIn K mainGlobals "_law_less" = some (some (.ref f21))) (l21 : K.lookup f21 = some ⟨oc21, od21, .func (PySem.W.fnOf "_law_less" "_law_less" (defArgs sLLess) (defBody sLLess) (defScope sLLess) .none kV21 dc21 pm21 an21 cd21 ct21), sl21⟩) (c21 : PySem.W.codeIn K cd21 "_law_less" = true) (k21 : PySem.W.keepIn K (.ref f21) = true)
    (a22 : PySem.W.nsIn K mainGlobals "_law_variance" = some (some (.ref f22))) (l22 : K.lookup f22 = some ⟨oc22, od22, .func (PySem.W.fnOf "_law_variance" "_law_variance" (defArgs sLVar) (defBody sLVar) (defScope sLVar) .none kV22 dc22 pm22 an22 cd22 ct22), sl22⟩) (c22 : PySem.W.codeIn K cd22 "_law_variance" = true) (k22 : PySem.W.keepIn K (.ref f22) = true)
    (a23 : PySem.W.nsIn K mainGlobals "_law_deals" = some (some (.ref f23))) (l23 : K.lookup f23 = some ⟨oc23, od23, .func (PySem.W.fnOf "_law_deals" "_law_deals" (defArgs sLDeals) (defBody sLDeals) (defScope sLDeals) .none kV23 dc23 pm23 an23 cd23 ct23), sl23⟩) (c23 : PySem.W.codeIn K cd23 "_law_deals" = true) (k23 : PySem.W.keepIn K (.ref f23) = true)
    (a24 : PySem.W.nsIn K mainGlobals "_law_fall" = some (some (.ref f24))) (l24 : K.lookup f24 = some ⟨oc24, od24, .func (PySem.W.fnOf "_law_fall" "_law_fall" (defArgs sLFall) (defBody sLFall) (defScope sLFall) .none kV24 dc24 pm24 an24 cd24 ct24), sl24⟩) (c24 : PySem.W.codeIn K cd24 "_law_fall" = true) (k24 : PySem.W.keepIn K (.ref f24) = true)
    (a25 : PySem.W.nsIn K mainGlobals "_law_greedy" = some (some (.ref f25))) (l25 : K.lookup f25 = some ⟨oc25, od25, .func (PySem.W.fnOf "_law_greedy" "_law_greedy" (defArgs sGreedy) (defBody sGreedy) (defScope sGreedy) .none kV25 dc25 pm25 an25 cd25 ct25), sl25⟩) (c25 : PySem.W.codeIn K cd25 "_law_greedy" = true) (k25 : PySem.W.keepIn K (.ref f25) = true)
    (a26 : PySem.W.nsIn K mainGlobals "_law_bound" = some (some (.ref f26))) (l26 : K.lookup f26 = some ⟨oc26, od26, .func (PySem.W.fnOf "_law_bound" "_law_bound" (defArgs sLBound) (defBody sLBound) (defScope sLBound) .none kV26 dc26 pm26 an26 cd26 ct26), sl26⟩) (c26 : PySem.W.codeIn K cd26 "_law_bound" = true) (k26 : PySem.W.keepIn K (.ref f26) = true)
    (a27 : PySem.W.nsIn K mainGlobals "_law_told" = some (some (.ref f27))) (l27 : K.lookup f27 = some ⟨oc27, od27, .func (PySem.W.fnOf "_law_told" "_law_told" (defArgs sTold) (defBody sTold) (defScope sTold) .none kV27 dc27 pm27 an27 cd27 ct27), sl27⟩) (c27 : PySem.W.codeIn K cd27 "_law_told" = true) (k27 : PySem.W.keepIn K (.ref f27) = true)
    (a28 : PySem.W.nsIn K mainGlobals "law" = some (some (.ref f28))) (l28 : K.lookup f28 = some ⟨oc28, od28, .func (PySem.W.fnOf "law" "law" (defArgs sLaw) (defBody sLaw) (defScope sLaw) .none kV28 dc28 pm28 an28 cd28 ct28), sl28⟩) (c28 : PySem.W.codeIn K cd28 "law" = true) (k28 : PySem.W.keepIn K (.ref f28) = true)
    (ag : PySem.W.nsIn K mainGlobals "gcd" = some (some (.builtin "math.gcd"))) (aNo : PySem.W.nsIn K mainGlobals "NOTHING" = some (some (.ref aN))) (lN : K.lookup aN = some ⟨.type "tuple", dN, .seq #[.int 0 tN, .int 1 uN] nN, qN⟩)
    (aND : PySem.W.nsIn K mainGlobals "NoDeal" = some (some (.ref ND))) (xND : PySem.W.excIn K ND [.type "ValueError", .type "Exception", .type "BaseException", .type "object"] "ValueError.__new__" = true) (kND : PySem.W.keepIn K (.ref ND) = true)
    (bND : PySem.W.subIn K (.ref ND) (.type "BaseException") = some true) (tND : PySem.W.typeIn K (.ref ND) = some (.type "type")) (iND : PySem.W.isClsIn K ND = true) (sND : PySem.W.subIn K (.ref ND) (.ref ND) = some true) (aSE : PySem.W.nsIn K mainGlobals "SamphireError" = some (some (.ref SE)))
    (z_len : PySem.W.nsIn K mainGlobals "len" = some none)
    (z_sum : PySem.W.nsIn K mainGlobals "sum" = some none)
    (z_all : PySem.W.nsIn K mainGlobals "all" = some none)
    (z_zip : PySem.W.nsIn K mainGlobals "zip" = some none)
    (z_enumerate : PySem.W.nsIn K mainGlobals "enumerate" = some none)
    (z_range : PySem.W.nsIn K mainGlobals "range" = some none)
    (z_int : PySem.W.nsIn K mainGlobals "int" = some none)
    (z_abs : PySem.W.nsIn K mainGlobals "abs" = some none)
    (z_max : PySem.W.nsIn K mainGlobals "max" = some none)
    (z_list : PySem.W.nsIn K mainGlobals "list" = some none)
    (z_tuple : PySem.W.nsIn K mainGlobals "tuple" = some none)
    (z_isinstance : PySem.W.nsIn K mainGlobals "isinstance" = some none) :
    ∃ fd : FuncData, (∀ (s : Shared) (v : Value), BindsTo s fd ⟨[v], []⟩ [("_law_script", v)]) ∧ ∀ base : Heap, K.In base → base.Ns mainGlobals mg → FnOk l.prog w K mg base CX0 7 fa fd ["_law_script"] (spLaw K) := by
  have e := hfa.symm.trans (PySem.W.mg_of X G a28)
  cases e
  have T : Txt K mg aN := ⟨PySem.W.mg_of X G ag, PySem.W.mg_of X G aNo, fun H => .inr ⟨_, _, _, lN, rfl, rfl, (by show 2 ≤ sizeLine; decide), .cons ⟨_, rfl⟩ (.cons ⟨_, rfl⟩ .nil)⟩, PySem.W.mg_none_of X G z_len, PySem.W.mg_none_of X G z_sum, PySem.W.mg_none_of X G z_all, PySem.W.mg_none_of X G z_zip, PySem.W.mg_none_of X G z_enumerate, PySem.W.mg_none_of X G z_range, PySem.W.mg_none_of X G z_int, PySem.W.mg_none_of X G z_abs, PySem.W.mg_none_of X G z_max, PySem.W.mg_none_of X G z_list, PySem.W.mg_none_of X G z_tuple, PySem.W.mg_none_of X G z_isinstance⟩
  have TE : TxtE K mg ND SE := ⟨PySem.W.mg_of X G aND, xND, kND, bND, tND, exm_self bND iND tND sND, PySem.W.mg_of X G aSE⟩
  have F1 := fun_mk (st := sLow) l1 c1 k1
  have F2 := fun_mk (st := sPlus) l2 c2 k2
  have F3 := fun_mk (st := sMinus) l3 c3 k3
  have F4 := fun_mk (st := sTimes) l4 c4 k4
  have F5 := fun_mk (st := sOver) l5 c5 k5
  have F6 := fun_mk (st := sLess) l6 c6 k6
  have F7 := fun_mk (st := sSum) l7 c7 k7
  have F8 := fun_mk (st := sIsDeal) l8 c8 k8
  have F9 := fun_mk (st := sVar) l9 c9 k9
  have F10 := fun_mk (st := sFall) l10 c10 k10
  have F11 := fun_mk (st := sNext) l11 c11 k11
  have F12 := fun_mk (st := sDeal) l12 c12 k12
  have F13 := fun_mk (st := sLeast) l13 c13 k13
  have F14 := fun_mk (st := sBound) l14 c14 k14
  have F15 := fun_mk (st := sMix) l15 c15 k15
  have F16 := fun_mk (st := sNums) l16 c16 k16
  have F17 := fun_mk (st := sTake) l17 c17 k17
  have F18 := fun_mk (st := sLLow) l18 c18 k18
  have F19 := fun_mk (st := sLPlus) l19 c19 k19
  have F20 := fun_mk (st := sLTimes) l20 c20 k20
  have F21 := fun_mk (st := sLLess) l21 c21 k21
  have F22 := fun_mk (st := sLVar) l22 c22 k22
  have F23 := fun_mk (st := sLDeals) l23 c23 k23
  have F24 := fun_mk (st := sLFall) l24 c24 k24
  have F25 := fun_mk (st := sGreedy) l25 c25 k25
  have F26 := fun_mk (st := sLBound) l26 c26 k26
  have F27 := fun_mk (st := sTold) l27 c27 k27
  have F28 := fun_mk (st := sLaw) l28 c28 k28
  have b1 := F1.binds (ps := ["p", "q"]) fun _ _ _ _ _ _ us hl => match us, hl with | [_, _], _ => rfl
  have b2 := F2.binds (ps := ["a", "b"]) fun _ _ _ _ _ _ us hl => match us, hl with | [_, _], _ => rfl
  have b3 := F3.binds (ps := ["a", "b"]) fun _ _ _ _ _ _ us hl => match us, hl with | [_, _], _ => rfl
  have b4 := F4.binds (ps := ["a", "b"]) fun _ _ _ _ _ _ us hl => match us, hl with | [_, _], _ => rfl
  have b5 := F5.binds (ps := ["a", "b"]) fun _ _ _ _ _ _ us hl => match us, hl with | [_, _], _ => rfl
  have b6 := F6.binds (ps := ["a", "b"]) fun _ _ _ _ _ _ us hl => match us, hl with | [_, _], _ => rfl
  have b7 := F7.binds (ps := ["fractions"]) fun _ _ _ _ _ _ us hl => match us, hl with | [_], _ => rfl
  have b8 := F8.binds (ps := ["limits", "places", "numbers"]) fun _ _ _ _ _ _ us hl => match us, hl with | [_, _, _], _ => rfl
  have b9 := F9.binds (ps := ["costs", "numbers"]) fun _ _ _ _ _ _ us hl => match us, hl with | [_, _], _ => rfl
  have b10 := F10.binds (ps := ["cost", "number"]) fun _ _ _ _ _ _ us hl => match us, hl with | [_, _], _ => rfl
  have b11 := F11.binds (ps := ["costs", "limits", "numbers"]) fun _ _ _ _ _ _ us hl => match us, hl with | [_, _, _], _ => rfl
  have b12 := F12.binds (ps := ["costs", "limits", "places"]) fun _ _ _ _ _ _ us hl => match us, hl with | [_, _, _], _ => rfl
  have b13 := F13.binds (ps := ["cost", "limit", "price"]) fun _ _ _ _ _ _ us hl => match us, hl with | [_, _, _], _ => rfl
  have b14 := F14.binds (ps := ["costs", "limits", "places", "price"]) fun _ _ _ _ _ _ us hl => match us, hl with | [_, _, _, _], _ => rfl
  have b15 := F15.binds (ps := ["_law_number", "_law_k"]) fun _ _ _ _ _ _ us hl => match us, hl with | [_, _], _ => rfl
  have b16 := F16.binds (ps := ["_law_script", "_law_count"]) fun _ _ _ _ _ _ us hl => match us, hl with | [_, _], _ => rfl
  have b17 := F17.binds (ps := ["_law_row", "_law_bound_here"]) fun _ _ _ _ _ _ us hl => match us, hl with | [_, _], _ => rfl
  have b18 := F18.binds (ps := ["_law_p", "_law_q"]) fun _ _ _ _ _ _ us hl => match us, hl with | [_, _], _ => rfl
  have b19 := F19.binds (ps := ["_law_one", "_law_other"]) fun _ _ _ _ _ _ us hl => match us, hl with | [_, _], _ => rfl
  have b20 := F20.binds (ps := ["_law_one", "_law_other"]) fun _ _ _ _ _ _ us hl => match us, hl with | [_, _], _ => rfl
  have b21 := F21.binds (ps := ["_law_one", "_law_other"]) fun _ _ _ _ _ _ us hl => match us, hl with | [_, _], _ => rfl
  have b22 := F22.binds (ps := ["_law_costs", "_law_numbers_here"]) fun _ _ _ _ _ _ us hl => match us, hl with | [_, _], _ => rfl
  have b23 := F23.binds (ps := ["_law_limits", "_law_places"]) fun _ _ _ _ _ _ us hl => match us, hl with | [_, _], _ => rfl
  have b24 := F24.binds (ps := ["_law_cost", "_law_number"]) fun _ _ _ _ _ _ us hl => match us, hl with | [_, _], _ => rfl
  have b25 := F25.binds (ps := ["_law_costs", "_law_limits", "_law_places"]) fun _ _ _ _ _ _ us hl => match us, hl with | [_, _, _], _ => rfl
  have b26 := F26.binds (ps := ["_law_costs", "_law_limits", "_law_places", "_law_price"]) fun _ _ _ _ _ _ us hl => match us, hl with | [_, _, _, _], _ => rfl
  have b27 := F27.binds (ps := ["_law_costs", "_law_limits", "_law_places"]) fun _ _ _ _ _ _ us hl => match us, hl with | [_, _, _], _ => rfl
  refine ⟨PySem.W.fnOf "law" "law" (defArgs sLaw) (defBody sLaw) (defScope sLaw) .none kV28 dc28 pm28 an28 cd28 ct28, fun s v => .of_eq rfl, fun base _ _ => ?_⟩
  have Dlow := mk_dn F1 (PySem.W.mg_of X G a1) b1 (ok_low (P := l.prog) (w := w) (base := base) F1 T)
  have Dplus := mk_dn F2 (PySem.W.mg_of X G a2) b2 (ok_plus (P := l.prog) (w := w) (base := base) F2 Dlow)
  have Dminus := mk_dn F3 (PySem.W.mg_of X G a3) b3 (ok_minus (P := l.prog) (w := w) (base := base) F3 Dlow)
  have Dtimes := mk_dn F4 (PySem.W.mg_of X G a4) b4 (ok_times (P := l.prog) (w := w) (base := base) F4 Dlow)
  have Dover := mk_dn F5 (PySem.W.mg_of X G a5) b5 (ok_over (P := l.prog) (w := w) (base := base) F5 Dlow)
  have Dless := mk_dn F6 (PySem.W.mg_of X G a6) b6 (ok_less (P := l.prog) (w := w) (base := base) F6)
  have Dsum := mk_dn F7 (PySem.W.mg_of X G a7) b7 (ok_sum (P := l.prog) (w := w) (base := base) F7 T Dplus)
  have Disdeal := mk_dn F8 (PySem.W.mg_of X G a8) b8 (ok_isdeal (P := l.prog) (w := w) (base := base) F8 T)
  have Dvar := mk_dn F9 (PySem.W.mg_of X G a9) b9 (ok_var (P := l.prog) (w := w) (base := base) F9 T Dover Dsum)
  have Dfall := mk_dn F10 (PySem.W.mg_of X G a10) b10 (ok_fall (P := l.prog) (w := w) (base := base) F10 Dover Dminus)
  have Dnext := mk_dn F11 (PySem.W.mg_of X G a11) b11 (ok_next (P := l.prog) (w := w) (base := base) F11 T Dfall Dless)
  have Dleast := mk_dn F13 (PySem.W.mg_of X G a13) b13 (ok_least (P := l.prog) (w := w) (base := base) F13 T Dplus Dover Dtimes Dless)
  have Dbound := mk_dn F14 (PySem.W.mg_of X G a14) b14 (ok_bound (P := l.prog) (w := w) (base := base) F14 T Dtimes Dminus Dsum Dleast)
  have Dmix := mk_dn F15 (PySem.W.mg_of X G a15) b15 (ok_mix (P := l.prog) (w := w) (base := base) F15 T)
  have Dnums := mk_dn F16 (PySem.W.mg_of X G a16) b16 (ok_nums (P := l.prog) (w := w) (base := base) F16 T Dmix)
  have Dtake := mk_dn F17 (PySem.W.mg_of X G a17) b17 (ok_take (P := l.prog) (w := w) (base := base) F17 T)
  have Dllow := mk_dn F18 (PySem.W.mg_of X G a18) b18 (ok_llow (P := l.prog) (w := w) (base := base) F18 T)
  have Dlplus := mk_dn F19 (PySem.W.mg_of X G a19) b19 (ok_lplus (P := l.prog) (w := w) (base := base) F19 Dllow)
  have Dltimes := mk_dn F20 (PySem.W.mg_of X G a20) b20 (ok_ltimes (P := l.prog) (w := w) (base := base) F20 Dllow)
  have Dlless := mk_dn F21 (PySem.W.mg_of X G a21) b21 (ok_lless (P := l.prog) (w := w) (base := base) F21)
  have Dlvar := mk_dn F22 (PySem.W.mg_of X G a22) b22 (ok_lvar (P := l.prog) (w := w) (base := base) F22 T Dlplus Dllow)
  have Dldeals := mk_dn F23 (PySem.W.mg_of X G a23) b23 (ok_ldeals (P := l.prog) (w := w) (base := base) F23 T)
  have Dlfall := mk_dn F24 (PySem.W.mg_of X G a24) b24 (ok_lfall (P := l.prog) (w := w) (base := base) F24 Dllow)
  have Dgreedy := mk_dn F25 (PySem.W.mg_of X G a25) b25 (ok_greedy (P := l.prog) (w := w) (base := base) F25 T Dlfall Dlless)
  have Dlbound := mk_dn F26 (PySem.W.mg_of X G a26) b26 (ok_lbound (P := l.prog) (w := w) (base := base) F26 T Dltimes Dlplus Dllow Dlless)
  have Gdeal := ok_deal (P := l.prog) (w := w) (base := base) F12 T TE Dnext
  have Dtold := mk_dn F27 (PySem.W.mg_of X G a27) b27 (ok_told (P := l.prog) (w := w) (base := base) F27 TE Gdeal (PySem.W.mg_of X G a12) F12.kp b12)
  exact ok_law F28 T Dnums Dtake Dllow Dtold Dldeals Disdeal Dgreedy Dlvar Dlless Dvar Dbound Dlbound
end K54

open PySem PySem.W PyProof.Rows
set_option maxRecDepth 100000 in
set_option maxHeartbeats 0 in
theorem PySem.Challenge.cw_samphire_k54_whole_places_for_strata_holds : PySem.Challenge.rw_samphire_k54_whole_places_for_strata.Holds := by
  w_on; o_law; k_head; (case hw => w_witness2)
  k_fill
  refine L2.walk_of (l := PySem.Challenge.rw_samphire_k54_whole_places_for_strata) (n := 63) (k := 7) (x := "_law_script") (CX := fun _ => L2.CX0) (sp := fun w => K54.spLaw _) rfl (by decide) rfl ⟨rfl, by decide, by decide⟩ (fun w h Y => PySem.W.kIn_of Y) ?F (fun _ _ a ns hl _ hS => ⟨a, ns, rfl, hS, hl, fun _ => rfl⟩) (fun _ _ _ _ _ h => h)
  case F =>
    intro w mg fa h KX G hmg
    refine' K54.all_mk KX G hmg ?a1 ?l1 ?c1 ?k1 ?a2 ?l2 ?c2 ?k2 ?a3 ?l3 ?c3 ?k3 ?a4 ?l4 ?c4 ?k4 ?a5 ?l5 ?c5 ?k5 ?a6 ?l6 ?c6 ?k6 ?a7 ?l7 ?c7 ?k7 ?a8 ?l8 ?c8 ?k8 ?a9 ?l9 ?c9 ?k9 ?a10 ?l10 ?c10 ?k10 ?a11 ?l11 ?c11 ?k11 ?a12 ?l12 ?c12 ?k12 ?a13 ?l13 ?c13 ?k13 ?a14 ?l14 ?c14 ?k14 ?a15 ?l15 ?c15 ?k15 ?a16 ?l16 ?c16 ?k16 ?a17 ?l17 ?c17 ?k17 ?a18 ?l18 ?c18 ?k18 ?a19 ?l19 ?c19 ?k19 ?a20 ?l20 ?c20 ?k20 ?a21 ?l21 ?c21 ?k21 ?a22 ?l22 ?c22 ?k22 ?a23 ?l23 ?c23 ?k23 ?a24 ?l24 ?c24 ?k24 ?a25 ?l25 ?c25 ?k25 ?a26 ?l26 ?c26 ?k26 ?a27 ?l27 ?c27 ?k27 ?a28 ?l28 ?c28 ?k28 ?ag ?aNo ?lN ?aND ?xND ?kND ?bND ?tND ?iND ?sND ?aSE ?z_len ?z_sum ?z_all ?z_zip ?z_enumerate ?z_range ?z_int ?z_abs ?z_max ?z_list ?z_tuple ?z_isinstance
    (case a1 => k_is)
    (case l1 => k_is)
    (case c1 => k_is)
    (case k1 => k_is)
    (case a2 => k_is)
    (case l2 => k_is)
    (case c2 => k_is)
    (case k2 => k_is)
    (case a3 => k_is)
    (case l3 => k_is)
    (case c3 => k_is)
    (case k3 => k_is)
    (case a4 => k_is)
    (case l4 => k_is)
    (case c4 => k_is)
    (case k4 => k_is)
    (case a5 => k_is)
    (case l5 => k_is)
    (case c5 => k_is)
    (case k5 => k_is)
    (case a6 => k_is)
    (case l6 => k_is)
    (case c6 => k_is)
    (case k6 => k_is)
    (case a7 => k_is)
    (case l7 => k_is)
    (case c7 => k_is)
    (case k7 => k_is)
    (case a8 => k_is)
    (case l8 => k_is)
    (case c8 => k_is)
    (case k8 => k_is)
    (case a9 => k_is)
    (case l9 => k_is)
    (case c9 => k_is)
    (case k9 => k_is)
    (case a10 => k_is)
    (case l10 => k_is)
    (case c10 => k_is)
    (case k10 => k_is)
    (case a11 => k_is)
    (case l11 => k_is)
    (case c11 => k_is)
    (case k11 => k_is)
    (case a12 => k_is)
    (case l12 => k_is)
    (case c12 => k_is)
    (case k12 => k_is)
    (case a13 => k_is)
    (case l13 => k_is)
    (case c13 => k_is)
    (case k13 => k_is)
    (case a14 => k_is)
    (case l14 => k_is)
    (case c14 => k_is)
    (case k14 => k_is)
    (case a15 => k_is)
    (case l15 => k_is)
    (case c15 => k_is)
    (case k15 => k_is)
    (case a16 => k_is)
    (case l16 => k_is)
    (case c16 => k_is)
    (case k16 => k_is)
    (case a17 => k_is)
    (case l17 => k_is)
    (case c17 => k_is)
    (case k17 => k_is)
    (case a18 => k_is)
    (case l18 => k_is)
    (case c18 => k_is)
    (case k18 => k_is)
    (case a19 => k_is)
    (case l19 => k_is)
    (case c19 => k_is)
    (case k19 => k_is)
    (case a20 => k_is)
    (case l20 => k_is)
    (case c20 => k_is)
    (case k20 => k_is)
    (case a21 => k_is)
    (case l21 => k_is)
    (case c21 => k_is)
    (case k21 => k_is)
    (case a22 => k_is)
    (case l22 => k_is)
    (case c22 => k_is)
    (case k22 => k_is)
    (case a23 => k_is)
    (case l23 => k_is)
    (case c23 => k_is)
    (case k23 => k_is)
    (case a24 => k_is)
    (case l24 => k_is)
    (case c24 => k_is)
    (case k24 => k_is)
    (case a25 => k_is)
    (case l25 => k_is)
    (case c25 => k_is)
    (case k25 => k_is)
    (case a26 => k_is)
    (case l26 => k_is)
    (case c26 => k_is)
    (case k26 => k_is)
    (case a27 => k_is)
    (case l27 => k_is)
    (case c27 => k_is)
    (case k27 => k_is)
    (case a28 => k_is)
    (case l28 => k_is)
    (case c28 => k_is)
    (case k28 => k_is)
    (case ag => k_is)
    (case aNo => k_is)
    (case lN => k_is)
    (case aND => k_is)
    (case xND => k_exc)
    (case kND => k_is)
    (case bND => k_is)
    (case tND => k_is)
    (case iND => k_is)
    (case sND => first | rfl | k_is)
    (case aSE => k_is)
    (case z_len => k_is)
    (case z_sum => k_is)
    (case z_all => k_is)
    (case z_zip => k_is)
    (case z_enumerate => k_is)
    (case z_range => k_is)
    (case z_int => k_is)
    (case z_abs => k_is)
    (case z_max => k_is)
    (case z_list => k_is)
    (case z_tuple => k_is)
    (case z_isinstance => k_is)
#print axioms PySem.Challenge.cw_samphire_k54_whole_places_for_strata_holds
