import PyProof.Rows.All
import Wide.All
import OpenK.AllK
import Wide.FinOn
import HandS.ForMost
import HandS.Gcd
import HandS.Wide
import HandS.Walk
import HandS.Zip
import HandS.TupAny
import HandS.TupLe
import HandS.Sort
import HandS.TupSets
import HandS.Style
import HandS.IsInst
import HandS.Conv
import HandS.Flow
import KE.KDictSum
import HandS.SortOrd
import KE.KTupSum
import PySem.Challenge.RW_spinfield_k42_whole_correlations
set_option Elab.async false
set_option linter.all false
set_option maxRecDepth 100000
set_option maxHeartbeats 4000000
namespace K42
/-! ### sums over the states of n vertices -/
def S : Nat → (List Bool → Int) → Int
  | 0, f => f []
  | n + 1, f => S n fun s => f (s ++ [false]) + f (s ++ [true])

theorem S_congr : ∀ {n : Nat} {f g : List Bool → Int}, (∀ s, s.length = n → f s = g s) → S n f = S n g
  | 0, f, g, h => h [] rfl
  | n + 1, f, g, h => by
    refine S_congr (n := n) fun s hs => ?_
    rw [h (s ++ [false]) (by simp [hs]), h (s ++ [true]) (by simp [hs])]
theorem S_nonneg : ∀ {n : Nat} {f : List Bool → Int}, (∀ s, s.length = n → 0 ≤ f s) → 0 ≤ S n f
  | 0, f, h => h [] rfl
  | n + 1, f, h => by
    refine S_nonneg (n := n) fun s hs => ?_
    have h1 := h (s ++ [false]) (by simp [hs])
    have h2 := h (s ++ [true]) (by simp [hs])
    omega
theorem S_le : ∀ {n : Nat} {f g : List Bool → Int}, (∀ s, s.length = n → f s ≤ g s) → S n f ≤ S n g
  | 0, f, g, h => h [] rfl
  | n + 1, f, g, h => by
    refine S_le (n := n) fun s hs => ?_
    have h1 := h (s ++ [false]) (by simp [hs])
    have h2 := h (s ++ [true]) (by simp [hs])
    omega
theorem S_pos : ∀ {n : Nat} {f : List Bool → Int}, (∀ s, s.length = n → 0 < f s) → 0 < S n f
  | 0, f, h => h [] rfl
  | n + 1, f, h => by
    refine S_pos (n := n) fun s hs => ?_
    have h1 := h (s ++ [false]) (by simp [hs])
    have h2 := h (s ++ [true]) (by simp [hs])
    omega
theorem S_add : ∀ (n : Nat) (f g : List Bool → Int), S n (fun s => f s + g s) = S n f + S n g
  | 0, f, g => rfl
  | n + 1, f, g => by
    show S n (fun s => (f (s ++ [false]) + g (s ++ [false])) + (f (s ++ [true]) + g (s ++ [true]))) = S n _ + S n _
    rw [← S_add n]
    exact S_congr fun s _ => by omega
theorem S_mul : ∀ (n : Nat) (c : Int) (f : List Bool → Int), S n (fun s => c * f s) = c * S n f
  | 0, c, f => rfl
  | n + 1, c, f => by
    show S n (fun s => c * f (s ++ [false]) + c * f (s ++ [true])) = c * S n _
    rw [← S_mul n]
    exact S_congr fun s _ => by rw [Int.mul_add]
theorem S_swap : ∀ (n m : Nat) (f : List Bool → List Bool → Int), S n (fun s => S m (fun t => f s t)) = S m (fun t => S n (fun s => f s t))
  | 0, m, f => rfl
  | n + 1, m, f => by
    show S n (fun s => S m (fun t => f (s ++ [false]) t) + S m (fun t => f (s ++ [true]) t)) = S m (fun t => S n (fun s => f (s ++ [false]) t + f (s ++ [true]) t))
    rw [← S_swap n m]
    exact S_congr fun s _ => (S_add m _ _).symm

/-! ### signs, monomials -/
def sgb (b : Bool) : Int := if b = true then 1 else -1
def sg (s : List Bool) (i : Nat) : Int := sgb (s.getD i false)
theorem sgb_sq (b : Bool) : sgb b * sgb b = 1 := by cases b <;> rfl
theorem sg_sq (s : List Bool) (i : Nat) : sg s i * sg s i = 1 := sgb_sq _
theorem sg_cases (s : List Bool) (i : Nat) : sg s i = 1 ∨ sg s i = -1 := by
  unfold sg
  cases s.getD i false
  · exact .inr rfl
  · exact .inl rfl
def mon (M : List Nat) (s : List Bool) : Int := (M.map (sg s)).foldr (· * ·) 1
theorem mon_nil (s : List Bool) : mon [] s = 1 := rfl
theorem mon_cons (i : Nat) (M : List Nat) (s : List Bool) : mon (i :: M) s = sg s i * mon M s := rfl
theorem mon_cases : ∀ (M : List Nat) (s : List Bool), mon M s = 1 ∨ mon M s = -1
  | [], s => .inl rfl
  | i :: M, s => by
    rw [mon_cons]
    rcases sg_cases s i with h | h <;> rcases mon_cases M s with k | k <;> rw [h, k] <;> simp
theorem mon_append (M N : List Nat) (s : List Bool) : mon (M ++ N) s = mon M s * mon N s := by
  induction M with
  | nil => rw [List.nil_append, mon_nil, Int.one_mul]
  | cons i M ih => rw [List.cons_append, mon_cons, mon_cons, ih, Int.mul_assoc]
theorem mon_snoc {n : Nat} {s : List Bool} (hs : s.length = n) (b : Bool) : ∀ (M : List Nat), (∀ i ∈ M, i < n + 1) →
    mon M (s ++ [b]) = mon (M.filter (fun i => decide (i ≠ n))) s * sgb b ^ (M.count n)
  | [], _ => by simp [mon_nil]
  | i :: M, h => by
    have ih := mon_snoc hs b M fun j hj => h j (List.mem_cons_of_mem _ hj)
    have hi := h i List.mem_cons_self
    rw [mon_cons, ih]
    by_cases e : i = n
    · subst e
      have e1 : sg (s ++ [b]) i = sgb b := by
        unfold sg
        rw [List.getD_eq_getElem?_getD, List.getElem?_append_right (by omega)]
        simp [hs]
      rw [e1, List.filter_cons_of_neg (by simp), List.count_cons_self, Int.pow_succ]
      rw [Int.mul_comm, Int.mul_assoc]
    · have e1 : sg (s ++ [b]) i = sg s i := by
        unfold sg
        rw [List.getD_eq_getElem?_getD, List.getD_eq_getElem?_getD, List.getElem?_append_left (by omega)]
      rw [e1, List.filter_cons_of_pos (by simp [e]), List.count_cons_of_ne (by simpa using e), mon_cons, Int.mul_assoc]
theorem negpow (k : Nat) : (-1 : Int) ^ k = 1 ∨ (-1 : Int) ^ k = -1 := by
  induction k with
  | zero => exact .inl rfl
  | succ k ih =>
    rw [Int.pow_succ]
    rcases ih with h | h <;> rw [h] <;> simp
theorem onepow (k : Nat) : (1 : Int) ^ k = 1 := by
  induction k with
  | zero => rfl
  | succ k ih => rw [Int.pow_succ, ih]; rfl
theorem mon_sum : ∀ (n : Nat) (M : List Nat), (∀ i ∈ M, i < n) → 0 ≤ S n (mon M)
  | 0, M, h => by
    have e : M = [] := by
      cases M with
      | nil => rfl
      | cons i M => exact absurd (h i List.mem_cons_self) (Nat.not_lt_zero _)
    subst e
    decide
  | n + 1, M, h => by
    have ih := mon_sum n (M.filter (fun i => decide (i ≠ n))) fun i hi => by
      have h1 := List.mem_filter.mp hi
      have h2 := h i h1.1
      have h3 : i ≠ n := by simpa using h1.2
      omega
    show 0 ≤ S n fun s => mon M (s ++ [false]) + mon M (s ++ [true])
    have e : S n (fun s => mon M (s ++ [false]) + mon M (s ++ [true])) = S n fun s => ((-1) ^ (M.count n) + 1) * mon (M.filter (fun i => decide (i ≠ n))) s :=
      S_congr fun s hs => by
        rw [mon_snoc hs false M h, mon_snoc hs true M h]
        show mon _ s * (-1) ^ M.count n + mon _ s * 1 ^ M.count n = _
        rw [onepow, ← Int.mul_add, Int.mul_comm]
    rw [e, S_mul]
    refine Int.mul_nonneg ?_ ih
    rcases negpow (M.count n) with h | h <;> rw [h] <;> decide

/-! ### the first inequality -/
structure Fac where
  a : Int
  b : Int
  u : Nat
  v : Nat
def Fac.val (e : Fac) (s : List Bool) : Int := e.a + e.b * (sg s e.u * sg s e.v)
def G (L : List Fac) (s : List Bool) : Int := (L.map fun e => e.val s).foldr (· * ·) 1
theorem G_cons (e : Fac) (L : List Fac) (s : List Bool) : G (e :: L) s = e.val s * G L s := rfl
structure FacOk (n : Nat) (e : Fac) : Prop where
  a0 : 0 ≤ e.a
  b0 : 0 ≤ e.b
  hu : e.u < n
  hv : e.v < n
theorem gks1 {n : Nat} : ∀ (L : List Fac) (M : List Nat), (∀ e ∈ L, FacOk n e) → (∀ i ∈ M, i < n) → 0 ≤ S n fun s => mon M s * G L s
  | [], M, _, hM => by
    have e : S n (fun s => mon M s * G [] s) = S n (mon M) := S_congr fun s _ => Int.mul_one _
    rw [e]
    exact mon_sum n M hM
  | e :: L, M, hL, hM => by
    have he := hL e List.mem_cons_self
    have i1 := gks1 L M (fun x hx => hL x (List.mem_cons_of_mem _ hx)) hM
    have i2 := gks1 L (e.u :: e.v :: M) (fun x hx => hL x (List.mem_cons_of_mem _ hx)) fun i hi => by
      rcases List.mem_cons.mp hi with h | h
      · rw [h]; exact he.hu
      · rcases List.mem_cons.mp h with h | h
        · rw [h]; exact he.hv
        · exact hM i h
    have q : S n (fun s => mon M s * G (e :: L) s) = e.a * S n (fun s => mon M s * G L s) + e.b * S n (fun s => mon (e.u :: e.v :: M) s * G L s) := by
      rw [← S_mul, ← S_mul, ← S_add]
      refine S_congr fun s _ => ?_
      rw [G_cons, mon_cons, mon_cons]
      show mon M s * ((e.a + e.b * (sg s e.u * sg s e.v)) * G L s) = e.a * (mon M s * G L s) + e.b * (sg s e.u * (sg s e.v * mon M s) * G L s)
      simp only [Int.add_mul, Int.mul_add, Int.mul_comm, Int.mul_assoc, Int.mul_left_comm]
    rw [q]
    exact Int.add_nonneg (Int.mul_nonneg he.a0 i1) (Int.mul_nonneg he.b0 i2)

/-! ### the product of two states -/
def mulS (s t : List Bool) : List Bool := List.zipWith (fun a b => a == b) s t
theorem mulS_len {n : Nat} {s t : List Bool} (hs : s.length = n) (ht : t.length = n) : (mulS s t).length = n := by
  unfold mulS
  rw [List.length_zipWith, hs, ht, Nat.min_self]
theorem sg_mulS {n i : Nat} {s t : List Bool} (hs : s.length = n) (ht : t.length = n) (hi : i < n) : sg (mulS s t) i = sg s i * sg t i := by
  unfold sg mulS
  have h1 : i < s.length := by omega
  have h2 : i < t.length := by omega
  rw [List.getD_eq_getElem?_getD, List.getD_eq_getElem?_getD, List.getD_eq_getElem?_getD, List.getElem?_zipWith, List.getElem?_eq_getElem h1, List.getElem?_eq_getElem h2]
  show sgb (s[i] == t[i]) = sgb s[i] * sgb t[i]
  cases s[i] <;> cases t[i] <;> rfl
theorem mon_mulS {n : Nat} {s t : List Bool} (hs : s.length = n) (ht : t.length = n) : ∀ (M : List Nat), (∀ i ∈ M, i < n) → mon M (mulS s t) = mon M s * mon M t
  | [], _ => rfl
  | i :: M, h => by
    rw [mon_cons, mon_cons, mon_cons, mon_mulS hs ht M fun j hj => h j (List.mem_cons_of_mem _ hj), sg_mulS hs ht (h i List.mem_cons_self)]
    simp only [Int.mul_comm, Int.mul_assoc, Int.mul_left_comm]
theorem S_shift : ∀ (n : Nat) (g : List Bool → Int) (σ : List Bool), σ.length = n → S n (fun t => g (mulS σ t)) = S n g
  | 0, g, σ, h => by
    have e : σ = [] := List.length_eq_zero_iff.mp h
    subst e
    rfl
  | n + 1, g, σ, h => by
    obtain ⟨τ, b, rfl⟩ : ∃ τ b, σ = τ ++ [b] := ⟨σ.dropLast, σ.getLast (by intro z; subst z; simp at h), (List.dropLast_concat_getLast _).symm⟩
    have hτ : τ.length = n := by simpa using h
    have ih := S_shift n (fun t => g (t ++ [false]) + g (t ++ [true])) τ hτ
    show S n (fun t => g (mulS (τ ++ [b]) (t ++ [false])) + g (mulS (τ ++ [b]) (t ++ [true]))) = S n (fun t => g (t ++ [false]) + g (t ++ [true]))
    rw [← ih]
    refine S_congr fun t ht => ?_
    have z : ∀ c, mulS (τ ++ [b]) (t ++ [c]) = mulS τ t ++ [b == c] := fun c => by
      unfold mulS
      rw [List.zipWith_append (by omega)]
      rfl
    rw [z, z]
    cases b
    · show g (mulS τ t ++ [true]) + g (mulS τ t ++ [false]) = g (mulS τ t ++ [false]) + g (mulS τ t ++ [true])
      exact Int.add_comm _ _
    · rfl

/-! ### the second inequality -/
def Fac.two (e : Fac) (t : List Bool) : Fac := ⟨e.a * e.a + e.b * e.b * (sg t e.u * sg t e.v), e.a * e.b * (1 + sg t e.u * sg t e.v), e.u, e.v⟩
theorem sgsg (t : List Bool) (u v : Nat) : sg t u * sg t v = 1 ∨ sg t u * sg t v = -1 := by
  rcases sg_cases t u with h | h <;> rcases sg_cases t v with k | k <;> rw [h, k] <;> simp
theorem Fac.two_val {n : Nat} {e : Fac} (he : FacOk n e) {s t : List Bool} (hs : s.length = n) (ht : t.length = n) : (e.two t).val s = e.val s * e.val (mulS s t) := by
  unfold Fac.val Fac.two
  rw [sg_mulS hs ht he.hu, sg_mulS hs ht he.hv]
  show e.a * e.a + e.b * e.b * (sg t e.u * sg t e.v) + e.a * e.b * (1 + sg t e.u * sg t e.v) * (sg s e.u * sg s e.v) = (e.a + e.b * (sg s e.u * sg s e.v)) * (e.a + e.b * (sg s e.u * sg t e.u * (sg s e.v * sg t e.v)))
  have q : sg s e.u * sg t e.u * (sg s e.v * sg t e.v) = (sg s e.u * sg s e.v) * (sg t e.u * sg t e.v) := by
    simp only [Int.mul_comm, Int.mul_assoc, Int.mul_left_comm]
  rw [q]
  rcases sgsg s e.u e.v with h | h <;> rcases sgsg t e.u e.v with k | k <;> rw [h, k] <;> simp [Int.add_mul, Int.mul_add, Int.sub_mul, Int.mul_sub, Int.mul_comm, Int.mul_neg, Int.neg_mul] <;> (try omega)
theorem Fac.two_ok {n : Nat} {e : Fac} (he : FacOk n e) (hab : e.b ≤ e.a) (t : List Bool) : FacOk n (e.two t) := by
  have a2 : e.b * e.b ≤ e.a * e.a := Int.mul_le_mul hab hab he.b0 he.a0
  have ab : 0 ≤ e.a * e.b := Int.mul_nonneg he.a0 he.b0
  have b2 : 0 ≤ e.b * e.b := Int.mul_nonneg he.b0 he.b0
  refine ⟨?_, ?_, he.hu, he.hv⟩
  · show 0 ≤ e.a * e.a + e.b * e.b * (sg t e.u * sg t e.v)
    rcases sgsg t e.u e.v with k | k <;> rw [k] <;> omega
  · show 0 ≤ e.a * e.b * (1 + sg t e.u * sg t e.v)
    rcases sgsg t e.u e.v with k | k <;> rw [k] <;> omega
theorem G_two {n : Nat} {s t : List Bool} (hs : s.length = n) (ht : t.length = n) : ∀ (L : List Fac), (∀ e ∈ L, FacOk n e) → G (L.map fun e => e.two t) s = G L s * G L (mulS s t)
  | [], _ => rfl
  | e :: L, h => by
    rw [List.map_cons, G_cons, G_cons, G_cons, G_two hs ht L fun x hx => h x (List.mem_cons_of_mem _ hx), Fac.two_val (h e List.mem_cons_self) hs ht]
    simp only [Int.mul_comm, Int.mul_assoc, Int.mul_left_comm]
theorem gks2 {n : Nat} (L : List Fac) (A B : List Nat) (hL : ∀ e ∈ L, FacOk n e) (hab : ∀ e ∈ L, e.b ≤ e.a) (hA : ∀ i ∈ A, i < n) (hB : ∀ i ∈ B, i < n) :
    S n (fun s => mon A s * G L s) * S n (fun s => mon B s * G L s) ≤ S n (fun s => mon (A ++ B) s * G L s) * S n (G L) := by
  have e1 : S n (fun s => mon A s * G L s) * S n (fun s => mon B s * G L s) = S n fun s => S n fun t => mon A s * G L s * (mon B (mulS s t) * G L (mulS s t)) := by
    rw [Int.mul_comm, ← S_mul]
    refine S_congr fun s hs => ?_
    rw [Int.mul_comm, S_mul, S_shift n (fun t => mon B t * G L t) s hs]
  have e2 : S n (fun s => mon (A ++ B) s * G L s) * S n (G L) = S n fun s => S n fun t => mon (A ++ B) s * G L s * G L (mulS s t) := by
    rw [Int.mul_comm, ← S_mul]
    refine S_congr fun s hs => ?_
    rw [Int.mul_comm, S_mul, S_shift n (G L) s hs]
  rw [e1, e2, S_swap, S_swap n n fun s t => mon (A ++ B) s * G L s * G L (mulS s t)]
  refine S_le fun t ht => ?_
  have q1 : S n (fun s => mon A s * G L s * (mon B (mulS s t) * G L (mulS s t))) = mon B t * S n fun s => mon (A ++ B) s * G (L.map fun e => e.two t) s := by
    rw [← S_mul]
    refine S_congr fun s hs => ?_
    rw [G_two hs ht L hL, mon_append, mon_mulS hs ht B hB]
    simp only [Int.mul_comm, Int.mul_assoc, Int.mul_left_comm]
  have q2 : S n (fun s => mon (A ++ B) s * G L s * G L (mulS s t)) = S n fun s => mon (A ++ B) s * G (L.map fun e => e.two t) s :=
    S_congr fun s hs => by
      rw [G_two hs ht L hL, Int.mul_assoc]
  rw [q1, q2]
  have z := gks1 (n := n) (L.map fun e => e.two t) (A ++ B) (fun e he => by
    obtain ⟨d, hd, rfl⟩ := List.mem_map.mp he
    exact Fac.two_ok (hL d hd) (hab d hd) t) fun i hi => by
      rcases List.mem_append.mp hi with h | h
      · exact hA i h
      · exact hB i h
  rcases mon_cases B t with k | k <;> rw [k] <;> omega
end K42
namespace K42
/-! ### weights of states -/
abbrev Ed := Nat × Nat × Nat
def differ (s : List Bool) (e : Ed) : Bool := s.getD e.1 false != s.getD e.2.1 false
def w1 (p q : Int) (e : Ed) (s : List Bool) : Int := if differ s e = true then p ^ e.2.2 else q ^ e.2.2
def W (p q : Int) : List Ed → List Bool → Int
  | [], _ => 1
  | e :: E, s => w1 p q e s * W p q E s
def cost : List Ed → List Bool → Nat
  | [], _ => 0
  | e :: E, s => (if differ s e = true then e.2.2 else 0) + cost E s
def alike : List Ed → List Bool → Nat
  | [], _ => 0
  | e :: E, s => (if differ s e = true then 0 else e.2.2) + alike E s
def tot : List Ed → Nat
  | [] => 0
  | e :: E => e.2.2 + tot E
theorem cost_alike : ∀ (E : List Ed) (s : List Bool), cost E s + alike E s = tot E
  | [], s => rfl
  | e :: E, s => by
    have ih := cost_alike E s
    show (if differ s e = true then e.2.2 else 0) + cost E s + ((if differ s e = true then 0 else e.2.2) + alike E s) = e.2.2 + tot E
    cases differ s e <;> simp <;> omega
theorem W_eq (p q : Int) : ∀ (E : List Ed) (s : List Bool), W p q E s = p ^ cost E s * q ^ alike E s
  | [], s => by
    show (1 : Int) = p ^ 0 * q ^ 0
    rw [Int.pow_zero, Int.pow_zero]
    rfl
  | e :: E, s => by
    have ih := W_eq p q E s
    show w1 p q e s * W p q E s = p ^ ((if differ s e = true then e.2.2 else 0) + cost E s) * q ^ ((if differ s e = true then 0 else e.2.2) + alike E s)
    rw [ih]
    unfold w1
    cases differ s e
    · simp only [Bool.false_eq_true, if_false, Nat.zero_add, Int.pow_add]
      rw [← Int.mul_assoc, ← Int.mul_assoc, Int.mul_comm (q ^ e.2.2)]
    · simp only [if_true, Nat.zero_add, Int.pow_add]
      rw [Int.mul_assoc]
theorem W_append (p q : Int) (s : List Bool) : ∀ (E F : List Ed), W p q (E ++ F) s = W p q E s * W p q F s
  | [], F => (Int.one_mul _).symm
  | e :: E, F => by
    show w1 p q e s * W p q (E ++ F) s = w1 p q e s * W p q E s * W p q F s
    rw [W_append p q s E F, Int.mul_assoc]
theorem W_perm (p q : Int) (s : List Bool) {E F : List Ed} (h : E.Perm F) : W p q E s = W p q F s := by
  induction h with
  | nil => rfl
  | cons e _ ih => exact congrArg (w1 p q e s * ·) ih
  | swap a b l =>
    show w1 p q b s * (w1 p q a s * W p q l s) = w1 p q a s * (w1 p q b s * W p q l s)
    exact Int.mul_left_comm _ _ _
  | trans _ _ h1 h2 => exact h1.trans h2
theorem W_filter (p q : Int) (s : List Bool) (f : Ed → Bool) : ∀ (E : List Ed), W p q E s = W p q (E.filter f) s * W p q (E.filter fun e => !f e) s
  | [] => rfl
  | e :: E => by
    have ih := W_filter p q s f E
    cases h : f e
    · rw [List.filter_cons_of_neg (by simp [h]), List.filter_cons_of_pos (by simp [h])]
      show w1 p q e s * W p q E s = W p q (E.filter f) s * (w1 p q e s * W p q _ s)
      rw [ih, Int.mul_left_comm]
    · rw [List.filter_cons_of_pos (by simp [h]), List.filter_cons_of_neg (by simp [h])]
      show w1 p q e s * W p q E s = w1 p q e s * W p q (E.filter f) s * W p q _ s
      rw [ih, Int.mul_assoc]
theorem w1_add (p q : Int) (s : List Bool) (a b j k : Nat) : w1 p q (a, b, j + k) s = w1 p q (a, b, j) s * w1 p q (a, b, k) s := by
  unfold w1 differ
  show (if (s.getD a false != s.getD b false) = true then p ^ (j + k) else q ^ (j + k)) = (if (s.getD a false != s.getD b false) = true then p ^ j else q ^ j) * (if (s.getD a false != s.getD b false) = true then p ^ k else q ^ k)
  cases (s.getD a false != s.getD b false)
  · exact Int.pow_add q j k
  · exact Int.pow_add p j k
theorem W_same (p q : Int) (s : List Bool) (a b : Nat) : ∀ (E : List Ed), (∀ e ∈ E, e.1 = a ∧ e.2.1 = b) → W p q E s = w1 p q (a, b, tot E) s
  | [], _ => by
    show (1 : Int) = if differ s (a, b, 0) = true then p ^ 0 else q ^ 0
    rw [Int.pow_zero, Int.pow_zero, ite_self]
  | e :: E, h => by
    obtain ⟨h1, h2⟩ := h e List.mem_cons_self
    show w1 p q e s * W p q E s = w1 p q (a, b, e.2.2 + tot E) s
    rw [W_same p q s a b E fun x hx => h x (List.mem_cons_of_mem _ hx), w1_add, ← h1, ← h2]
/-- the pair's couplings are gathered, and m is added -/
def more (a b m : Nat) (E : List Ed) : List Ed := (E.filter fun e => !(e.1 == a && e.2.1 == b)) ++ [(a, b, m + tot (E.filter fun e => e.1 == a && e.2.1 == b))]
theorem W_more (p q : Int) (s : List Bool) (a b m : Nat) (E : List Ed) : W p q (more a b m E) s = W p q E s * w1 p q (a, b, m) s := by
  unfold more
  rw [W_append, W_filter p q s (fun e => !(e.1 == a && e.2.1 == b)) E]
  show _ * (w1 p q (a, b, _) s * 1) = _
  have e : (E.filter fun e => !!(e.1 == a && e.2.1 == b)) = E.filter fun e => e.1 == a && e.2.1 == b := by
    congr 1
    funext e
    exact Bool.not_not _
  rw [e, W_same p q s a b (E.filter fun e => e.1 == a && e.2.1 == b) fun e he => by
    have h := (List.mem_filter.mp he).2
    simp only [Bool.and_eq_true, beq_iff_eq] at h
    exact h, w1_add, Int.mul_one, Int.mul_assoc, Int.mul_comm (w1 p q (a, b, m) s)]

/-! ### the sums -/
def Ps (p q : Int) (n : Nat) (E : List Ed) (A : List Nat) : Int := S n fun s => mon A s * W p q E s
def fac (p q : Int) (e : Ed) : Fac := ⟨q ^ e.2.2 + p ^ e.2.2, q ^ e.2.2 - p ^ e.2.2, e.1, e.2.1⟩
theorem pow_mono {p q : Int} (h0 : 0 < p) (h1 : p ≤ q) : ∀ j : Nat, 0 < p ^ j ∧ p ^ j ≤ q ^ j
  | 0 => by simp
  | j + 1 => by
    obtain ⟨a, b⟩ := pow_mono h0 h1 j
    rw [Int.pow_succ, Int.pow_succ]
    exact ⟨Int.mul_pos a h0, Int.mul_le_mul b h1 (Int.le_of_lt h0) (Int.le_of_lt (Int.lt_of_lt_of_le a b))⟩
theorem sg_differ (s : List Bool) (e : Ed) : sg s e.1 * sg s e.2.1 = if differ s e = true then -1 else 1 := by
  unfold sg differ
  cases s.getD e.1 false <;> cases s.getD e.2.1 false <;> rfl
theorem fac_val (p q : Int) (e : Ed) (s : List Bool) : (fac p q e).val s = 2 * w1 p q e s := by
  unfold Fac.val fac w1
  show q ^ e.2.2 + p ^ e.2.2 + (q ^ e.2.2 - p ^ e.2.2) * (sg s e.1 * sg s e.2.1) = _
  rw [sg_differ]
  cases differ s e <;> simp <;> omega
theorem G_W (p q : Int) (s : List Bool) : ∀ (E : List Ed), G (E.map (fac p q)) s = 2 ^ E.length * W p q E s
  | [] => rfl
  | e :: E => by
    rw [List.map_cons, G_cons, fac_val, G_W p q s E, List.length_cons, Int.pow_succ]
    show 2 * w1 p q e s * (2 ^ E.length * W p q E s) = 2 ^ E.length * 2 * (w1 p q e s * W p q E s)
    simp only [Int.mul_comm, Int.mul_assoc, Int.mul_left_comm]
theorem w1_pos {p q : Int} (h0 : 0 < p) (h1 : p ≤ q) (e : Ed) (s : List Bool) : 0 < w1 p q e s := by
  unfold w1
  obtain ⟨a, b⟩ := pow_mono h0 h1 e.2.2
  cases differ s e <;> simp <;> omega
theorem W_pos {p q : Int} (h0 : 0 < p) (h1 : p ≤ q) (s : List Bool) : ∀ (E : List Ed), 0 < W p q E s
  | [] => Int.zero_lt_one
  | e :: E => Int.mul_pos (w1_pos h0 h1 e s) (W_pos h0 h1 s E)
theorem fac_ok {p q : Int} (h0 : 0 < p) (h1 : p ≤ q) {n : Nat} {e : Ed} (hu : e.1 < n) (hv : e.2.1 < n) : FacOk n (fac p q e) ∧ (fac p q e).b ≤ (fac p q e).a := by
  obtain ⟨a, b⟩ := pow_mono h0 h1 e.2.2
  refine ⟨⟨?_, ?_, hu, hv⟩, ?_⟩
  · show 0 ≤ q ^ e.2.2 + p ^ e.2.2
    omega
  · show 0 ≤ q ^ e.2.2 - p ^ e.2.2
    omega
  · show q ^ e.2.2 - p ^ e.2.2 ≤ q ^ e.2.2 + p ^ e.2.2
    omega
def In (n : Nat) (E : List Ed) : Prop := ∀ e ∈ E, e.1 < n ∧ e.2.1 < n
section
variable {p q : Int} {n : Nat} {E : List Ed}
theorem facs_ok (h0 : 0 < p) (h1 : p ≤ q) (hE : In n E) : (∀ e ∈ E.map (fac p q), FacOk n e) ∧ ∀ e ∈ E.map (fac p q), e.b ≤ e.a := by
  refine ⟨fun e he => ?_, fun e he => ?_⟩
  all_goals
    obtain ⟨d, hd, rfl⟩ := List.mem_map.mp he
    obtain ⟨a, b⟩ := fac_ok h0 h1 (hE d hd).1 (hE d hd).2
    first | exact a | exact b
theorem two_pow_pos (k : Nat) : (0 : Int) < 2 ^ k := Int.pow_pos (by decide)
theorem S_GW (A : List Nat) : S n (fun s => mon A s * G (E.map (fac p q)) s) = 2 ^ E.length * Ps p q n E A := by
  unfold Ps
  rw [← S_mul]
  refine S_congr fun s _ => ?_
  rw [G_W, Int.mul_left_comm]
theorem P_nonneg (h0 : 0 < p) (h1 : p ≤ q) (hE : In n E) {A : List Nat} (hA : ∀ i ∈ A, i < n) : 0 ≤ Ps p q n E A := by
  have z := gks1 (E.map (fac p q)) A (facs_ok h0 h1 hE).1 hA
  rw [S_GW] at z
  refine Int.not_lt.mp fun h => ?_
  have := Int.mul_neg_of_pos_of_neg (two_pow_pos E.length) h
  omega
theorem P_gks (h0 : 0 < p) (h1 : p ≤ q) (hE : In n E) {A B : List Nat} (hA : ∀ i ∈ A, i < n) (hB : ∀ i ∈ B, i < n) :
    Ps p q n E A * Ps p q n E B ≤ Ps p q n E (A ++ B) * Ps p q n E [] := by
  have z := gks2 (E.map (fac p q)) A B (facs_ok h0 h1 hE).1 (facs_ok h0 h1 hE).2 hA hB
  have e : S n (G (E.map (fac p q))) = S n (fun s => mon [] s * G (E.map (fac p q)) s) := S_congr fun s _ => (Int.one_mul _).symm
  rw [e, S_GW, S_GW, S_GW, S_GW] at z
  have c : ∀ a b : Int, 2 ^ E.length * a * (2 ^ E.length * b) = (2 ^ E.length * 2 ^ E.length) * (a * b) := fun a b => by
    simp only [Int.mul_comm, Int.mul_assoc, Int.mul_left_comm]
  rw [c, c] at z
  exact Int.le_of_mul_le_mul_left z (Int.mul_pos (two_pow_pos _) (two_pow_pos _))
theorem P_le (h0 : 0 < p) (h1 : p ≤ q) (A : List Nat) : Ps p q n E A ≤ Ps p q n E [] := by
  refine S_le fun s _ => ?_
  have w := W_pos h0 h1 s E
  rw [mon_nil]
  rcases mon_cases A s with k | k <;> rw [k] <;> omega
theorem P_pos (h0 : 0 < p) (h1 : p ≤ q) : 0 < Ps p q n E [] := S_pos fun s _ => by
  rw [mon_nil, Int.one_mul]
  exact W_pos h0 h1 s E
theorem P_self (u : Nat) : Ps p q n E [u, u] = Ps p q n E [] := S_congr fun s _ => by
  have e : mon [u, u] s = mon [] s := by
    show sg s u * (sg s u * 1) = 1
    rw [Int.mul_one, sg_sq]
  rw [e]
/-- one coupling more: no correlation becomes less -/
theorem P_more (h0 : 0 < p) (h1 : p ≤ q) (hE : In n E) {a b m : Nat} (ha : a < n) (hb : b < n) {F : List Ed} (hF : ∀ s, W p q F s = W p q E s * w1 p q (a, b, m) s) {A : List Nat} (hA : ∀ i ∈ A, i < n) :
    Ps p q n E A * Ps p q n F [] ≤ Ps p q n F A * Ps p q n E [] := by
  obtain ⟨x0, x1⟩ := pow_mono h0 h1 m
  have k : ∀ B, 2 * Ps p q n F B = (q ^ m + p ^ m) * Ps p q n E B + (q ^ m - p ^ m) * Ps p q n E (B ++ [a, b]) := fun B => by
    unfold Ps
    rw [← S_mul, ← S_mul, ← S_mul, ← S_add]
    refine S_congr fun s _ => ?_
    have v := fac_val p q (a, b, m) s
    unfold Fac.val fac at v
    rw [hF, mon_append, show mon [a, b] s = sg s a * sg s b by
      show sg s a * (sg s b * 1) = _
      rw [Int.mul_one]]
    have v' : q ^ m + p ^ m + (q ^ m - p ^ m) * (sg s a * sg s b) = 2 * w1 p q (a, b, m) s := v
    have e : 2 * (mon B s * (W p q E s * w1 p q (a, b, m) s)) = (2 * w1 p q (a, b, m) s) * (mon B s * W p q E s) := by
      simp only [Int.mul_comm, Int.mul_assoc, Int.mul_left_comm]
    rw [e, ← v', Int.add_mul]
    congr 1
    simp only [Int.mul_comm, Int.mul_assoc, Int.mul_left_comm]
  have g := P_gks h0 h1 hE hA (B := [a, b]) (fun i hi => by
    rcases List.mem_cons.mp hi with h | h
    · rw [h]; exact ha
    · rw [List.mem_singleton.mp h]; exact hb)
  have k1 := k A
  have k2 := k []
  rw [List.nil_append] at k2
  have d0 : 0 ≤ q ^ m - p ^ m := by omega
  have g' := Int.mul_le_mul_of_nonneg_left g d0
  have z1 : 2 * (Ps p q n F A * Ps p q n E []) = (q ^ m + p ^ m) * Ps p q n E A * Ps p q n E [] + (q ^ m - p ^ m) * (Ps p q n E (A ++ [a, b]) * Ps p q n E []) := by
    rw [← Int.mul_assoc, k1, Int.add_mul, Int.mul_assoc (q ^ m - p ^ m)]
  have z2 : 2 * (Ps p q n E A * Ps p q n F []) = (q ^ m + p ^ m) * Ps p q n E A * Ps p q n E [] + (q ^ m - p ^ m) * (Ps p q n E A * Ps p q n E [a, b]) := by
    rw [Int.mul_left_comm, k2, Int.mul_add]
    congr 1 <;> simp only [Int.mul_comm, Int.mul_assoc, Int.mul_left_comm]
  omega
end
end K42
namespace K42
/-! ### sums of terms -/
abbrev Ex := Int × Int
def lk : List (Ex × Int) → Ex → Int
  | [], _ => 0
  | e :: m, k => if e.1 = k then e.2 else lk m k
def hs : List (Ex × Int) → Ex → Bool
  | [], _ => false
  | e :: m, k => decide (e.1 = k) || hs m k
def put (m : List (Ex × Int)) (k : Ex) (z : Int) : List (Ex × Int) := if hs m k = true then m.map (fun e => if e.1 = k then (e.1, z) else e) else m ++ [(k, z)]
def ev (f : Ex → Int) : List (Ex × Int) → Int
  | [] => 0
  | e :: m => e.2 * f e.1 + ev f m
theorem ev_append (f : Ex → Int) : ∀ a b : List (Ex × Int), ev f (a ++ b) = ev f a + ev f b
  | [], b => (Int.zero_add _).symm
  | e :: a, b => by
    show e.2 * f e.1 + ev f (a ++ b) = e.2 * f e.1 + ev f a + ev f b
    rw [ev_append f a b, Int.add_assoc]
theorem ev_perm (f : Ex → Int) {a b : List (Ex × Int)} (h : a.Perm b) : ev f a = ev f b := by
  induction h with
  | nil => rfl
  | cons e _ ih => exact congrArg (e.2 * f e.1 + ·) ih
  | swap x y l =>
    show y.2 * f y.1 + (x.2 * f x.1 + ev f l) = x.2 * f x.1 + (y.2 * f y.1 + ev f l)
    omega
  | trans _ _ h1 h2 => exact h1.trans h2
theorem ev_filter (f : Ex → Int) : ∀ a : List (Ex × Int), ev f (a.filter fun e => decide (e.2 ≠ 0)) = ev f a
  | [] => rfl
  | e :: a => by
    by_cases h : e.2 = 0
    · rw [List.filter_cons_of_neg (by simp [h]), ev_filter f a]
      show ev f a = e.2 * f e.1 + ev f a
      rw [h, Int.zero_mul, Int.zero_add]
    · rw [List.filter_cons_of_pos (by simp [h])]
      show e.2 * f e.1 + ev f _ = e.2 * f e.1 + ev f a
      rw [ev_filter f a]
theorem hs_iff : ∀ (m : List (Ex × Int)) (k : Ex), hs m k = true ↔ k ∈ m.map (·.1)
  | [], k => by simp [hs]
  | e :: m, k => by
    unfold hs
    rw [Bool.or_eq_true, decide_eq_true_eq, hs_iff m k, List.map_cons, List.mem_cons]
    constructor
    · rintro (h | h)
      · exact .inl h.symm
      · exact .inr h
    · rintro (h | h)
      · exact .inl h.symm
      · exact .inr h
theorem lk_out : ∀ {m : List (Ex × Int)} {k : Ex}, k ∉ m.map (·.1) → lk m k = 0
  | [], k, _ => rfl
  | e :: m, k, h => by
    rw [List.map_cons, List.mem_cons, not_or] at h
    unfold lk
    rw [if_neg (fun z => h.1 z.symm), lk_out h.2]
theorem map_out {k : Ex} {z : Int} : ∀ {m : List (Ex × Int)}, k ∉ m.map (·.1) → m.map (fun e => if e.1 = k then (e.1, z) else e) = m
  | [], _ => rfl
  | e :: m, h => by
    rw [List.map_cons, List.mem_cons, not_or] at h
    rw [List.map_cons, if_neg (fun z => h.1 z.symm), map_out h.2]
theorem ev_put (f : Ex → Int) : ∀ {m : List (Ex × Int)} {k : Ex} {c : Int}, (m.map (·.1)).Nodup → ev f (put m k (lk m k + c)) = ev f m + c * f k := by
  intro m k c hn
  unfold put
  by_cases h : hs m k = true
  · rw [if_pos h]
    induction m with
    | nil => simp [hs] at h
    | cons e m ih =>
      rw [List.map_cons, List.nodup_cons] at hn
      by_cases he : e.1 = k
      · subst he
        rw [List.map_cons, map_out hn.1]
        unfold lk
        rw [if_pos rfl, if_pos rfl]
        show (e.2 + c) * f e.1 + ev f m = e.2 * f e.1 + ev f m + c * f e.1
        rw [Int.add_mul]
        omega
      · have h2 : hs m k = true := by
          unfold hs at h
          rw [decide_eq_false he, Bool.false_or] at h
          exact h
        rw [List.map_cons, if_neg he]
        unfold lk
        rw [if_neg he]
        show e.2 * f e.1 + ev f _ = e.2 * f e.1 + ev f m + c * f k
        rw [ih hn.2 h2]
        omega
  · rw [if_neg h, ev_append, lk_out (fun z => h ((hs_iff m k).mpr z))]
    show ev f m + ((0 + c) * f k + 0) = ev f m + c * f k
    rw [Int.zero_add, Int.add_zero]
theorem keys_put {m : List (Ex × Int)} {k : Ex} {z : Int} : (put m k z).map (·.1) = if hs m k = true then m.map (·.1) else m.map (·.1) ++ [k] := by
  unfold put
  by_cases h : hs m k = true
  · rw [if_pos h, if_pos h, List.map_map]
    refine List.map_congr_left fun e _ => ?_
    show (if e.1 = k then (e.1, z) else e).1 = e.1
    by_cases he : e.1 = k
    · rw [if_pos he]
    · rw [if_neg he]
  · rw [if_neg h, if_neg h, List.map_append]
    rfl
theorem nodup_put {m : List (Ex × Int)} {k : Ex} {z : Int} (hn : (m.map (·.1)).Nodup) : ((put m k z).map (·.1)).Nodup := by
  rw [keys_put]
  by_cases h : hs m k = true
  · rw [if_pos h]
    exact hn
  · rw [if_neg h, List.nodup_append]
    refine ⟨hn, by simp, fun a ha b hb => ?_⟩
    rw [List.mem_singleton.mp hb]
    intro e
    subst e
    exact h ((hs_iff m a).mpr ha)
theorem mem_put {m : List (Ex × Int)} {k j : Ex} {z : Int} (h : j ∈ (put m k z).map (·.1)) : j ∈ m.map (·.1) ∨ j = k := by
  rw [keys_put] at h
  by_cases hk : hs m k = true
  · rw [if_pos hk] at h
    exact .inl h
  · rw [if_neg hk] at h
    rcases List.mem_append.mp h with h | h
    · exact .inl h
    · exact .inr (List.mem_singleton.mp h)
theorem len_put {m : List (Ex × Int)} {k : Ex} {z : Int} : (put m k z).length ≤ m.length + 1 := by
  have h := congrArg List.length (keys_put (m := m) (k := k) (z := z))
  rw [List.length_map] at h
  rw [h]
  by_cases hk : hs m k = true
  · rw [if_pos hk, List.length_map]
    omega
  · rw [if_neg hk, List.length_append, List.length_map]
    exact Nat.le_refl _
/-- what a list of terms gathers to -/
def gat (ts : List (Ex × Int)) (m : List (Ex × Int)) : List (Ex × Int) := ts.foldl (fun m t => put m t.1 (lk m t.1 + t.2)) m
theorem gat_ok : ∀ (ts m : List (Ex × Int)), (m.map (·.1)).Nodup → ((gat ts m).map (·.1)).Nodup ∧ (∀ f, ev f (gat ts m) = ev f m + ev f ts) ∧ (∀ j ∈ (gat ts m).map (·.1), j ∈ m.map (·.1) ∨ j ∈ ts.map (·.1)) ∧ (gat ts m).length ≤ m.length + ts.length
  | [], m, hn => ⟨hn, fun f => (Int.add_zero _).symm, fun j hj => .inl hj, Nat.le_refl _⟩
  | t :: ts, m, hn => by
    obtain ⟨i1, i2, i3, i4⟩ := gat_ok ts (put m t.1 (lk m t.1 + t.2)) (nodup_put hn)
    refine ⟨i1, fun f => ?_, fun j hj => ?_, ?_⟩
    · have e := i2 f
      rw [ev_put f hn] at e
      show ev f (gat ts (put m t.1 (lk m t.1 + t.2))) = ev f m + (t.2 * f t.1 + ev f ts)
      rw [e, Int.add_assoc]
    · rcases i3 j hj with h | h
      · rcases mem_put h with h | h
        · exact .inl h
        · exact .inr (by rw [h]; exact List.mem_cons_self)
      · exact .inr (List.mem_cons_of_mem _ h)
    · have l := len_put (m := m) (k := t.1) (z := lk m t.1 + t.2)
      rw [List.length_cons]
      show (gat ts (put m t.1 (lk m t.1 + t.2))).length ≤ _
      omega
theorem lk_mem : ∀ {m : List (Ex × Int)} {e : Ex × Int}, (m.map (·.1)).Nodup → e ∈ m → lk m e.1 = e.2
  | x :: m, e, hn, h => by
    rw [List.map_cons, List.nodup_cons] at hn
    unfold lk
    rcases List.mem_cons.mp h with h | h
    · subst h
      rw [if_pos rfl]
    · by_cases he : x.1 = e.1
      · exact absurd (List.mem_map.mpr ⟨e, h, he.symm⟩) hn.1
      · rw [if_neg he]
        exact lk_mem hn.2 h
  | [], e, _, h => absurd h (by simp)
theorem keys_lk {m : List (Ex × Int)} (hn : (m.map (·.1)).Nodup) : (m.map (·.1)).map (fun k => (k, lk m k)) = m := by
  rw [List.map_map]
  have e : m.map ((fun k => (k, lk m k)) ∘ fun x => x.1) = m.map id := List.map_congr_left fun e he => by
    show (e.1, lk m e.1) = e
    rw [lk_mem hn he]
  rw [e, List.map_id]
/-! ### how great a coefficient is -/
def ind (k : Ex) (j : Ex) : Int := if j = k then 1 else 0
theorem ev_ind_out {k : Ex} : ∀ {p : List (Ex × Int)}, k ∉ p.map (·.1) → ev (ind k) p = 0
  | [], _ => rfl
  | e :: p, h => by
    rw [List.map_cons, List.mem_cons, not_or] at h
    show e.2 * ind k e.1 + ev (ind k) p = 0
    rw [ev_ind_out h.2]
    unfold ind
    rw [if_neg (fun z => h.1 z.symm), Int.mul_zero, Int.add_zero]
theorem ev_ind : ∀ {p : List (Ex × Int)} {e : Ex × Int}, (p.map (·.1)).Nodup → e ∈ p → ev (ind e.1) p = e.2
  | x :: p, e, hn, h => by
    rw [List.map_cons, List.nodup_cons] at hn
    show x.2 * ind e.1 x.1 + ev (ind e.1) p = e.2
    rcases List.mem_cons.mp h with h | h
    · subst h
      rw [ev_ind_out hn.1]
      unfold ind
      rw [if_pos rfl, Int.mul_one, Int.add_zero]
    · rw [ev_ind hn.2 h]
      unfold ind
      rw [if_neg (fun he => hn.1 (List.mem_map.mpr ⟨e, h, he.symm⟩)), Int.mul_zero, Int.zero_add]
  | [], e, _, h => absurd h (by simp)
theorem ev_ind_le (k : Ex) : ∀ {ts : List (Ex × Int)}, (∀ t ∈ ts, t.2.natAbs ≤ 1) → (ev (ind k) ts).natAbs ≤ ts.length
  | [], _ => Nat.le_refl _
  | t :: ts, h => by
    have ih := ev_ind_le k (ts := ts) fun x hx => h x (List.mem_cons_of_mem _ hx)
    have h1 := h t List.mem_cons_self
    show (t.2 * ind k t.1 + ev (ind k) ts).natAbs ≤ ts.length + 1
    have e : ind k t.1 = 1 ∨ ind k t.1 = 0 := by
      unfold ind
      by_cases he : t.1 = k
      · exact .inl (if_pos he)
      · exact .inr (if_neg he)
    rcases e with e | e <;> rw [e]
    · rw [Int.mul_one]
      omega
    · rw [Int.mul_zero]
      omega
/-- a polynomial made of terms of size one -/
structure PolyOf (p ts : List (Ex × Int)) : Prop where
  val : ∀ f, ev f p = ev f ts
  keys : ∀ e ∈ p, e.1 ∈ ts.map (·.1)
  small : (∀ t ∈ ts, t.2.natAbs ≤ 1) → ∀ e ∈ p, e.2.natAbs ≤ ts.length
  len : p.length ≤ ts.length
theorem poly_of {p ts : List (Ex × Int)} (h : p.Perm ((gat ts []).filter fun e => decide (e.2 ≠ 0))) : PolyOf p ts := by
  obtain ⟨g1, g2, g3, g4⟩ := gat_ok ts [] (by simp)
  have hsub : ∀ e ∈ p, e ∈ gat ts [] := fun e he => (List.mem_filter.mp (h.mem_iff.mp he)).1
  have hval : ∀ f, ev f p = ev f ts := fun f => by
    rw [ev_perm f h, ev_filter, g2]
    exact Int.zero_add _
  refine ⟨hval, fun e he => ?_, fun ht e he => ?_, ?_⟩
  · rcases g3 e.1 (List.mem_map.mpr ⟨e, hsub e he, rfl⟩) with z | z
    · simp at z
    · exact z
  · have e1 := ev_ind g1 (hsub e he)
    rw [g2] at e1
    have e2 : ev (ind e.1) [] = 0 := rfl
    rw [e2, Int.zero_add] at e1
    rw [← e1]
    exact ev_ind_le e.1 ht
  · rw [h.length_eq]
    refine Nat.le_trans (List.length_filter_le _ _) ?_
    rw [List.length_nil, Nat.zero_add] at g4
    exact g4

/-! ### the states, one after the other -/
def sts : Nat → List (List Bool)
  | 0 => [[]]
  | n + 1 => (sts n).flatMap fun s => [s ++ [false], s ++ [true]]
theorem sts_len : ∀ {n : Nat} {s : List Bool}, s ∈ sts n → s.length = n
  | 0, s, h => by
    have e : s = [] := List.mem_singleton.mp h
    rw [e]
    rfl
  | n + 1, s, h => by
    obtain ⟨t, ht, hs⟩ := List.mem_flatMap.mp h
    have l := sts_len ht
    rcases List.mem_cons.mp hs with e | e
    · rw [e, List.length_append, l]
      rfl
    · rw [List.mem_singleton.mp e, List.length_append, l]
      rfl
theorem sts_count : ∀ n : Nat, (sts n).length = 2 ^ n
  | 0 => rfl
  | n + 1 => by
    show ((sts n).flatMap fun s => [s ++ [false], s ++ [true]]).length = _
    rw [List.length_flatMap]
    have e : (sts n).map (fun s => [s ++ [false], s ++ [true]].length) = (sts n).map fun _ => 2 := rfl
    rw [e, List.map_const', List.sum_replicate_nat, sts_count n, Nat.pow_succ]
theorem sum_flat (f : List Bool → Int) : ∀ l : List (List Bool), ((l.flatMap fun s => [s ++ [false], s ++ [true]]).map f).sum = (l.map fun s => f (s ++ [false]) + f (s ++ [true])).sum
  | [] => rfl
  | s :: l => by
    rw [List.flatMap_cons, List.map_append, List.sum_append_int, sum_flat f l]
    show (f (s ++ [false]) + (f (s ++ [true]) + 0)) + _ = (f (s ++ [false]) + f (s ++ [true])) + (l.map fun s => f (s ++ [false]) + f (s ++ [true])).sum
    rw [Int.add_zero]
theorem S_sum : ∀ (n : Nat) (f : List Bool → Int), S n f = ((sts n).map f).sum
  | 0, f => by
    show f [] = f [] + 0
    rw [Int.add_zero]
  | n + 1, f => by
    show S n (fun s => f (s ++ [false]) + f (s ++ [true])) = _
    rw [S_sum n]
    show _ = (((sts n).flatMap fun s => [s ++ [false], s ++ [true]]).map f).sum
    rw [sum_flat]
theorem ev_map {α : Type} (f : Ex → Int) (g : α → Ex × Int) : ∀ l : List α, ev f (l.map g) = (l.map fun a => (g a).2 * f (g a).1).sum
  | [] => rfl
  | a :: l => by
    rw [List.map_cons, List.map_cons, List.sum_cons, ← ev_map f g l]
    rfl
end K42
namespace K42
open PySem L2
/-! ### the text by places -/
def top (i : Nat) : Stmt := PySem.Challenge.pw_spinfield_k42_whole_correlations.main.body.getD i (.Pass ⟨0, 0, 0, 0⟩)
abbrev sFraction : Stmt := top 8
abbrev sAdd : Stmt := top 9
abbrev sMultiply : Stmt := top 10
abbrev sDivide : Stmt := top 11
abbrev sRaised : Stmt := top 12
abbrev sGathered : Stmt := top 14
abbrev sPolynomial : Stmt := top 15
abbrev sValue : Stmt := top 16
abbrev sInit : Stmt := inClass (top 21) 0
abbrev sStatesOf : Stmt := top 22
abbrev sAllStates : Stmt := top 23
abbrev sCost : Stmt := top 24
abbrev sUps : Stmt := top 25
abbrev sSumByStates : Stmt := top 26
abbrev sCheckPoint : Stmt := top 28
abbrev sSign : Stmt := top 29
abbrev sPairSum : Stmt := top 30
abbrev sCorrelation : Stmt := top 31
abbrev sCell : Stmt := top 33
abbrev sMix : Stmt := top 34
abbrev sRow : Stmt := top 35
abbrev sTuples : Stmt := top 36
abbrev sGcd : Stmt := top 37
abbrev sFrac : Stmt := top 38
abbrev sLess : Stmt := top 41
abbrev sSpins : Stmt := top 43
abbrev sAllPairs : Stmt := top 44
abbrev sLaw : Stmt := top 45

/-! ### heaps -/
theorem same_new {H : Hp} {p : Addr} {o : HO} (h : H p = none) : Same H (upd H p o) := fun b x e => by
  rw [upd_ne (ne_of_none e h)]
  exact e
/-- a store to what was not there at the start -/
theorem same_own {H0 H : Hp} {p : Addr} {o : HO} (s : Same H0 H) (h : H0 p = none) : Same H0 (upd H p o) := fun b x e => by
  rw [upd_ne (ne_of_none e h)]
  exact s b x e
theorem same_tup {K : PySem.W.Frag} {H H' : Hp} {a : Addr} {xs : List V} (e : Same H H') (h : SqT K H a xs) : SqT K H' a xs := by
  rcases h with (h | ⟨o, h⟩) | h
  · exact .inl (.inl (e _ _ h))
  · exact .inl (.inr ⟨o, e _ _ h⟩)
  · exact .inr h
end K42
namespace K42
open PySem L2
section
variable {P : Program} {w : World} {K : PySem.W.Frag} {mg : Str → Option Value} {base : Heap}
/-! ### fraction -/
def cF (n d : Int) : Int := ((Nat.gcd n.natAbs d.natAbs : Nat) : Int)
def frN (n d : Int) : Int := n / cF n d
def frD (n d : Int) : Int := d / cF n d
theorem cF_pos {n d : Int} (h : 0 < d) : 0 < cF n d := by
  have : 0 < Nat.gcd n.natAbs d.natAbs := Nat.gcd_pos_of_pos_right _ (by omega)
  unfold cF
  omega
theorem cF_le {n d : Int} (h : 0 < d) : (cF n d).natAbs ≤ d.natAbs := by
  unfold cF
  rw [Int.natAbs_natCast]
  exact Nat.gcd_le_right _ (by omega)
/-- a new pair of two ints -/
def spFraction : Sp := fun vs H Q _ => ∃ n d : Int, vs = [.int n, .int d] ∧ 0 < d ∧ d.natAbs < 2 ^ 8000 ∧ ∀ p H', Same H H' → H p = none → H' p = some (.tup [.int (frN n d), .int (frD n d)]) → Q (.ref p) H'
theorem scFraction : FnScope ["numerator", "denominator", "common"] ["numerator", "denominator"] (defScope sFraction) := ⟨rfl, rfl, rfl, by decide +kernel, rfl, by decide +kernel, by decide +kernel⟩
theorem ok_fraction {f : Addr} {fd : FuncData} (F : Fun K "fraction" "fraction" sFraction f fd) (mG : mg "gcd" = some (.builtin "math.gcd")) : FnOk P w K mg base CX0 1 f fd ["numerator", "denominator"] spFraction := by
  refine F.ok scFraction (fun vs H Q E h => ?_) (fun cdv A outer s H vs Q E hr h => ?_)
  · obtain ⟨n, d, rfl, _⟩ := h
    rfl
  · obtain ⟨n, d, rfl, hd, hb, q⟩ := h
    refine ⟨_, pss_cons (ps_set (i := 2) scFraction.nd rfl (.inl rfl) (pe_callBfun cr_gcd (by rfl) mG (pa_cons (pv 0) (pa_cons (pv 1) pa_nil))))
      (pss_cons (ps_if (pt_cmpR op_lt (pv 1) pe_int (nomark _)) (pss_one (ps_set (i := 2) scFraction.nd rfl (.inl rfl) (pe_un un_neg (pv 2)))) pss_nil)
      (pss_one (ps_ret (pe_tup (pa_cons (pe_op op_fdivW (pv 0) (pv 2)) (pa_cons (pe_op op_fdivW (pv 1) (pv 2)) pa_nil)))))), ?_⟩
    refine ⟨_, rfl, _, rfl, n, d, rfl, ?_⟩
    refine ⟨_, rfl, d, 0, rfl, rfl, _, rfl, ?_⟩
    rw [decide_eq_false (show ¬ d < 0 by omega)]
    refine iteF ?_
    have hw : ∀ i, CDivW i (cF n d) := fun i => wide_div (cF_pos hd) (Nat.lt_of_le_of_lt (cF_le hd) hb) (by decide) (by decide)
    refine ⟨_, rfl, _, rfl, n, cF n d, rfl, rfl, hw n, ?_⟩
    refine ⟨_, rfl, _, rfl, d, cF n d, rfl, rfl, hw d, ?_⟩
    refine ⟨by show 2 ≤ sizeLine; decide, fun p hp => ?_⟩
    exact q p _ (same_new hp) hp upd_same

/-! ### add, multiply, divide -/
/-- a fraction stands there -/
def FrAt (K : PySem.W.Frag) (H : Hp) (v : V) (n d : Int) : Prop := ∃ a, v = .ref a ∧ SqT K H a [.int n, .int d]
theorem FrAt.keep {H H' : Hp} {v : V} {n d : Int} (s : Same H H') (h : FrAt K H v n d) : FrAt K H' v n d := by
  obtain ⟨a, e, h⟩ := h
  exact ⟨a, e, same_tup s h⟩
theorem at0 {n d : Int} : atI [V.int n, V.int d] 0 = some (.int n) := atI_nat (j := 0) rfl
theorem at1 {n d : Int} : atI [V.int n, V.int d] 1 = some (.int d) := atI_nat (j := 1) rfl
/-- numbers of at most 2000 bits -/
def Sm (n : Int) : Prop := n.natAbs < 2 ^ 2000
theorem Sm.mul {a b : Int} (ha : Sm a) (hb : Sm b) : CMulW a b := wide_mul ha hb (by decide) (by decide) (by decide)
theorem Sm.lt {a b : Int} (ha : Sm a) (hb : Sm b) : (a * b).natAbs < 2 ^ 8000 := Nat.lt_of_lt_of_le (wide_lt ha hb) (Nat.pow_le_pow_right (n := 2) (by decide) (show 2000 + 2000 ≤ 8000 by decide))
def spAdd (K : PySem.W.Frag) : Sp := fun vs H Q _ => ∃ (u v : V) (a b c d : Int), vs = [u, v] ∧ FrAt K H u a b ∧ FrAt K H v c d ∧ Sm a ∧ Sm b ∧ Sm c ∧ Sm d ∧ 0 < b ∧ 0 < d ∧
  ∀ p H', Same H H' → H p = none → H' p = some (.tup [.int (frN (a * d + c * b) (b * d)), .int (frD (a * d + c * b) (b * d))]) → Q (.ref p) H'
def spMultiply (K : PySem.W.Frag) : Sp := fun vs H Q _ => ∃ (u v : V) (a b c d : Int), vs = [u, v] ∧ FrAt K H u a b ∧ FrAt K H v c d ∧ Sm a ∧ Sm b ∧ Sm c ∧ Sm d ∧ 0 < b ∧ 0 < d ∧
  ∀ p H', Same H H' → H p = none → H' p = some (.tup [.int (frN (a * c) (b * d)), .int (frD (a * c) (b * d))]) → Q (.ref p) H'
def spDivide (K : PySem.W.Frag) : Sp := fun vs H Q _ => ∃ (u v : V) (a b c d : Int), vs = [u, v] ∧ FrAt K H u a b ∧ FrAt K H v c d ∧ Sm a ∧ Sm b ∧ Sm c ∧ Sm d ∧ 0 < b ∧ 0 < c ∧
  ∀ p H', Same H H' → H p = none → H' p = some (.tup [.int (frN (a * d) (b * c)), .int (frD (a * d) (b * c))]) → Q (.ref p) H'
theorem scAdd : FnScope ["a", "b"] ["a", "b"] (defScope sAdd) := ⟨rfl, rfl, rfl, by decide +kernel, rfl, by decide +kernel, by decide +kernel⟩
theorem scMultiply : FnScope ["a", "b"] ["a", "b"] (defScope sMultiply) := ⟨rfl, rfl, rfl, by decide +kernel, rfl, by decide +kernel, by decide +kernel⟩
theorem scDivide : FnScope ["a", "b"] ["a", "b"] (defScope sDivide) := ⟨rfl, rfl, rfl, by decide +kernel, rfl, by decide +kernel, by decide +kernel⟩
/-- a def of the text, bound to its name -/
structure Dn (P : Program) (w : World) (K : PySem.W.Frag) (mg : Str → Option Value) (base : Heap) (x : Str) (k : Nat) (ps : List Str) (sp : Sp) (f : Addr) (fd : FuncData) : Prop where
  ok : FnOk P w K mg base CX0 k f fd ps sp
  mg : mg x = some (.ref f)
  kp : PySem.W.keepIn K (.ref f) = true
  bi : Binds K fd ps []
theorem ok_add {f g : Addr} {fd gd : FuncData} (F : Fun K "add" "add" sAdd f fd) (D : Dn P w K mg base "fraction" 1 ["numerator", "denominator"] spFraction g gd) : FnOk P w K mg base CX0 2 f fd ["a", "b"] (spAdd K) := by
  refine F.ok scAdd (fun vs H Q E h => ?_) (fun cdv A outer s H vs Q E hr h => ?_)
  · obtain ⟨u, v, a, b, c, d, rfl, _⟩ := h
    rfl
  · obtain ⟨u, v, a, b, c, d, rfl, ⟨l, rfl, hl⟩, ⟨m, rfl, hm⟩, sa, sb, sc, sd, b0, d0, q⟩ := h
    refine ⟨_, pss_one (ps_ret (pe_call D.ok hr (by rfl) D.mg D.kp D.bi .nil pass0 (pa_cons (pe_op op_add
        (pe_op op_mulW (pe_ix ix_tup (pv 0) pe_int (fun _ _ => rfl)) (pe_ix ix_tup (pv 1) pe_int (fun _ _ => rfl)))
        (pe_op op_mulW (pe_ix ix_tup (pv 1) pe_int (fun _ _ => rfl)) (pe_ix ix_tup (pv 0) pe_int (fun _ _ => rfl))))
      (pa_cons (pe_op op_mulW (pe_ix ix_tup (pv 0) pe_int (fun _ _ => rfl)) (pe_ix ix_tup (pv 1) pe_int (fun _ _ => rfl))) pa_nil)))), ?_⟩
    refine ⟨_, rfl, l, _, _, _, rfl, rfl, hl, at0, _, rfl, m, _, _, _, rfl, rfl, hm, at1, a, d, rfl, rfl, sa.mul sd, ?_⟩
    refine ⟨_, rfl, m, _, _, _, rfl, rfl, hm, at0, _, rfl, l, _, _, _, rfl, rfl, hl, at1, c, b, rfl, rfl, sc.mul sb, _, _, rfl, rfl, ?_⟩
    refine ⟨_, rfl, l, _, _, _, rfl, rfl, hl, at1, _, rfl, m, _, _, _, rfl, rfl, hm, at1, b, d, rfl, rfl, sb.mul sd, ?_⟩
    exact ⟨_, _, rfl, Int.mul_pos b0 d0, sb.lt sd, q⟩
theorem ok_multiply {f g : Addr} {fd gd : FuncData} (F : Fun K "multiply" "multiply" sMultiply f fd) (D : Dn P w K mg base "fraction" 1 ["numerator", "denominator"] spFraction g gd) : FnOk P w K mg base CX0 2 f fd ["a", "b"] (spMultiply K) := by
  refine F.ok scMultiply (fun vs H Q E h => ?_) (fun cdv A outer s H vs Q E hr h => ?_)
  · obtain ⟨u, v, a, b, c, d, rfl, _⟩ := h
    rfl
  · obtain ⟨u, v, a, b, c, d, rfl, ⟨l, rfl, hl⟩, ⟨m, rfl, hm⟩, sa, sb, sc, sd, b0, d0, q⟩ := h
    refine ⟨_, pss_one (ps_ret (pe_call D.ok hr (by rfl) D.mg D.kp D.bi .nil pass0 (pa_cons
        (pe_op op_mulW (pe_ix ix_tup (pv 0) pe_int (fun _ _ => rfl)) (pe_ix ix_tup (pv 1) pe_int (fun _ _ => rfl)))
      (pa_cons (pe_op op_mulW (pe_ix ix_tup (pv 0) pe_int (fun _ _ => rfl)) (pe_ix ix_tup (pv 1) pe_int (fun _ _ => rfl))) pa_nil)))), ?_⟩
    refine ⟨_, rfl, l, _, _, _, rfl, rfl, hl, at0, _, rfl, m, _, _, _, rfl, rfl, hm, at0, a, c, rfl, rfl, sa.mul sc, ?_⟩
    refine ⟨_, rfl, l, _, _, _, rfl, rfl, hl, at1, _, rfl, m, _, _, _, rfl, rfl, hm, at1, b, d, rfl, rfl, sb.mul sd, ?_⟩
    exact ⟨_, _, rfl, Int.mul_pos b0 d0, sb.lt sd, q⟩
theorem ok_divide {f g : Addr} {fd gd : FuncData} (F : Fun K "divide" "divide" sDivide f fd) (D : Dn P w K mg base "fraction" 1 ["numerator", "denominator"] spFraction g gd) : FnOk P w K mg base CX0 2 f fd ["a", "b"] (spDivide K) := by
  refine F.ok scDivide (fun vs H Q E h => ?_) (fun cdv A outer s H vs Q E hr h => ?_)
  · obtain ⟨u, v, a, b, c, d, rfl, _⟩ := h
    rfl
  · obtain ⟨u, v, a, b, c, d, rfl, ⟨l, rfl, hl⟩, ⟨m, rfl, hm⟩, sa, sb, sc, sd, b0, c0, q⟩ := h
    refine ⟨_, pss_one (ps_ret (pe_call D.ok hr (by rfl) D.mg D.kp D.bi .nil pass0 (pa_cons
        (pe_op op_mulW (pe_ix ix_tup (pv 0) pe_int (fun _ _ => rfl)) (pe_ix ix_tup (pv 1) pe_int (fun _ _ => rfl)))
      (pa_cons (pe_op op_mulW (pe_ix ix_tup (pv 0) pe_int (fun _ _ => rfl)) (pe_ix ix_tup (pv 1) pe_int (fun _ _ => rfl))) pa_nil)))), ?_⟩
    refine ⟨_, rfl, l, _, _, _, rfl, rfl, hl, at0, _, rfl, m, _, _, _, rfl, rfl, hm, at1, a, d, rfl, rfl, sa.mul sd, ?_⟩
    refine ⟨_, rfl, l, _, _, _, rfl, rfl, hl, at1, _, rfl, m, _, _, _, rfl, rfl, hm, at0, b, c, rfl, rfl, sb.mul sc, ?_⟩
    exact ⟨_, _, rfl, Int.mul_pos b0 c0, sb.lt sc, q⟩

/-! ### raised -/
def spRaised (K : PySem.W.Frag) : Sp := fun vs H Q _ => ∃ (u : V) (a b : Int) (e : Nat), vs = [u, .int (e : Int)] ∧ FrAt K H u a b ∧ 0 ≤ a ∧ a ≤ 1000 ∧ 0 ≤ b ∧ b ≤ 1000 ∧ e ≤ 1000 ∧
  ∀ p H', Same H H' → H p = none → H' p = some (.tup [.int (a ^ e), .int (b ^ e)]) → Q (.ref p) H'
theorem scRaised : FnScope ["a", "exponent", "base", "top", "bottom", "_"] ["a", "exponent"] (defScope sRaised) := ⟨rfl, rfl, rfl, by decide +kernel, rfl, by decide +kernel, by decide +kernel⟩
theorem ok_raised {f g : Addr} {fd gd : FuncData} {uO : Value} {vO : V} (F : Fun K "raised" "raised" sRaised f fd) (D : Dn P w K mg base "divide" 2 ["a", "b"] (spDivide K) g gd) (mO : mg "ONE" = some uO) (rO : RelV vO uO) (mA : mg "abs" = none) (mR : mg "range" = none) : FnOk P w K mg base CX0 3 f fd ["a", "exponent"] (spRaised K) := by
  refine F.ok scRaised (fun vs H Q E h => ?_) (fun cdv A outer s H vs Q E hr h => ?_)
  · obtain ⟨u, a, b, e, rfl, _⟩ := h
    rfl
  · obtain ⟨u, a, b, e, rfl, ⟨l, rfl, hl⟩, a0, a1, b0, b1, he, q⟩ := h
    refine ⟨_, pss_cons (ps_set (i := 2) scRaised.nd rfl (.inl rfl) (pe_ifExp (pt_cmpR op_ge (pv 1) pe_int (nomark _)) (pv 0) (pe_call D.ok hr (by rfl) D.mg D.kp D.bi .nil pass0 (pa_cons (pe_glob (by rfl) mO rO) (pa_cons (pv 0) pa_nil)))))
      (pss_cons (ps_set (i := 3) scRaised.nd rfl (.inl rfl) pe_int)
      (pss_cons (ps_set (i := 4) scRaised.nd rfl (.inl rfl) pe_int)
      (pss_cons (ps_for PassesOwn.never rfl (pi_range1 (by rfl) mR (pa_cons (pe_callB call_abs (by rfl) mA (by decide +kernel) (pa_cons (pv 1) pa_nil)) pa_nil)) (pg_name (i := 5) scRaised.nd rfl (.inl rfl))
        (pss_cons (ps_aug (i := 3) scRaised.nd rfl (.inl rfl) (pe_ix ix_tup (pv 2) pe_int (fun _ _ => rfl)) iop_mul)
        (pss_one (ps_aug (i := 4) scRaised.nd rfl (.inl rfl) (pe_ix ix_tup (pv 2) pe_int (fun _ _ => rfl)) iop_mul))))
      (pss_one (ps_ret (pe_tup (pa_cons (pv 3) (pa_cons (pv 4) pa_nil)))))))), ?_⟩
    refine ⟨_, rfl, (e : Int), 0, rfl, rfl, _, rfl, ?_⟩
    rw [decide_eq_true (show (0 : Int) ≤ (e : Int) by omega)]
    refine iteT ?_
    refine ⟨_, rfl, _, rfl, (e : Int), rfl, ?_⟩
    rw [if_neg (show ¬ (e : Int) < 0 by omega)]
    refine ⟨(e : Int), rfl, by omega, by omega, ?_⟩
    rw [Int.toNat_natCast]
    refine for_range (lo := 0) (n := e) (fun i σ H2 => ∃ v5, σ = [some (.ref l), some (.int (e : Int)), some (.ref l), some (.int (a ^ i)), some (.int (b ^ i)), v5] ∧ H2 = H) ⟨none, by rw [Int.pow_zero, Int.pow_zero]; rfl, rfl⟩ ?_ ?_
    · rintro i σ H2 hi ⟨v5, rfl, rfl⟩
      refine ⟨_, rfl, _, rfl, l, _, _, _, rfl, rfl, hl, at0, _, _, rfl, rfl, .inr ⟨by omega, by omega⟩, ?_⟩
      refine ⟨_, rfl, _, rfl, l, _, _, _, rfl, rfl, hl, at1, _, _, rfl, rfl, .inr ⟨by omega, by omega⟩, ?_⟩
      refine ⟨some (.int (0 + (i : Int))), ?_, rfl⟩
      rw [Int.pow_succ, Int.pow_succ]
      rfl
    · rintro σ H2 ⟨v5, rfl, rfl⟩
      refine ⟨_, rfl, _, rfl, by show 2 ≤ sizeLine; decide, fun p hp => ?_⟩
      exact q p _ (same_new hp) hp upd_same
end
end K42
namespace K42
open PySem PySem.Spec PyProof.Rows L2
/-! ### sorted of a dict whose keys are pairs of ints -/
def rSortedDT : List V → Hp → VK → Prop := fun vs H Q => ∃ (d : Addr) (kvs : List (List Key × V)) (ks : List (Int × Int)), vs = [V.ref d] ∧ Rd H d (.dT kvs) ∧ kvs.map (·.1) = ks.map (fun k => [Sum.inl k.1, Sum.inl k.2]) ∧
  ∀ (bs : List (Addr × Int × Int)) (p : Addr), (bs.map (·.2)).Perm ks → (∀ z ∈ bs, H z.1 = some (.tup [.int z.2.1, .int z.2.2])) → H p = none → Q (.ref p) (upd H p (.lst (bs.map fun z => V.ref z.1)))
/-- the pair of ints at an address -/
def pairOf (H : Hp) (b : Addr) : Int × Int := match H b with
  | some (.tup [.int i, .int j]) => (i, j)
  | _ => (0, 0)
theorem pairOf_of {H : Hp} {b : Addr} {i j : Int} (h : H b = some (.tup [.int i, .int j])) : pairOf H b = (i, j) := by
  unfold pairOf
  rw [h]
def adr : Value → Addr
  | .ref a => a
  | _ => 0
theorem keys_pairs {H : Hp} : ∀ {kvs : List (List Key × V)} {xs : List (List Key × Addr × Value)} {ks : List (Int × Int)}, Paired (fun (p : List Key × V) (q : List Key × Addr × Value) => p.1 = q.1 ∧ H q.2.1 = some (.tup (p.1.map kV)) ∧ RelV p.2 q.2.2) kvs xs →
    kvs.map (·.1) = ks.map (fun k => [Sum.inl k.1, Sum.inl k.2]) → xs.map (fun x => pairOf H x.2.1) = ks ∧ ∀ x ∈ xs, ∃ i j, H x.2.1 = some (.tup [.int i, .int j])
  | _, _, [], .nil, _ => ⟨rfl, fun x hx => absurd hx (by simp)⟩
  | _, _, k :: ks, .nil, h => by simp at h
  | _, _, [], .cons _ _, h => by simp at h
  | p :: kvs, x :: xs, k :: ks, .cons r t, h => by
    rw [List.map_cons, List.map_cons] at h
    injection h with h1 h2
    obtain ⟨i1, i2⟩ := keys_pairs t h2
    obtain ⟨_, e, _⟩ := r
    have e1 : H x.2.1 = some (.tup [.int k.1, .int k.2]) := by
      rw [e]
      have z : p.1 = [Sum.inl k.1, Sum.inl k.2] := h1
      rw [z]
      rfl
    refine ⟨?_, fun y hy => ?_⟩
    · rw [List.map_cons, i1, pairOf_of e1]
    · rcases List.mem_cons.mp hy with q | q
      · rw [q]
        exact ⟨_, _, e1⟩
      · exact i2 y q
section
variable {X : Cx}
theorem cr_sortedDT (hc : X.calm = true) : CallR X (.builtin "sorted") rSortedDT := by
  intro pins s σ H vs us Q I r h
  obtain ⟨d, kvs, ks, rfl, hd, hks, q⟩ := h
  obtain ⟨u, rfl, rx⟩ := vals1 r
  cases rx
  obtain ⟨z, hs, xs, pr, o, es, ep, ho, hx, hdt, he, hn⟩ := (show ObjOk X.prog X.w H s.heap d (.dT kvs) from hd.ok I.hok)
  have l1 : es.size = xs.length := size_of_entries he
  have l2 : kvs.length = xs.length := Paired.length pr
  obtain ⟨hpk, hall⟩ := keys_pairs pr hks
  refine Calls.call_function_entry PyProof.Rows.kind_sorted PyProof.Rows.plain_sorted PyProof.Rows.entry_sorted (PyProof.Rows.args_sorted1 _) ?_
  unfold Builtin.«sorted»
  refine wpAny_bind (m := checkCount "sorted" 1 1 _) (wpAny_pure ?_)
  refine wpAny_bind (PySem.W.kdu_collect (A := X.A.in1) (kdl_raw hs hx hdt) (I.ok.hd hc) ho (by omega) fun h' tk acc hk hacc => ?_)
  have ea : acc.toList = (xs.map fun x => x.2.1).map Value.ref := by
    have hl : acc.toList.length = xs.length := by rw [Array.length_toList, hacc.1]; exact l1
    apply List.ext_getElem?
    intro j
    rw [List.getElem?_map, List.getElem?_map]
    cases hj : acc.toList[j]? with
    | none =>
      have h1 := List.getElem?_eq_none_iff.mp hj
      rw [List.getElem?_eq_none (by omega)]
      all_goals rfl
    | some v =>
      obtain ⟨en, hen, hv⟩ := hacc.2 j v (by rw [← Array.getElem?_toList]; exact hj)
      have qe := entry_at he j
      rw [hen] at qe
      cases hb : xs[j]? with
      | none =>
        rw [hb] at qe
        exact nomatch (show some en = none from qe)
      | some b =>
        rw [hb] at qe
        have e2 : en = entryOfKey (tupleKind (mixKind X.prog X.w)) b := Option.some.inj qe
        rw [hv, e2]
        all_goals rfl
  generalize hvs : acc.toList = vs at ea
  have hlv : vs.length = xs.length := by rw [ea, List.length_map, List.length_map]
  have hz : vs.length ≤ sizeLine := by omega
  have I1 : Inv X pins σ H { s with heap := h', toks := tk } := I.kept hk
  have href : ∀ v ∈ vs, ∃ b i j, v = Value.ref b ∧ H b = some (.tup [.int i, .int j]) := fun v hv => by
    rw [ea, List.map_map] at hv
    obtain ⟨x, hx, e⟩ := List.mem_map.mp hv
    obtain ⟨i, j, e2⟩ := hall x hx
    exact ⟨x.2.1, i, j, e.symm, e2⟩
  have hpair : ∀ v ∈ vs, Srt.IsPair h' v (pairOf H (adr v)).1 (pairOf H (adr v)).2 := fun v hv => by
    obtain ⟨b, i, j, rfl, hb⟩ := href v hv
    obtain ⟨_, its2, r2, ob, hob, hcl, n, hdt2⟩ := I1.hok _ _ hb
    obtain ⟨u1, u2, rfl, ri, rj⟩ := vals2 r2
    obtain ⟨t1, rfl⟩ := ri
    obtain ⟨t2, rfl⟩ := rj
    have e : pairOf H (adr (Value.ref b)) = (i, j) := pairOf_of hb
    rw [e]
    exact ⟨b, ob, t1, t2, n, rfl, hob, hcl, hdt2⟩
  refine wpAny_bind (wpAny_newList ?_ hz)
  have hoL : (h'.push (seqObj "list" vs.toArray 0)).get? h'.objs.size = some (seqObj "list" vs.toArray 0) := Heap.get?_push_size _ rfl
  show wpAny _ _ _ _ _ { s with heap := h'.push (seqObj "list" vs.toArray 0), toks := tk }
  have hpair2 : ∀ v ∈ vs, Srt.IsPair (h'.push (seqObj "list" vs.toArray 0)) v (pairOf H (adr v)).1 (pairOf H (adr v)).2 := fun v hv => (hpair v hv).keeps fun b o e _ => Heap.get?_push_of_some _ e
  refine wpAny_bind (wpAny_holding (wpAny_call_entry PyProof.Rows.slot_list_sort ⟨_, hoL, rfl⟩ PyProof.Rows.entry_list_sort
    (SrtO.list_sort_ord (s := { s with heap := h'.push (seqObj "list" vs.toArray 0), toks := tk }) (SrtO.swo_lex fun v => pairOf H (adr v)) hoL hz (fun h2 => SrtO.pairs_sortableO (by omega) hpair2 fun o e => ?_) fun out h1 h2 => ⟨_, rfl, ?_⟩) (PyProof.Rows.args_list_sort _)))
  · have e' : some o = some (seqObj "list" vs.toArray 0) := e.symm.trans hoL
    cases e'
    intro c
    exact absurd (Value.type.inj c) (by decide)
  · obtain ⟨e', he'⟩ := PyProof.Rows.sortedHeap_at (vs := vs) (out := out.toArray) hoL
    have hperm := h2.perm
    have hout : ∀ v ∈ out, ∃ b i j, v = Value.ref b ∧ H b = some (.tup [.int i, .int j]) := fun v hv => href v (hperm.mem_iff.mp hv)
    have eo : (out.map fun v => V.ref (adr v)) = out.map backV := List.map_congr_left fun v hv => by
      obtain ⟨b, i, j, rfl, _⟩ := hout v hv
      rfl
    have hlen : (out.map backV).length ≤ sizeLine := by
      rw [List.length_map, hperm.length_eq]
      exact hz
    refine wpAny_pure ⟨_, rfl, .ref h'.objs.size, upd H h'.objs.size (.lst (out.map backV)), I1.laid (t' := tk) (fun b u e => ?_) (Nat.le_refl _)
      (show ObjOk X.prog X.w _ _ _ (.lst (out.map backV)) from ⟨hlen, out, e', vals_back (fun v hv => ?_), he'⟩), rfl, ?_⟩
    · have hb : b < h'.objs.size := Heap.lt_size e
      rw [PyProof.Rows.sortedHeap_old (Nat.ne_of_lt hb) (by rw [size_push']; exact Nat.lt_succ_of_lt hb)]
      exact Heap.get?_push_of_some _ e
    · obtain ⟨b, i, j, rfl, _⟩ := hout v hv
      exact ⟨b, rfl⟩
    · have t := q (out.map fun v => (adr v, pairOf H (adr v))) h'.objs.size ?_ ?_ (I1.hok.fresh (Nat.le_refl _))
      · rw [List.map_map] at t
        have eq2 : ((fun z : Addr × Int × Int => V.ref z.1) ∘ fun v => (adr v, pairOf H (adr v))) = fun v => V.ref (adr v) := rfl
        rw [eq2, eo] at t
        exact t
      · rw [List.map_map]
        have p2 : (out.map fun v => pairOf H (adr v)).Perm (vs.map fun v => pairOf H (adr v)) := hperm.map _
        have e3 : (vs.map fun v => pairOf H (adr v)) = ks := by
          rw [ea, List.map_map, List.map_map]
          exact hpk
        rw [e3] at p2
        exact p2
      · intro z hz2
        obtain ⟨v, hv, rfl⟩ := List.mem_map.mp hz2
        obtain ⟨b, i, j, rfl, hb⟩ := hout v hv
        show H b = some (.tup [.int (pairOf H b).1, .int (pairOf H b).2])
        rw [pairOf_of hb]
        exact hb
end
end K42
namespace K42
open PySem L2 PyProof.Rows
/-! ### tables of terms -/
def exK (k : Ex) : List Key := [Sum.inl k.1, Sum.inl k.2]
theorem exK_inj {k j : Ex} (h : exK k = exK j) : k = j := by
  unfold exK at h
  injection h with h1 h2
  injection h2 with h2 _
  exact Prod.ext (Sum.inl.inj h1) (Sum.inl.inj h2)
def dOf (m : List (Ex × Int)) : List (List Key × V) := m.map fun e => (exK e.1, V.int e.2)
theorem dOf_keys (m : List (Ex × Int)) : (dOf m).map (·.1) = (m.map (·.1)).map (fun k => [Sum.inl k.1, Sum.inl k.2]) := by
  unfold dOf
  rw [List.map_map, List.map_map]
  rfl
theorem valV_dOf : ∀ (m : List (Ex × Int)) (k : Ex), valV (dOf m) (exK k) = if hs m k = true then some (V.int (lk m k)) else none
  | [], k => rfl
  | e :: m, k => by
    have ih := valV_dOf m k
    unfold hs lk
    by_cases h : e.1 = k
    · rw [if_pos h, decide_eq_true h, Bool.true_or, if_pos rfl]
      exact valV_pos (p := (exK e.1, V.int e.2)) (congrArg exK h)
    · rw [if_neg h, decide_eq_false h, Bool.false_or]
      exact (valV_neg (p := (exK e.1, V.int e.2)) (fun z => h (exK_inj z))).trans ih
theorem any_dOf (k : Ex) : ∀ m : List (Ex × Int), ((dOf m).any fun kv => decide (kv.1 = exK k)) = hs m k
  | [] => rfl
  | e :: m => by
    show (decide (exK e.1 = exK k) || (dOf m).any fun kv => decide (kv.1 = exK k)) = (decide (e.1 = k) || hs m k)
    rw [any_dOf k m]
    congr 1
    by_cases h : e.1 = k
    · rw [decide_eq_true h, decide_eq_true (congrArg exK h)]
    · rw [decide_eq_false h, decide_eq_false (fun z => h (exK_inj z))]
theorem putK_dOf (m : List (Ex × Int)) (k : Ex) (z : Int) : putK (dOf m) (exK k) (V.int z) = dOf (put m k z) := by
  unfold putK put
  rw [any_dOf]
  by_cases h : hs m k = true
  · rw [if_pos h, if_pos h]
    unfold dOf
    rw [List.map_map, List.map_map]
    refine List.map_congr_left fun e _ => ?_
    show (if exK e.1 = exK k then (exK e.1, V.int z) else (exK e.1, V.int e.2)) = (exK (if e.1 = k then (e.1, z) else e).1, V.int (if e.1 = k then (e.1, z) else e).2)
    by_cases he : e.1 = k
    · rw [if_pos he, if_pos (congrArg exK he)]
    · rw [if_neg he, if_neg (fun q => he (exK_inj q))]
  · rw [if_neg h, if_neg h]
    unfold dOf
    rw [List.map_append]
    rfl
theorem dOf_len (m : List (Ex × Int)) : (dOf m).length = m.length := List.length_map _
/-! ### terms in the heap -/
/-- tuples stay -/
def SameT (H H' : Hp) : Prop := ∀ b xs, H b = some (.tup xs) → H' b = some (.tup xs)
theorem Same.t {H H' : Hp} (s : Same H H') : SameT H H' := fun b xs e => s b _ e
theorem sameT_trans {H H1 H2 : Hp} (a : SameT H H1) (b : SameT H1 H2) : SameT H H2 := fun c x e => b c x (a c x e)
theorem sameT_lst {H : Hp} {p : Addr} {xs : List V} {o : HO} (h : H p = some (.lst xs)) : SameT H (upd H p o) := fun b ys e => by
  rw [upd_ne (ne_of e h (by intro z; cases z))]
  exact e
theorem sameT_dT {H : Hp} {p : Addr} {xs : List (List Key × V)} {o : HO} (h : H p = some (.dT xs)) : SameT H (upd H p o) := fun b ys e => by
  rw [upd_ne (ne_of e h (by intro z; cases z))]
  exact e
def TermAt (H : Hp) (x : V) (t : Ex × Int) : Prop := ∃ r b, x = .ref r ∧ H r = some (.tup [.ref b, .int t.2]) ∧ H b = some (.tup [.int t.1.1, .int t.1.2])
theorem TermAt.keep {H H' : Hp} {x : V} {t : Ex × Int} (s : SameT H H') (h : TermAt H x t) : TermAt H' x t := by
  obtain ⟨r, b, e, h1, h2⟩ := h
  exact ⟨r, b, e, s _ _ h1, s _ _ h2⟩
abbrev Terms (H : Hp) (xs : List V) (ts : List (Ex × Int)) : Prop := Paired (TermAt H) xs ts
theorem terms_keep {H H' : Hp} {xs : List V} {ts : List (Ex × Int)} (s : SameT H H') (h : Terms H xs ts) : Terms H' xs ts := h.mono fun _ _ q => q.keep s
theorem paired_get {α β : Type} {F : α → β → Prop} : ∀ {xs : List α} {ys : List β} {i : Nat} {x : α}, Paired F xs ys → xs[i]? = some x → ∃ y, ys[i]? = some y ∧ F x y
  | _, _, _, _, .nil, e => by simp at e
  | _, _, 0, _, .cons r _, e => by simp at e; subst e; exact ⟨_, rfl, r⟩
  | _, _, i + 1, x, .cons _ t, e => by
    obtain ⟨u, h1, h2⟩ := paired_get (i := i) (x := x) t (by simpa using e)
    exact ⟨u, by simpa using h1, h2⟩
section
variable {P : Program} {w : World} {K : PySem.W.Frag} {mg : Str → Option Value} {base : Heap}
/-! ### _gathered -/
def nz (m : List (Ex × Int)) : List (Ex × Int) := m.filter fun e => decide (e.2 ≠ 0)
def spGathered : Sp := fun vs H Q _ => ∃ (d : Addr) (m : List (Ex × Int)), vs = [.ref d] ∧ H d = some (.dT (dOf m)) ∧ (m.map (·.1)).Nodup ∧ m.length ≤ 1000 ∧
  ∀ a xs p H', Same H H' → H a = none → H' a = some (.tup xs) → Terms H' xs p → p.Perm (nz m) → Q (.ref a) H'
theorem scGathered : FnScope ["terms", "exponents"] ["terms"] (defScope sGathered) := ⟨rfl, rfl, rfl, by decide +kernel, rfl, by decide +kernel, by decide +kernel⟩
theorem ok_gathered {f : Addr} {fd : FuncData} (F : Fun K "_gathered" "_gathered" sGathered f fd) (mT : mg "tuple" = none) (mS : mg "sorted" = none) : FnOk P w K mg base CX0 1 f fd ["terms"] spGathered := by
  refine F.ok scGathered (fun vs H Q E h => ?_) (fun cdv A outer s H vs Q E hr h => ?_)
  · obtain ⟨d, m, rfl, _⟩ := h
    rfl
  · obtain ⟨d, m, rfl, hd, hn, hl, q⟩ := h
    have hu := hu_of hr
    refine ⟨_, pss_one (ps_ret (pe_callTy call_tuple_of (by rfl) mT (by decide +kernel) (pa_cons
      (pe_lc (own := [("exponents", 1)]) (g := gName 1) rfl scGathered.nd (pi_list (pe_callB (cr_sortedDT rfl) (by rfl) mS (by decide +kernel) (pa_cons (pv 0) pa_nil)))
        (blkOk_by (N := ["terms", "exponents"]) (sc := defScope sGathered) (own := [("exponents", 1)]) (by decide +kernel)) (fun _ _ _ _ _ => pg_name (i := 1) scGathered.nd rfl (.inl rfl))
        (fun _ _ _ _ _ => pts_one (pt_cmpR op_ne (pe_dget hu (pv 0) (pv 1) (fun _ _ => rfl)) pe_int (nomark _)))
        (fun _ _ _ _ _ => pe_tup (pa_cons (pv 1) (pa_cons (pe_dget hu (pv 0) (pv 1) (fun _ _ => rfl)) pa_nil))))
      pa_nil))), ?_⟩
    refine ⟨_, rfl, d, dOf m, m.map (·.1), rfl, .inl hd, dOf_keys m, fun bs l hbs hbt nl => ?_⟩
    have s1 : Same H (upd H l (.lst (bs.map fun z => V.ref z.1))) := same_new nl
    refine ⟨l, rfl, ⟨_, .inl (.inl upd_same)⟩, fun D nD => ?_⟩
    have nDl : D ≠ l := fun e => by
      rw [e, upd_same] at nD
      cases nD
    have nD0 : H D = none := s1.free nD
    -- what is made of the keys so far
    let pt : List (Ex × Int) := bs.map fun z => (z.2, lk m z.2)
    have hpt : pt.Perm m := by
      have e : pt = (bs.map (·.2)).map fun k => (k, lk m k) := by
        rw [List.map_map]
        rfl
      have z := hbs.map fun k => (k, lk m k)
      rw [keys_lk hn] at z
      rw [e]
      exact z
    have hbl : bs.length = m.length := by
      have e := hbs.length_eq
      rw [List.length_map, List.length_map] at e
      exact e
    refine lc_list (K := K) (a := l) (xs := bs.map fun z => V.ref z.1) (fun i H2 => Same H H2 ∧ H2 l = some (.lst (bs.map fun z => V.ref z.1)) ∧ ∃ acc, H2 D = some (.lst acc) ∧ Terms H2 acc (nz (pt.take i)) ∧ acc.length ≤ i)
      ⟨same_own s1 nD0, by rw [upd_ne nDl.symm]; exact upd_same, [], upd_same, .nil, Nat.le_refl _⟩ (fun i H2 _ ⟨_, hl2, _⟩ => .inl (.inl hl2)) ?_ ?_
    · rintro i x H2 hi ⟨s2, hl2, acc, hD, ht, hal⟩
      have hib : i < bs.length := by
        have h := (List.getElem?_eq_some_iff.mp hi).1
        rw [List.length_map] at h
        exact h
      obtain ⟨z, hz, rfl⟩ : ∃ z, bs[i]? = some z ∧ x = V.ref z.1 := by
        rw [List.getElem?_map] at hi
        cases e : bs[i]? with
        | none => rw [e] at hi; cases hi
        | some z =>
          rw [e] at hi
          exact ⟨z, rfl, (Option.some.inj hi).symm⟩
      have hzm : z ∈ bs := List.mem_of_getElem? hz
      have hkey : H2 z.1 = some (.tup ((exK z.2).map kV)) := s2 _ _ (hbt z hzm)
      have hin : hs m z.2 = true := (hs_iff m z.2).mpr (hbs.mem_iff.mp (List.mem_map.mpr ⟨z, hzm, rfl⟩))
      have hv : valV (dOf m) (exK z.2) = some (V.int (lk m z.2)) := by
        rw [valV_dOf, if_pos hin]
      have hd2 : H2 d = some (.dT (dOf m)) := s2 _ _ hd
      have hg : DGet H2 d (V.ref z.1) (some (V.int (lk m z.2))) := by
        have g := DGet.t hd2 hkey
        rw [hv] at g
        exact g
      have hpi : pt[i]? = some (z.2, lk m z.2) := by
        show (bs.map fun z => (z.2, lk m z.2))[i]? = _
        rw [List.getElem?_map, hz]
        rfl
      have htk : pt.take (i + 1) = pt.take i ++ [(z.2, lk m z.2)] := by
        rw [List.take_add_one, hpi]
        rfl
      refine ⟨rfl, ?_⟩
      refine ⟨_, rfl, _, rfl, d, _, rfl, hg, rfl, _, rfl, ?_⟩
      by_cases hc : lk m z.2 = 0
      · rw [decide_eq_true (show V.int (lk m z.2) = V.int 0 by rw [hc])]
        refine iteF ⟨s2, hl2, acc, hD, ?_, by omega⟩
        have e : nz (pt.take (i + 1)) = nz (pt.take i) := by
          unfold nz
          rw [htk, List.filter_append, List.filter_cons_of_neg (by simp [hc])]
          simp
        rw [e]
        exact ht
      · rw [decide_eq_false (fun q => hc (V.int.inj q))]
        refine iteT ?_
        refine ⟨_, rfl, _, rfl, _, rfl, d, _, rfl, hg, by show 2 ≤ sizeLine; decide, fun t nt => ?_⟩
        have ntD : D ≠ t := ne_of_none hD nt
        have ntl : l ≠ t := ne_of_none hl2 nt
        have hDt : (upd H2 t (.tup [.ref z.1, .int (lk m z.2)])) D = some (.lst acc) := by
          rw [upd_ne ntD]
          exact hD
        refine ⟨acc, hDt, small1000 (by omega), ?_⟩
        have k1 : SameT H2 (upd H2 t (.tup [.ref z.1, .int (lk m z.2)])) := Same.t (same_new nt)
        have k2 : SameT (upd H2 t (.tup [.ref z.1, .int (lk m z.2)])) (upd (upd H2 t (.tup [.ref z.1, .int (lk m z.2)])) D (.lst (acc ++ [.ref t]))) := sameT_lst hDt
        refine ⟨same_own (s2.trans (same_new nt)) nD0, ?_, acc ++ [.ref t], upd_same, ?_, by rw [List.length_append]; show acc.length + 1 ≤ i + 1; omega⟩
        · rw [upd_ne nDl.symm, upd_ne ntl]
          exact hl2
        · have e : nz (pt.take (i + 1)) = nz (pt.take i) ++ [(z.2, lk m z.2)] := by
            unfold nz
            rw [htk, List.filter_append, List.filter_cons_of_pos (by simp [hc])]
            rfl
          rw [e]
          refine Paired.snoc (terms_keep (sameT_trans k1 k2) ht) ⟨t, z.1, rfl, k2 _ _ upd_same, ?_⟩
          exact sameT_trans k1 k2 _ _ hkey
    · rintro H2 ⟨s2, hl2, acc, hD, ht, hal⟩
      refine ⟨D, acc, rfl, .inl ⟨.inl (.inl hD), fun a na => ?_⟩⟩
      have hnz : (nz (pt.take (bs.map fun z => V.ref z.1).length)).Perm (nz m) := by
        rw [List.length_map, List.take_of_length_le (by rw [List.length_map]; exact Nat.le_refl _)]
        exact hpt.filter _
      exact q a acc _ _ (s2.trans (same_new na)) (s2.free na) upd_same (terms_keep (Same.t (same_new na)) ht) hnz
end
end K42
namespace K42
open PySem L2 PyProof.Rows
theorem getD_dOf (m : List (Ex × Int)) (k : Ex) : (valV (dOf m) (exK k)).getD (V.int 0) = V.int (lk m k) := by
  rw [valV_dOf]
  by_cases h : hs m k = true
  · rw [if_pos h]
    rfl
  · rw [if_neg h, lk_out (fun z => h ((hs_iff m k).mpr z))]
    rfl
theorem gat_snoc (ts : List (Ex × Int)) (t : Ex × Int) (m : List (Ex × Int)) : gat (ts ++ [t]) m = put (gat ts m) t.1 (lk (gat ts m) t.1 + t.2) := by
  unfold gat
  rw [List.foldl_append]
  rfl
section
variable {P : Program} {w : World} {K : PySem.W.Frag} {mg : Str → Option Value} {base : Heap}
/-! ### polynomial -/
def spPolynomial (K : PySem.W.Frag) : Sp := fun vs H Q _ => ∃ (a : Addr) (xs : List V) (ts : List (Ex × Int)), vs = [.ref a] ∧ SqL K H a xs ∧ Terms H xs ts ∧ ts.length ≤ 500 ∧
  ∀ r ys p H', Same H H' → H' r = some (.tup ys) → Terms H' ys p → PolyOf p ts → Q (.ref r) H'
theorem scPolynomial : FnScope ["terms", "found", "exponents", "coefficient"] ["terms"] (defScope sPolynomial) := ⟨rfl, rfl, rfl, by decide +kernel, rfl, by decide +kernel, by decide +kernel⟩
theorem ok_polynomial {f g : Addr} {fd gd : FuncData} (F : Fun K "polynomial" "polynomial" sPolynomial f fd) (D : Dn P w K mg base "_gathered" 1 ["terms"] spGathered g gd) : FnOk P w K mg base CX0 2 f fd ["terms"] (spPolynomial K) := by
  refine F.ok scPolynomial (fun vs H Q E h => ?_) (fun cdv A outer s H vs Q E hr h => ?_)
  · obtain ⟨a, xs, ts, rfl, _⟩ := h
    rfl
  · obtain ⟨a, xs, ts, rfl, ha, ht, hl, q⟩ := h
    have hu := hu_of hr
    refine ⟨_, pss_cons (ps_set (i := 1) scPolynomial.nd rfl (.inl rfl) pe_dnewT)
      (pss_cons (ps_for PassesOwn.never rfl (pi_list (pv 0)) (pg_tup rfl (pgs_cons (pg_name (i := 2) scPolynomial.nd rfl (.inl rfl)) (pgs_cons (pg_name (i := 3) scPolynomial.nd rfl (.inl rfl)) pgs_nil)))
        (pss_one (ps_dput hu (pv 1) (pv 2) (pe_op op_add (pe_dget2 hu (pv 1) (pv 2) pe_int ⟨rfl, rfl, rfl, rfl⟩) (pv 3)) rfl)))
      (pss_one (ps_ret (pe_call D.ok hr (by rfl) D.mg D.kp D.bi .nil pass0 (pa_cons (pv 1) pa_nil))))), ?_⟩
    intro o no
    refine ⟨_, rfl, a, rfl, ⟨_, (same_new no).seq ha⟩, for_list (K := K) (a := a) (xs := xs) (fun i σ H3 => ∃ v2 v3, σ = [some (.ref a), some (.ref o), v2, v3] ∧ Same H H3 ∧ H3 o = some (.dT (dOf (gat (ts.take i) []))))
      ⟨none, none, rfl, same_new no, upd_same⟩ (fun i σ H3 _ ⟨_, _, _, s3, _⟩ => s3.seq ha) ?_ ?_⟩
    · rintro i x σ H3 hi ⟨v2, v3, rfl, s3, ho⟩
      obtain ⟨t, hti, r, b, rfl, h1, h2⟩ := paired_get (terms_keep (Same.t s3) ht) hi
      have htk : gat (ts.take (i + 1)) [] = put (gat (ts.take i) []) t.1 (lk (gat (ts.take i) []) t.1 + t.2) := by
        rw [List.take_add_one, hti]
        exact gat_snoc _ _ _
      have hlen : (dOf (gat (ts.take i) [])).length < sizeLine := by
        have z := (gat_ok (ts.take i) [] (by simp)).2.2.2
        rw [dOf_len]
        refine small1000 ?_
        rw [List.length_take, List.length_nil] at z
        omega
      have hkey : H3 b = some (.tup ((exK t.1).map kV)) := h2
      refine ⟨r, _, rfl, .inl (.inl h1), rfl, _, _, rfl, _, _, rfl, rfl, ?_⟩
      refine ⟨_, rfl, o, rfl, .inr ⟨_, .inl ho⟩, _, rfl, _, DGet.t ho hkey, _, rfl, _, _, getD_dOf _ _, rfl, ?_⟩
      refine ⟨_, rfl, _, rfl, o, _, rfl, DPut.t ho hkey hlen, ?_⟩
      refine ⟨_, _, rfl, same_own s3 no, ?_⟩
      rw [upd_same, putK_dOf, htk]
    · rintro σ H3 ⟨v2, v3, rfl, s3, ho⟩
      have e : ts.take xs.length = ts := List.take_of_length_le (by rw [ht.length]; exact Nat.le_refl _)
      rw [e] at ho
      obtain ⟨g1, _, _, g4⟩ := gat_ok ts [] (by simp)
      rw [List.length_nil] at g4
      refine ⟨_, rfl, o, gat ts [], rfl, ho, g1, by omega, fun r ys p H4 s4 _ hr4 ht4 hp => ?_⟩
      exact q r ys p H4 (s3.trans s4) hr4 ht4 (poly_of hp)
end
end K42
namespace K42
open PySem L2 PyProof.Rows
/-! ### fractions as numbers -/
theorem cF_n (n d : Int) : cF n d ∣ n := by
  unfold cF
  exact Int.ofNat_dvd_left.mpr (Nat.gcd_dvd_left _ _)
theorem cF_d (n d : Int) : cF n d ∣ d := by
  unfold cF
  exact Int.ofNat_dvd_left.mpr (Nat.gcd_dvd_right _ _)
theorem frN_mul (n d : Int) : frN n d * cF n d = n := Int.ediv_mul_cancel (cF_n n d)
theorem frD_mul (n d : Int) : frD n d * cF n d = d := Int.ediv_mul_cancel (cF_d n d)
theorem fr_eq (n d : Int) : frN n d * d = n * frD n d := by
  have h1 := frN_mul n d
  have h2 := frD_mul n d
  have e1 : frN n d * d = frN n d * (frD n d * cF n d) := by rw [h2]
  have e2 : n * frD n d = frN n d * cF n d * frD n d := by rw [h1]
  rw [e1, e2]
  simp only [Int.mul_comm, Int.mul_assoc, Int.mul_left_comm]
theorem frD_pos {n d : Int} (h : 0 < d) : 0 < frD n d := by
  have h2 := frD_mul n d
  have h3 := cF_pos (n := n) h
  refine Int.not_le.mp fun z => ?_
  have := Int.mul_nonneg_of_nonpos_of_nonpos z (show -cF n d ≤ 0 by omega)
  rw [Int.mul_neg, h2] at this
  omega
theorem abs_ediv_le {n g : Int} (hg : 0 < g) (hd : g ∣ n) : (n / g).natAbs ≤ n.natAbs := by
  obtain ⟨k, rfl⟩ := hd
  rw [Int.mul_ediv_cancel_left _ (by omega), Int.natAbs_mul]
  exact Nat.le_mul_of_pos_left _ (by omega)
theorem frN_le {n d : Int} (h : 0 < d) : (frN n d).natAbs ≤ n.natAbs := abs_ediv_le (cF_pos h) (cF_n n d)
theorem frD_le {n d : Int} (h : 0 < d) : (frD n d).natAbs ≤ d.natAbs := abs_ediv_le (cF_pos h) (cF_d n d)
theorem fr_one {n d : Int} (h : 0 < d) (e : frN n d = frD n d) : frN n d = 1 ∧ frD n d = 1 := by
  have h1 := frN_mul n d
  have h2 := frD_mul n d
  rw [e, h2] at h1
  subst h1
  have hc : cF d d = d := by
    unfold cF
    rw [Nat.gcd_self]
    omega
  have k : frD d d = 1 := by
    unfold frD
    rw [hc]
    exact Int.ediv_self (by omega)
  exact ⟨e.trans k, k⟩
/-- the sum of two fractions over one denominator -/
theorem val_step {N D mn md S T q : Int} (hD : 0 < D) (hm : 0 < md) (h1 : N * q = D * S) (h2 : mn * q = md * T) :
    frN (N * md + mn * D) (D * md) * q = frD (N * md + mn * D) (D * md) * (S + T) := by
  have hd : 0 < D * md := Int.mul_pos hD hm
  have e := fr_eq (N * md + mn * D) (D * md)
  generalize frN (N * md + mn * D) (D * md) = x at *
  generalize frD (N * md + mn * D) (D * md) = y at *
  have hn : (N * md + mn * D) * q = D * md * (S + T) := by
    have a1 : N * md * q = D * md * S := by
      rw [Int.mul_right_comm, h1, Int.mul_right_comm]
    have a2 : mn * D * q = D * md * T := by
      rw [Int.mul_right_comm, h2, Int.mul_right_comm, Int.mul_comm md D]
    rw [Int.add_mul, a1, a2, Int.mul_add]
  refine Int.eq_of_mul_eq_mul_right (show D * md ≠ 0 by omega) ?_
  rw [Int.mul_right_comm, e, Int.mul_right_comm, hn]
  simp only [Int.mul_comm, Int.mul_assoc, Int.mul_left_comm]
/-- one term -/
theorem term_step {a b c : Int} {e J : Nat} (hb : 0 < b) (he : e ≤ J) :
    frN (frN (a ^ e * 1) (b ^ e * 1) * c) (frD (a ^ e * 1) (b ^ e * 1) * 1) * b ^ J = frD (frN (a ^ e * 1) (b ^ e * 1) * c) (frD (a ^ e * 1) (b ^ e * 1) * 1) * (c * (a ^ e * b ^ (J - e))) := by
  have hbe : 0 < b ^ e := Int.pow_pos hb
  have e1 := fr_eq (a ^ e * 1) (b ^ e * 1)
  have d1 := frD_pos (n := a ^ e * 1) (d := b ^ e * 1) (by omega)
  generalize frN (a ^ e * 1) (b ^ e * 1) = tn at *
  generalize frD (a ^ e * 1) (b ^ e * 1) = td at *
  have e2 := fr_eq (tn * c) (td * 1)
  generalize frN (tn * c) (td * 1) = mn at *
  generalize frD (tn * c) (td * 1) = md at *
  rw [Int.mul_one, Int.mul_one] at e1
  rw [Int.mul_one] at e2
  have hJ : b ^ J = b ^ e * b ^ (J - e) := by
    rw [← Int.pow_add]
    congr 1
    omega
  have k : mn * b ^ e = md * (c * a ^ e) := by
    refine Int.eq_of_mul_eq_mul_right (show td ≠ 0 by omega) ?_
    have x1 : mn * b ^ e * td = tn * b ^ e * c * md := by
      rw [Int.mul_right_comm, e2]
      simp only [Int.mul_comm, Int.mul_assoc, Int.mul_left_comm]
    rw [x1, e1]
    simp only [Int.mul_comm, Int.mul_assoc, Int.mul_left_comm]
  rw [hJ, ← Int.mul_assoc, k]
  simp only [Int.mul_comm, Int.mul_assoc, Int.mul_left_comm]
def wOf (a b : Int) (J : Nat) (k : Ex) : Int := a ^ k.1.toNat * b ^ (J - k.1.toNat)
theorem pow_le_abs {a : Int} (h0 : 0 ≤ a) (h4 : a ≤ 4) {e : Nat} (he : e ≤ 25) : (a ^ e).natAbs ≤ 2 ^ 50 := by
  rw [Int.natAbs_pow]
  refine Nat.le_trans (Nat.pow_le_pow_left (show a.natAbs ≤ 4 by omega) e) ?_
  refine Nat.le_trans (Nat.pow_le_pow_right (by decide) he) (by decide)
theorem sm_of {n : Int} {k : Nat} (h : n.natAbs ≤ 2 ^ k) (hk : k < 2000) : Sm n := Nat.lt_of_le_of_lt h (Nat.pow_lt_pow_right (by decide) hk)
section
variable {P : Program} {w : World} {K : PySem.W.Frag} {mg : Str → Option Value} {base : Heap}
/-! ### value -/
structure TermsOk (p : List (Ex × Int)) (J : Nat) : Prop where
  len : p.length ≤ 32
  ex : ∀ e ∈ p, 0 ≤ e.1.1 ∧ e.1.1 ≤ J ∧ 0 ≤ e.1.2 ∧ e.1.2 ≤ 100
  co : ∀ e ∈ p, e.2.natAbs ≤ 32
  J25 : J ≤ 25
def spValue (K : PySem.W.Frag) : Sp := fun vs H Q _ => ∃ (r : Addr) (u v : V) (xs : List V) (p : List (Ex × Int)) (a b : Int) (J : Nat), vs = [.ref r, u, v] ∧ SqT K H r xs ∧ Terms H xs p ∧ FrAt K H u a b ∧ FrAt K H v 1 1 ∧ 0 < a ∧ a ≤ 4 ∧ 0 < b ∧ b ≤ 4 ∧ TermsOk p J ∧
  ∀ z N D H', Same H H' → FrAt K H' z N D → 0 < D → Sm N → Sm D → N * b ^ J = D * ev (wOf a b J) p → Q z H'
theorem scValue : FnScope ["p", "x", "y", "result", "a", "b", "coefficient", "term"] ["p", "x", "y"] (defScope sValue) := ⟨rfl, rfl, rfl, by decide +kernel, rfl, by decide +kernel, by decide +kernel⟩
theorem ok_value {f gM gR gA : Addr} {fd gdM gdR gdA : FuncData} {aZ : Addr} (F : Fun K "value" "value" sValue f fd) (DM : Dn P w K mg base "multiply" 2 ["a", "b"] (spMultiply K) gM gdM) (DR : Dn P w K mg base "raised" 3 ["a", "exponent"] (spRaised K) gR gdR)
    (DA : Dn P w K mg base "add" 2 ["a", "b"] (spAdd K) gA gdA) (mZ : mg "ZERO" = some (.ref aZ)) (hZ : ∀ H, SqT K H aZ [.int 0, .int 1]) : FnOk P w K mg base CX0 4 f fd ["p", "x", "y"] (spValue K) := by
  refine F.ok scValue (fun vs H Q E h => ?_) (fun cdv A outer s H vs Q E hr h => ?_)
  · obtain ⟨r, u, v, xs, p, a, b, J, rfl, _⟩ := h
    rfl
  · obtain ⟨r, u, v, xs, p, a, b, J, rfl, hp, ht, hu, hv, a0, a4, b0, b4, ok, q⟩ := h
    have hr2 : Room 2 _ := hr.mono (by decide)
    refine ⟨_, pss_cons (ps_set (i := 3) scValue.nd rfl (.inl rfl) (pe_glob (by rfl) mZ (show RelV (.ref aZ) (.ref aZ) from rfl)))
      (pss_cons (ps_for PassesOwn.never rfl (pi_tup (pv 0)) (pg_tup rfl (pgs_cons (pg_tup rfl (pgs_cons (pg_name (i := 4) scValue.nd rfl (.inl rfl)) (pgs_cons (pg_name (i := 5) scValue.nd rfl (.inl rfl)) pgs_nil))) (pgs_cons (pg_name (i := 6) scValue.nd rfl (.inl rfl)) pgs_nil)))
        (pss_cons (ps_set (i := 7) scValue.nd rfl (.inl rfl) (pe_call DM.ok hr2 (by rfl) DM.mg DM.kp DM.bi .nil pass0 (pa_cons (pe_call DR.ok hr (by rfl) DR.mg DR.kp DR.bi .nil pass0 (pa_cons (pv 1) (pa_cons (pv 4) pa_nil)))
            (pa_cons (pe_call DR.ok hr (by rfl) DR.mg DR.kp DR.bi .nil pass0 (pa_cons (pv 2) (pa_cons (pv 5) pa_nil))) pa_nil))))
        (pss_one (ps_set (i := 3) scValue.nd rfl (.inl rfl) (pe_call DA.ok hr2 (by rfl) DA.mg DA.kp DA.bi .nil pass0 (pa_cons (pv 3) (pa_cons (pe_call DM.ok hr2 (by rfl) DM.mg DM.kp DM.bi .nil pass0 (pa_cons (pv 7) (pa_cons (pe_tup (pa_cons (pv 6) (pa_cons pe_int pa_nil))) pa_nil))) pa_nil)))))))
      (pss_one (ps_ret (pv 3)))), ?_⟩
    refine ⟨_, rfl, r, rfl, ⟨_, hp⟩, for_tup (K := K) (a := r) (xs := xs) (fun i σ H3 => ∃ (z v4 v5 v6 v7 : Option V) (zv : V) (N D : Int), σ = [some (.ref r), some u, some v, z, v4, v5, v6, v7] ∧ z = some zv ∧ Same H H3 ∧ FrAt K H3 zv N D ∧ 0 < D ∧ N.natAbs ≤ 2 ^ (60 * i) ∧ D.natAbs ≤ 2 ^ (50 * i) ∧ N * b ^ J = D * ev (wOf a b J) (p.take i))
      ⟨_, none, none, none, none, .ref aZ, 0, 1, rfl, rfl, Same.refl H, ⟨aZ, rfl, hZ H⟩, by decide, by simp, by simp, by simp [ev]⟩ (fun i σ H3 _ ⟨_, _, _, _, _, _, _, _, _, _, s3, _⟩ => same_tup s3 hp) ?_ ?_⟩
    · rintro i x σ H3 hi ⟨z, v4, v5, v6, v7, zv, N, D, rfl, rfl, s3, hz, hD, bN, bD, hval⟩
      obtain ⟨t, hti, rr, bb, rfl, h1, h2⟩ := paired_get (terms_keep (Same.t s3) ht) hi
      have hil : i < p.length := (List.getElem?_eq_some_iff.mp hti).1
      have hi32 : i < 32 := Nat.lt_of_lt_of_le hil ok.len
      have htm : t ∈ p := List.mem_of_getElem? hti
      obtain ⟨x0, xJ, y0, y1⟩ := ok.ex t htm
      have hc := ok.co t htm
      obtain ⟨⟨ea, eb⟩, c⟩ := t
      obtain ⟨e, rfl⟩ : ∃ e : Nat, ea = (e : Int) := ⟨ea.toNat, (Int.toNat_of_nonneg x0).symm⟩
      obtain ⟨e2, rfl⟩ : ∃ e2 : Nat, eb = (e2 : Int) := ⟨eb.toNat, (Int.toNat_of_nonneg y0).symm⟩
      have heJ : e ≤ J := by
        have : (e : Int) ≤ J := xJ
        omega
      have he25 : e ≤ 25 := Nat.le_trans heJ ok.J25
      have he2 : e2 ≤ 1000 := by
        have : (e2 : Int) ≤ 100 := y1
        omega
      have hc' : c.natAbs ≤ 32 := hc
      -- (a, b), coefficient
      refine ⟨rr, _, rfl, .inl (.inl h1), rfl, _, _, rfl, ⟨bb, _, rfl, .inl (.inl h2), rfl, _, _, rfl, _, _, rfl, rfl, ?_⟩⟩
      refine ⟨_, _, rfl, rfl, ?_⟩
      -- raised(x, a)
      refine ⟨_, rfl, _, rfl, u, a, b, e, rfl, hu.keep s3, by omega, by omega, by omega, by omega, by omega, fun t1 H4 s4 n4 e4 => ?_⟩
      have S4 : Same H H4 := s3.trans s4
      -- raised(y, b)
      refine ⟨_, rfl, _, rfl, v, 1, 1, e2, rfl, hv.keep S4, by decide, by decide, by decide, by decide, he2, fun t2 H5 s5 n5 e5 => ?_⟩
      have S5 : Same H H5 := S4.trans s5
      rw [Int.one_pow] at e5
      -- multiply
      have sa := sm_of (pow_le_abs (Int.le_of_lt a0) a4 he25) (by decide)
      have sb := sm_of (pow_le_abs (Int.le_of_lt b0) b4 he25) (by decide)
      have s1 : Sm 1 := sm_of (k := 0) (by decide) (by decide)
      have hbe : 0 < b ^ e := Int.pow_pos b0
      refine ⟨.ref t1, .ref t2, _, _, _, _, rfl, ⟨t1, rfl, .inl (.inl (s5 _ _ e4))⟩, ⟨t2, rfl, .inl (.inl e5)⟩, sa, sb, s1, s1, hbe, by decide, fun t3 H6 s6 n6 e6 => ?_⟩
      have S6 : Same H H6 := S5.trans s6
      have hb1 : 0 < b ^ e * 1 := by omega
      have tnb : (frN (a ^ e * 1) (b ^ e * 1)).natAbs ≤ 2 ^ 50 := Nat.le_trans (frN_le hb1) (by rw [Int.mul_one]; exact pow_le_abs (Int.le_of_lt a0) a4 he25)
      have tdb : (frD (a ^ e * 1) (b ^ e * 1)).natAbs ≤ 2 ^ 50 := Nat.le_trans (frD_le hb1) (by rw [Int.mul_one]; exact pow_le_abs (Int.le_of_lt b0) b4 he25)
      have tdp : 0 < frD (a ^ e * 1) (b ^ e * 1) := frD_pos hb1
      have hstep := term_step (a := a) (c := c) b0 heJ
      generalize frN (a ^ e * 1) (b ^ e * 1) = tn at *
      generalize frD (a ^ e * 1) (b ^ e * 1) = td at *
      -- result, (coefficient, 1)
      refine ⟨_, rfl, _, rfl, _, rfl, by show 2 ≤ sizeLine; decide, fun t4 n4' => ?_⟩
      have s7 : Same H6 (upd H6 t4 (.tup [.int c, .int 1])) := same_new n4'
      refine ⟨.ref t3, .ref t4, tn, td, c, 1, rfl, ⟨t3, rfl, .inl (.inl (s7 _ _ e6))⟩, ⟨t4, rfl, .inl (.inl upd_same)⟩, sm_of tnb (by decide), sm_of tdb (by decide), sm_of (k := 5) hc' (by decide), s1, tdp, by decide, fun t5 H8 s8 n8 e8 => ?_⟩
      have S8 : Same H H8 := (S6.trans s7).trans s8
      have S38 : Same H3 H8 := (((s4.trans s5).trans s6).trans s7).trans s8
      have td1 : 0 < td * 1 := by omega
      have mnb : (frN (tn * c) (td * 1)).natAbs ≤ 2 ^ 55 := by
        refine Nat.le_trans (frN_le td1) ?_
        rw [Int.natAbs_mul]
        exact Nat.le_trans (Nat.mul_le_mul tnb hc') (by decide)
      have mdb : (frD (tn * c) (td * 1)).natAbs ≤ 2 ^ 50 := Nat.le_trans (frD_le td1) (by rw [Int.mul_one]; exact tdb)
      have mdp : 0 < frD (tn * c) (td * 1) := frD_pos td1
      generalize frN (tn * c) (td * 1) = mn at *
      generalize frD (tn * c) (td * 1) = md at *
      -- add
      refine ⟨zv, .ref t5, N, D, mn, md, rfl, hz.keep S38, ⟨t5, rfl, .inl (.inl e8)⟩, sm_of bN (by omega), sm_of bD (by omega), sm_of mnb (by decide), sm_of mdb (by decide), hD, mdp, fun t6 H9 s9 n9 e9 => ?_⟩
      have hdd : 0 < D * md := Int.mul_pos hD mdp
      refine ⟨_, _, _, _, _, .ref t6, _, _, rfl, rfl, S8.trans s9, ⟨t6, rfl, .inl (.inl e9)⟩, frD_pos hdd, ?_, ?_, ?_⟩
      · refine Nat.le_trans (frN_le hdd) ?_
        have x1 : (N * md).natAbs ≤ 2 ^ (60 * i) * 2 ^ 50 := by
          rw [Int.natAbs_mul]
          exact Nat.mul_le_mul bN mdb
        have x2 : (mn * D).natAbs ≤ 2 ^ 55 * 2 ^ (50 * i) := by
          rw [Int.natAbs_mul]
          exact Nat.mul_le_mul mnb bD
        have x3 : 2 ^ (50 * i) ≤ 2 ^ (60 * i) := Nat.pow_le_pow_right (by decide) (by omega)
        have x4 : 2 ^ (60 * (i + 1)) = 2 ^ (60 * i) * 2 ^ 60 := by
          rw [show 60 * (i + 1) = 60 * i + 60 by omega, Nat.pow_add]
        rw [x4]
        refine Nat.le_trans (Int.natAbs_add_le _ _) ?_
        refine Nat.le_trans (Nat.add_le_add x1 x2) ?_
        rw [Nat.mul_comm (2 ^ 55)]
        refine Nat.le_trans (Nat.add_le_add_left (Nat.mul_le_mul_right _ x3) _) ?_
        rw [← Nat.mul_add]
        exact Nat.mul_le_mul_left _ (by decide)
      · refine Nat.le_trans (frD_le hdd) ?_
        rw [Int.natAbs_mul, show 50 * (i + 1) = 50 * i + 50 by omega, Nat.pow_add]
        exact Nat.mul_le_mul bD mdb
      · have hev : ev (wOf a b J) (p.take (i + 1)) = ev (wOf a b J) (p.take i) + c * (a ^ e * b ^ (J - e)) := by
          rw [List.take_add_one, hti, ev_append]
          show _ + (c * wOf a b J ((e : Int), (e2 : Int)) + 0) = _
          rw [Int.add_zero]
          rfl
        rw [hev]
        exact val_step hD mdp hval hstep
    · rintro σ H3 ⟨z, v4, v5, v6, v7, zv, N, D, rfl, rfl, s3, hz, hD, bN, bD, hval⟩
      have e : p.take xs.length = p := List.take_of_length_le (by rw [ht.length]; exact Nat.le_refl _)
      have hl : xs.length ≤ 32 := by
        rw [ht.length]
        exact ok.len
      rw [e] at hval
      refine ⟨_, rfl, ?_⟩
      exact q zv N D H3 s3 hz hD (sm_of bN (by omega)) (sm_of bD (by omega)) hval
end
end K42
namespace K42
open PySem L2 PyProof.Rows
/-! ### edges in the heap -/
def TripAt (H : Hp) (x : V) (e : Ed) : Prop := ∃ r, x = .ref r ∧ H r = some (.tup [.int (e.1 : Int), .int (e.2.1 : Int), .int (e.2.2 : Int)])
theorem TripAt.keep {H H' : Hp} {x : V} {e : Ed} (s : SameT H H') (h : TripAt H x e) : TripAt H' x e := by
  obtain ⟨r, q, h1⟩ := h
  exact ⟨r, q, s _ _ h1⟩
abbrev Edges (H : Hp) (xs : List V) (E : List Ed) : Prop := Paired (TripAt H) xs E
theorem edges_keep {H H' : Hp} {xs : List V} {E : List Ed} (s : SameT H H') (h : Edges H xs E) : Edges H' xs E := h.mono fun _ _ q => q.keep s
def ltE (a b : Ed) : Prop := a.1 < b.1 ∨ (a.1 = b.1 ∧ a.2.1 < b.2.1)
structure EdsOk (n : Nat) (E : List Ed) : Prop where
  len : E.length ≤ 24
  ok : ∀ e ∈ E, e.1 < e.2.1 ∧ e.2.1 < n ∧ 1 ≤ e.2.2 ∧ e.2.2 ≤ 9
  asc : E.Pairwise ltE
theorem yes_of {σ : L2.St} {H : Hp} {F : Bool → Hp → Prop} (h : F true H) : tYes σ H F := h
/-! ### an object -/
def zeros (n : Nat) : List V := List.replicate n (.int 0)
def flds (tf te : Addr) : List (Str × V) := putF "edges" (.ref te) (putF "fields" (.ref tf) [])
theorem kfe : ¬ (("fields" : Str) = "edges") := by decide +kernel
theorem flds_fields (tf te : Addr) : (flds tf te).lookup ("fields" : Str) = some (.ref tf) := by
  unfold flds
  rw [lookup_putF, if_neg kfe, lookup_putF, if_pos rfl]
theorem flds_edges (tf te : Addr) : (flds tf te).lookup ("edges" : Str) = some (.ref te) := by
  unfold flds
  rw [lookup_putF, if_pos rfl]
/-- spins stand at p: n vertices without field, the edges E -/
def SpinsAt (C : Addr) (H : Hp) (p : Addr) (n : Nat) (E : List Ed) : Prop :=
  ∃ dx tf te xs, H p = some (.ins C dx (flds tf te)) ∧ H tf = some (.tup (zeros n)) ∧ H te = some (.tup xs) ∧ Edges H xs E
theorem SpinsAt.keep {C : Addr} {H H' : Hp} {p : Addr} {n : Nat} {E : List Ed} (s : Same H H') (h : SpinsAt C H p n E) : SpinsAt C H' p n E := by
  obtain ⟨dx, tf, te, xs, h1, h2, h3, h4⟩ := h
  exact ⟨dx, tf, te, xs, s _ _ h1, s _ _ h2, s _ _ h3, edges_keep (Same.t s) h4⟩
/-- what the walk asks of the class as the top has made it -/
structure Txt (K : PySem.W.Frag) (C : Addr) : Prop where
  cl : Cls K C
  nF : NoAttr K C "fields"
  nE : NoAttr K C "edges"
def spInit (K : PySem.W.Frag) (C : Addr) : Sp := fun vs H Q _ => ∃ (p dx f e : Addr) (n : Nat) (xs : List V) (E : List Ed), vs = [.ref p, .ref f, .ref e] ∧ H p = some (.ins C dx []) ∧ SqL K H f (zeros n) ∧ SqL K H e xs ∧ Edges H xs E ∧ 1 ≤ n ∧ n ≤ 12 ∧ EdsOk n E ∧
  ∀ H', SpinsAt C H' p n E → (∀ b o, H b = some o → b ≠ p → H' b = some o) → Q .non H'
theorem scInit : FnScope ["self", "fields", "edges", "before", "u", "v", "coupling", "field"] ["self", "fields", "edges"] (defScope sInit) := ⟨rfl, rfl, rfl, by decide +kernel, rfl, by decide +kernel, by decide +kernel⟩
/-- the pair ahead of the i-th edge -/
def prevE (E : List Ed) (i : Nat) : Int × Int := if i = 0 then (-1, -1) else (((E.getD (i - 1) (0, 0, 0)).1 : Int), ((E.getD (i - 1) (0, 0, 0)).2.1 : Int))
theorem lexAt_pair (u v a b : Int) : Ob.lexAt (fun j => decide (([u, v] : List Int).getD j 0 = ([a, b] : List Int).getD j 0)) (fun j => decide (([u, v] : List Int).getD j 0 ≤ ([a, b] : List Int).getD j 0)) (decide (([u, v] : List Int).length ≤ ([a, b] : List Int).length)) 0 (min ([u, v] : List Int).length ([a, b] : List Int).length)
    = decide (u < a ∨ (u = a ∧ v ≤ b)) := by
  have e : min ([u, v] : List Int).length ([a, b] : List Int).length = 2 := rfl
  rw [e, Ob.lexAt_succ, Ob.lexAt_succ, Ob.lexAt_zero]
  show (if decide (u = a) = true then (if decide (v = b) = true then decide (2 ≤ 2) else decide (v ≤ b)) else decide (u ≤ a)) = _
  by_cases h1 : u = a
  · rw [if_pos (decide_eq_true h1)]
    by_cases h2 : v = b
    · rw [if_pos (decide_eq_true h2)]
      exact (decide_eq_true (.inr ⟨h1, by omega⟩)).symm
    · rw [if_neg (by simpa using h2)]
      by_cases h3 : v ≤ b
      · rw [decide_eq_true h3]
        exact (decide_eq_true (.inr ⟨h1, h3⟩)).symm
      · rw [decide_eq_false h3]
        exact (decide_eq_false (by omega)).symm
  · rw [if_neg (by simpa using h1)]
    by_cases h3 : u ≤ a
    · rw [decide_eq_true h3]
      exact (decide_eq_true (.inl (by omega))).symm
    · rw [decide_eq_false h3]
      exact (decide_eq_false (by omega)).symm
theorem prev_lt {n : Nat} {E : List Ed} (ok : EdsOk n E) {i : Nat} {e : Ed} (h : E[i]? = some e) : ¬ ((e.1 : Int) < (prevE E i).1 ∨ ((e.1 : Int) = (prevE E i).1 ∧ (e.2.1 : Int) ≤ (prevE E i).2)) := by
  unfold prevE
  by_cases h0 : i = 0
  · rw [if_pos h0]
    show ¬ ((e.1 : Int) < -1 ∨ ((e.1 : Int) = -1 ∧ (e.2.1 : Int) ≤ -1))
    omega
  · rw [if_neg h0]
    obtain ⟨hi, he⟩ := List.getElem?_eq_some_iff.mp h
    have hj : i - 1 < E.length := by omega
    have lt := List.pairwise_iff_getElem.mp ok.asc (i - 1) i hj hi (by omega)
    rw [he] at lt
    have eg : E.getD (i - 1) (0, 0, 0) = E[i - 1] := by
      rw [List.getD_eq_getElem?_getD, List.getElem?_eq_getElem hj]
      rfl
    rw [eg]
    generalize E[i - 1] = d at lt
    show ¬ ((e.1 : Int) < (d.1 : Int) ∨ ((e.1 : Int) = (d.1 : Int) ∧ (e.2.1 : Int) ≤ (d.2.1 : Int)))
    rcases lt with lt | lt <;> omega
theorem prev_succ {E : List Ed} {i : Nat} {e : Ed} (h : E[i]? = some e) : prevE E (i + 1) = ((e.1 : Int), (e.2.1 : Int)) := by
  unfold prevE
  rw [if_neg (by omega)]
  have eg : E.getD (i + 1 - 1) (0, 0, 0) = e := by
    rw [List.getD_eq_getElem?_getD, Nat.add_sub_cancel, h]
    rfl
  rw [eg]
section
variable {P : Program} {w : World} {K : PySem.W.Frag} {mg : Str → Option Value} {base : Heap}
structure Consts (mg : Str → Option Value) : Prop where
  mv : ∃ t, mg "MOST_VERTICES" = some (.int 12 t)
  me : ∃ t, mg "MOST_EDGES" = some (.int 24 t)
  gr : ∃ t, mg "GREATEST" = some (.int 9 t)
structure Blt (mg : Str → Option Value) : Prop where
  len : mg "len" = none
  all : mg "all" = none
  abs : mg "abs" = none
  tuple : mg "tuple" = none
  sorted : mg "sorted" = none
  range : mg "range" = none
  sum : mg "sum" = none
  zip : mg "zip" = none
  int : mg "int" = none
  isinstance : mg "isinstance" = none
  bool : mg "bool" = none
theorem ok_init {f C : Addr} {fd : FuncData} (F : Fun K "__init__" "Spins.__init__" sInit f fd) (T : Txt K C) (B : Blt mg) (Z : Consts mg) : FnOk P w K mg base CX0 1 f fd ["self", "fields", "edges"] (spInit K C) := by
  refine F.ok scInit (fun vs H Q E h => ?_) (fun cdv A outer s H vs Q E hr h => ?_)
  · obtain ⟨p, dx, f, e, n, xs, E, rfl, _⟩ := h
    rfl
  · obtain ⟨p, dx, fa, ea, n, xs, E, rfl, hp, hf, he, hE, n1, n12, ok, q⟩ := h
    obtain ⟨t1, mv⟩ := Z.mv
    obtain ⟨t2, me⟩ := Z.me
    obtain ⟨t3, gr⟩ := Z.gr
    have hu := hu_of hr
    refine ⟨_, pss_cons (ps_if (PW.pt (pw_or (pt_cmpR op_lt (pe_callB call_len_seq (by rfl) B.len PySem.boot_len (pa_cons (pv 1) pa_nil)) pe_int (nomark _))
          (pw_or (pt_cmpR op_gt (pe_callB call_len_seq (by rfl) B.len PySem.boot_len (pa_cons (pv 1) pa_nil)) (pe_glob (v := .int 12) (by rfl) mv ⟨t1, rfl⟩) (nomark _))
          (pw_or1 (pt_cmpR op_gt (pe_callB call_len_seq (by rfl) B.len PySem.boot_len (pa_cons (pv 2) pa_nil)) (pe_glob (v := .int 24) (by rfl) me ⟨t2, rfl⟩) (nomark _))))))
        (pss_one ps_never) pss_nil)
      (pss_cons (ps_if (pt_not (pt_val (pe_callB (cr_all rfl) (by rfl) B.all (by decide +kernel) (pa_cons
          (pe_lc (own := [("field", 7)]) (g := gName 7) rfl scInit.nd (pi_list (pv 1)) (blkOk_by (N := ["self", "fields", "edges", "before", "u", "v", "coupling", "field"]) (sc := defScope sInit) (own := [("field", 7)]) (by decide +kernel))
            (fun _ _ _ _ _ => pg_name (i := 7) scInit.nd rfl (.inl rfl)) (fun _ _ _ _ _ => pts_nil)
            (fun _ _ _ _ _ => pe_chain op_le op_le (pe_un un_neg (pe_glob (v := .int 9) (by rfl) gr ⟨t3, rfl⟩)) (pv 7) (pe_glob (v := .int 9) (by rfl) gr ⟨t3, rfl⟩)))
          pa_nil)))) (pss_one ps_never) pss_nil)
      (pss_cons (ps_set (i := 3) scInit.nd rfl (.inl rfl) (pe_tup (pa_cons (pe_un un_neg pe_int) (pa_cons (pe_un un_neg pe_int) pa_nil))))
      (pss_cons (ps_for PassesOwn.never rfl (pi_list (pv 2)) (pg_tup rfl (pgs_cons (pg_name (i := 4) scInit.nd rfl (.inl rfl)) (pgs_cons (pg_name (i := 5) scInit.nd rfl (.inl rfl)) (pgs_cons (pg_name (i := 6) scInit.nd rfl (.inl rfl)) pgs_nil))))
        (pss_cons (ps_if (PW.pt (pw_or (pt_cmpR op_lt (pv 4) pe_int (nomark _)) (pw_or (pt_cmpR op_ge (pv 4) (pv 5) (nomark _))
            (pw_or (pt_cmpR op_ge (pv 5) (pe_callB call_len_seq (by rfl) B.len PySem.boot_len (pa_cons (pv 1) pa_nil)) (nomark _))
            (pw_or1 (pt_cmpR (op_leT hr.units0) (pe_tup (pa_cons (pv 4) (pa_cons (pv 5) pa_nil))) (pv 3) (nomark _)))))))
          (pss_one ps_never) pss_nil)
        (pss_cons (ps_if (PW.pt (pw_or (pt_cmpR op_eq (pv 6) pe_int (nomark _)) (pw_or1 (pt_cmpR op_gt (pe_callB call_abs (by rfl) B.abs (by decide +kernel) (pa_cons (pv 6) pa_nil)) (pe_glob (v := .int 9) (by rfl) gr ⟨t3, rfl⟩) (nomark _)))))
          (pss_one ps_never) pss_nil)
        (pss_one (ps_set (i := 3) scInit.nd rfl (.inl rfl) (pe_tup (pa_cons (pv 4) (pa_cons (pv 5) pa_nil))))))))
      (pss_cons (ps_fld (pv 0) (pe_callTy call_tuple_of (by rfl) B.tuple (by decide +kernel) (pa_cons (pv 1) pa_nil)) rfl)
      (pss_one (ps_fld (pv 0) (pe_callTy call_tuple_of (by rfl) B.tuple (by decide +kernel) (pa_cons
          (pe_lc (own := [("u", 4), ("v", 5), ("coupling", 6)]) (g := gTup K 3 (gCons (gName 4) (gCons (gName 5) (gCons (gName 6) gNil)))) rfl scInit.nd (pi_list (pv 2)) (blkOk_by (N := ["self", "fields", "edges", "before", "u", "v", "coupling", "field"]) (sc := defScope sInit) (own := [("u", 4), ("v", 5), ("coupling", 6)]) (by decide +kernel))
            (fun _ _ _ _ _ => pg_tup rfl (pgs_cons (pg_name (i := 4) scInit.nd rfl (.inl rfl)) (pgs_cons (pg_name (i := 5) scInit.nd rfl (.inl rfl)) (pgs_cons (pg_name (i := 6) scInit.nd rfl (.inl rfl)) pgs_nil)))) (fun _ _ _ _ _ => pts_nil)
            (fun _ _ _ _ _ => pe_tup (pa_cons (pv 4) (pa_cons (pv 5) (pa_cons (pv 6) pa_nil)))))
          pa_nil)) rfl)))))), ?_⟩
    have hln : ((zeros n).length : Int) = n := by
      unfold zeros
      rw [List.length_replicate]
    have hle : xs.length = E.length := hE.length
    have hl24 := ok.len
    -- len(fields) < 1 or ..
    refine ⟨_, rfl, fa, _, rfl, .inl hf, _, _, rfl, rfl, _, rfl, ?_⟩
    rw [hln, decide_eq_false (show ¬ (n : Int) < 1 by omega)]
    refine iteF ?_
    refine ⟨_, rfl, fa, _, rfl, .inl hf, _, _, rfl, rfl, _, rfl, ?_⟩
    rw [hln, decide_eq_false (show ¬ (12 : Int) < (n : Int) by omega)]
    refine iteF ?_
    refine ⟨_, rfl, ea, _, rfl, .inl he, _, _, rfl, rfl, _, rfl, ?_⟩
    rw [decide_eq_false (show ¬ (24 : Int) < (xs.length : Int) by omega)]
    refine iteF ?_
    -- not all(..)
    refine ⟨_, rfl, fa, rfl, ⟨_, hf⟩, fun D nD => ?_⟩
    refine lc_list (K := K) (a := fa) (xs := zeros n) (fun i H2 => Same H H2 ∧ H2 D = some (.lst ((List.replicate i true).map V.bl)) ∧ i ≤ n)
      ⟨same_new nD, upd_same, Nat.zero_le _⟩ (fun i H2 _ ⟨s2, _⟩ => s2.seq hf) ?_ ?_
    · rintro i x H2 hi ⟨s2, hD, hin⟩
      have hil : i < n := by
        have h := (List.getElem?_eq_some_iff.mp hi).1
        unfold zeros at h
        rw [List.length_replicate] at h
        exact h
      have ex : x = .int 0 := by
        unfold zeros at hi
        rw [List.getElem?_replicate, if_pos hil] at hi
        exact (Option.some.inj hi).symm
      subst ex
      refine ⟨rfl, yes_of ?_⟩
      refine iteT ?_
      refine ⟨_, rfl, _, rfl, _, _, rfl, rfl, _, rfl, ?_⟩
      refine iteT ?_
      refine ⟨_, _, rfl, rfl, _, hD, ?_, same_own s2 nD, ?_, hil⟩
      · rw [List.length_map, List.length_replicate]
        exact small1000 (by omega)
      · rw [upd_same, List.replicate_succ', List.map_append]
        rfl
    rintro H1 ⟨s1, hD, _⟩
    have hall : (List.replicate (zeros n).length true).all id = true := by
      rw [List.all_eq_true]
      intro b hb
      exact (List.eq_of_mem_replicate hb)
    refine ⟨D, _, rfl, .inl (.inl hD), _, rfl, ?_⟩
    rw [hall]
    refine iteF ?_
    -- before = (-1, -1)
    refine ⟨_, rfl, _, rfl, by show 2 ≤ sizeLine; decide, fun tb ntb => ?_⟩
    -- for u, v, coupling in edges
    have s2 : Same H (upd H1 tb (.tup [.int (-1), .int (-1)])) := s1.trans (same_new ntb)
    refine ⟨_, rfl, ea, rfl, ⟨_, s2.seq he⟩, for_list (K := K) (a := ea) (xs := xs) (fun i σ H3 => ∃ (bv v4 v5 v6 : Option V) (ta : Addr), σ = [some (.ref p), some (.ref fa), some (.ref ea), bv, v4, v5, v6, none] ∧ bv = some (.ref ta) ∧ Same H H3 ∧ H3 ta = some (.tup [.int (prevE E i).1, .int (prevE E i).2]))
      ⟨_, none, none, none, tb, rfl, rfl, s2, upd_same⟩ (fun i σ H3 _ ⟨_, _, _, _, _, _, _, s3, _⟩ => s3.seq he) ?_ ?_⟩
    · rintro i x σ H3 hi ⟨bv, v4, v5, v6, ta, rfl, rfl, s3, hta⟩
      obtain ⟨e, hei, r, rfl, hr3⟩ := paired_get (edges_keep (Same.t s3) hE) hi
      obtain ⟨k1, k2, k3, k4⟩ := ok.ok e (List.mem_of_getElem? hei)
      refine ⟨r, _, rfl, .inl (.inl hr3), rfl, _, _, rfl, _, _, rfl, _, _, rfl, rfl, ?_⟩
      refine ⟨_, rfl, _, _, rfl, rfl, _, rfl, ?_⟩
      rw [decide_eq_false (show ¬ (e.1 : Int) < 0 by omega)]
      refine iteF ?_
      refine ⟨_, rfl, _, rfl, _, _, rfl, rfl, _, rfl, ?_⟩
      rw [decide_eq_false (show ¬ (e.2.1 : Int) ≤ (e.1 : Int) by omega)]
      refine iteF ?_
      refine ⟨_, rfl, _, rfl, fa, _, rfl, .inl (s3.seq hf), _, _, rfl, rfl, _, rfl, ?_⟩
      rw [hln, decide_eq_false (show ¬ (n : Int) ≤ (e.2.1 : Int) by omega)]
      refine iteF ?_
      refine ⟨_, rfl, _, rfl, by show 2 ≤ sizeLine; decide, fun tc ntc => ?_⟩
      have s4 : Same H3 (upd H3 tc (.tup [.int (e.1 : Int), .int (e.2.1 : Int)])) := same_new ntc
      refine ⟨_, rfl, tc, ta, [(e.1 : Int), (e.2.1 : Int)], [(prevE E i).1, (prevE E i).2], rfl, rfl, .inl (.inl upd_same), .inl (.inl (s4 _ _ hta)), _, rfl, ?_⟩
      rw [lexAt_pair, decide_eq_false (prev_lt ok hei)]
      refine iteF ?_
      refine ⟨_, rfl, rfl, _, rfl, ?_⟩
      rw [decide_eq_false (show ¬ V.int (e.2.2 : Int) = V.int 0 from fun z => by have z := V.int.inj z; omega)]
      refine iteF ?_
      refine ⟨_, rfl, _, rfl, _, _, rfl, rfl, _, rfl, ?_⟩
      rw [if_neg (show ¬ (e.2.2 : Int) < 0 by omega), decide_eq_false (show ¬ (9 : Int) < (e.2.2 : Int) by omega)]
      refine iteF ?_
      refine ⟨_, rfl, _, rfl, by show 2 ≤ sizeLine; decide, fun td ntd => ?_⟩
      refine ⟨_, _, _, _, td, rfl, rfl, (s3.trans s4).trans (same_new ntd), ?_⟩
      rw [upd_same, prev_succ hei]
    · rintro σ H3 ⟨bv, v4, v5, v6, ta, rfl, rfl, s3, hta⟩
      -- self.fields = tuple(fields)
      refine ⟨_, rfl, fa, _, rfl, .inl ⟨s3.seq hf, fun tf ntf => ?_⟩⟩
      have s4 : Same H3 (upd H3 tf (.tup (zeros n))) := same_new ntf
      have hp3 : H3 p = some (.ins C dx []) := s3 _ _ hp
      refine ⟨_, rfl, p, C, dx, [], rfl, s4 _ _ hp3, T.cl, T.nF, (by show 0 < 1000; decide), ?_⟩
      have npt : p ≠ tf := ne_of_none hp3 ntf
      -- self.edges = tuple([..])
      have kL : ∀ {a : Addr} {ys : List V}, SqL K H3 a ys → SqL K (upd (upd H3 tf (.tup (zeros n))) p (.ins C dx (putF "fields" (.ref tf) []))) a ys := fun {a ys} h => by
        rcases h with (h | ⟨o, h⟩) | h
        · refine .inl (.inl ?_)
          rw [upd_ne (ne_of h hp3 (by intro z; cases z))]
          exact s4 _ _ h
        · refine .inl (.inr ⟨o, ?_⟩)
          rw [upd_ne (ne_of h hp3 (by intro z; cases z))]
          exact s4 _ _ h
        · exact .inr h
      refine ⟨_, rfl, ea, rfl, ⟨_, kL (s3.seq he)⟩, fun D2 nD2 => ?_⟩
      -- what stands ahead of the comprehension
      have hp5 : (upd (upd H3 tf (.tup (zeros n))) p (.ins C dx (putF "fields" (.ref tf) []))) p = some (.ins C dx (putF "fields" (.ref tf) [])) := upd_same
      have htf5 : (upd (upd H3 tf (.tup (zeros n))) p (.ins C dx (putF "fields" (.ref tf) []))) tf = some (.tup (zeros n)) := by
        rw [upd_ne npt.symm]
        exact upd_same
      have st5 : SameT H3 (upd (upd H3 tf (.tup (zeros n))) p (.ins C dx (putF "fields" (.ref tf) []))) := fun b ys hb => by
        rw [upd_ne (ne_of hb hp3 (by intro z; cases z))]
        exact s4 _ _ hb
      have k5 : ∀ b o, H b = some o → b ≠ p → (upd (upd H3 tf (.tup (zeros n))) p (.ins C dx (putF "fields" (.ref tf) []))) b = some o := fun b o hb hbp => by
        rw [upd_ne hbp]
        exact s4 _ _ (s3 _ _ hb)
      have he5 : SqL K (upd (upd H3 tf (.tup (zeros n))) p (.ins C dx (putF "fields" (.ref tf) []))) ea xs := kL (s3.seq he)
      have hE5 : Edges (upd (upd H3 tf (.tup (zeros n))) p (.ins C dx (putF "fields" (.ref tf) []))) xs E := edges_keep st5 (edges_keep (Same.t s3) hE)
      generalize (upd (upd H3 tf (.tup (zeros n))) p (.ins C dx (putF "fields" (.ref tf) []))) = H5 at *
      refine lc_list (K := K) (a := ea) (xs := xs) (fun i H6 => Same H5 H6 ∧ ∃ acc, H6 D2 = some (.lst acc) ∧ Edges H6 acc (E.take i))
        ⟨same_new nD2, [], upd_same, .nil⟩ (fun i H6 _ ⟨s6, _⟩ => s6.seq he5) ?_ ?_
      · rintro i x H6 hi ⟨s6, acc, hD6, hacc⟩
        obtain ⟨e, hei, r, rfl, hr6⟩ := paired_get (edges_keep (Same.t s6) hE5) hi
        have hil : i < E.length := (List.getElem?_eq_some_iff.mp hei).1
        refine ⟨r, _, rfl, .inl (.inl hr6), rfl, _, _, rfl, _, _, rfl, _, _, rfl, rfl, ?_⟩
        refine ⟨rfl, yes_of ?_⟩
        refine iteT ?_
        refine ⟨_, rfl, _, rfl, _, rfl, by show 3 ≤ sizeLine; decide, fun t nt => ?_⟩
        have ntD : D2 ≠ t := ne_of_none hD6 nt
        have hD7 : (upd H6 t (.tup [.int (e.1 : Int), .int (e.2.1 : Int), .int (e.2.2 : Int)])) D2 = some (.lst acc) := by
          rw [upd_ne ntD]
          exact hD6
        have hal : acc.length = i := by
          rw [hacc.length, List.length_take]
          omega
        have k1 : SameT H6 (upd H6 t (.tup [.int (e.1 : Int), .int (e.2.1 : Int), .int (e.2.2 : Int)])) := Same.t (same_new nt)
        have k2 := sameT_lst (o := .lst (acc ++ [.ref t])) hD7
        refine ⟨acc, hD7, small1000 (by omega), same_own (s6.trans (same_new nt)) nD2, acc ++ [.ref t], upd_same, ?_⟩
        rw [List.take_add_one, hei]
        exact Paired.snoc (edges_keep (sameT_trans k1 k2) hacc) ⟨t, rfl, k2 _ _ upd_same⟩
      · rintro H6 ⟨s6, acc, hD6, hacc⟩
        have eE : E.take xs.length = E := List.take_of_length_le (by omega)
        rw [eE] at hacc
        refine ⟨D2, acc, rfl, .inl ⟨.inl (.inl hD6), fun te nte => ?_⟩⟩
        have s7 : Same H6 (upd H6 te (.tup acc)) := same_new nte
        have hp6 : H6 p = some (.ins C dx (putF "fields" (.ref tf) [])) := s6 _ _ hp5
        refine ⟨_, rfl, p, C, dx, _, rfl, s7 _ _ hp6, T.cl, T.nE, (by show 1 < 1000; decide), ?_⟩
        have npe : p ≠ te := ne_of_none hp6 nte
        have htf6 : H6 tf = some (.tup (zeros n)) := s6 _ _ htf5
        have st8 : SameT H6 (upd (upd H6 te (.tup acc)) p (.ins C dx (putF "edges" (.ref te) (putF "fields" (.ref tf) [])))) := fun b ys hb => by
          rw [upd_ne (ne_of hb hp6 (by intro z; cases z))]
          exact s7 _ _ hb
        refine q _ ⟨dx, tf, te, acc, upd_same, st8 _ _ htf6, ?_, edges_keep st8 hacc⟩ fun b o hb hbp => ?_
        · rw [upd_ne npe.symm]
          exact upd_same
        · rw [upd_ne hbp]
          exact s7 _ _ (s6 _ _ (k5 b o hb hbp))
end
end K42
namespace K42
open PySem L2 PyProof.Rows
/-! ### sum of a tuple -/
def rSumT (K : PySem.W.Frag) : List V → Hp → VK → Prop := fun vs H Q => ∃ (a : Addr) (ns : List Int), vs = [V.ref a] ∧ SqT K H a (ns.map V.int) ∧ Q (.int ns.sum) H
section
variable {X : Cx}
theorem cr_sumT (hc : X.calm = true) : CallR X (.builtin "sum") (rSumT X.K) := by
  intro pins s σ H vs us Q I r h
  obtain ⟨a, ns, rfl, hs, q⟩ := h
  obtain ⟨its, rv, hl, _⟩ := I.tuple hs
  rw [Vals.ref1 r]
  have hi := rv.ints
  obtain ⟨xs, e⟩ := hi.allInts.items
  have hn : numsOf (intItems xs).toList = ns := by rw [← e]; exact hi.numsOf
  rw [nums_intItems] at hn
  rw [e] at hl
  refine PySem.W.ktm_sumG (I.ok.hd hc) (show s.heap.IsTuple a (intItems xs) from hl) fun h' tk t' hk => ?_
  rw [preSum_eq, List.take_of_length_le (by simp), hn]
  exact ⟨.int _, H, I.kept hk, ⟨_, rfl⟩, q⟩
end
/-! ### a loop over a walk, the body open -/
theorem it_run {J : It} {n : Nat} {G : Hp → Prop} {Y : Nat → Hp → V → Hp → Prop} (w : Walk J n G Y) {H0 : Hp} {Q : Hp → Prop} {B : V → Hp → (Hp → Prop) → Prop} (Pv : Nat → Hp → Prop) (h0 : Pv 0 H0) (hG : ∀ i H, i ≤ n → Pv i H → G H)
    (hs : ∀ i x H H', i < n → Pv i H → Y i H x H' → B x H' (Pv (i + 1))) (hd : ∀ H, Pv n H → Q H) :
    ∃ W : Nat → Nat → Hp → Prop, (∃ m, W 0 m H0) ∧ ∀ i m H, W i m H → (J.stop i H ∧ Q H) ∨ (J.go i H ∧ ∃ Nx : Hp → Prop, (∀ H', Nx H' → ∃ m', m' < m ∧ W (i + 1) m' H') ∧ ∀ x H', J.yld i H x H' → B x H' Nx) := by
  refine ⟨fun i m H => m = n - i ∧ i ≤ n ∧ Pv i H, ⟨n, by simp, Nat.zero_le _, h0⟩, ?_⟩
  rintro i m H ⟨rfl, hi, p⟩
  have q := hG i H hi p
  by_cases hlt : i < n
  · exact .inr ⟨w.goes i H hlt q, Pv (i + 1), fun H' p' => ⟨n - (i + 1), by omega, rfl, hlt, p'⟩, fun x H' y => hs i x H H' hlt p (w.yields i H x H' hlt q y)⟩
  · have e : i = n := by omega
    subst e
    exact .inl ⟨w.stops H q, hd H p⟩
theorem walk_zipT {K : PySem.W.Frag} {a b : Addr} {xs ys : List V} {n : Nat} (hn : n = min xs.length ys.length) : Walk (RZ.ItzT K a b) n (fun H => SqT K H a xs ∧ SqT K H b ys) (YPair (fun i => xs[i]?) (fun i => ys[i]?)) := by
  subst hn
  refine ⟨fun i _ hi q => ?_, fun _ q => ⟨xs, ys, q.1, q.2, by omega⟩, fun i H v H' _ q y => ?_⟩
  · have h1 : i < xs.length := by omega
    have h2 : i < ys.length := by omega
    exact ⟨xs, ys, xs[i], ys[i], q.1, q.2, by simp [h1], by simp [h2]⟩
  · obtain ⟨T, x, z, h1, h2, h3, h4, h5⟩ := y
    exact ⟨T, x, z, h1, h2, h3, h4 xs q.1, h5 ys q.2⟩
/-! ### states in the heap -/
def bV (b : Bool) : V := .int (if b = true then 1 else 0)
def stV (s : List Bool) : List V := s.map bV
def StAt (H : Hp) (x : V) (s : List Bool) : Prop := ∃ r, x = .ref r ∧ H r = some (.tup (stV s))
theorem StAt.keep {H H' : Hp} {x : V} {t : List Bool} (s : SameT H H') (h : StAt H x t) : StAt H' x t := by
  obtain ⟨r, e, h1⟩ := h
  exact ⟨r, e, s _ _ h1⟩
abbrev States (H : Hp) (xs : List V) (l : List (List Bool)) : Prop := Paired (StAt H) xs l
theorem states_keep {H H' : Hp} {xs : List V} {l : List (List Bool)} (s : SameT H H') (h : States H xs l) : States H' xs l := h.mono fun _ _ q => q.keep s
def two (s : List Bool) : List (List Bool) := [s ++ [false], s ++ [true]]
theorem sts_two (n : Nat) : sts (n + 1) = (sts n).flatMap two := rfl
theorem flat_succ {l : List (List Bool)} {i : Nat} {s : List Bool} (h : l[i]? = some s) : (l.take (i + 1)).flatMap two = (l.take i).flatMap two ++ two s := by
  rw [List.take_add_one, h, List.flatMap_append]
  simp
theorem flat_len (l : List (List Bool)) : (l.flatMap two).length = 2 * l.length := by
  rw [List.length_flatMap]
  have e : l.map (fun s => (two s).length) = l.map fun _ => 2 := rfl
  rw [e, List.map_const', List.sum_replicate_nat, Nat.mul_comm]
theorem stV_len (s : List Bool) : (stV s).length = s.length := List.length_map _
section
variable {P : Program} {w : World} {K : PySem.W.Frag} {mg : Str → Option Value} {base : Heap}
/-! ### states_of, all_states -/
def spStatesOf : Sp := fun vs H Q _ => ∃ n : Nat, vs = [.int (n : Int)] ∧ n ≤ 5 ∧ ∀ o xs H', Same H H' → H' o = some (.lst xs) → States H' xs (sts n) → Q (.ref o) H'
theorem scStatesOf : FnScope ["count", "found", "_", "state", "spin"] ["count"] (defScope sStatesOf) := ⟨rfl, rfl, rfl, by decide +kernel, rfl, by decide +kernel, by decide +kernel⟩
theorem sts_small {i n : Nat} (hi : i ≤ n) (hn : n ≤ 5) : (sts i).length ≤ 32 := by
  rw [sts_count]
  exact Nat.le_trans (Nat.pow_le_pow_right (by decide) (Nat.le_trans hi hn)) (by decide)
theorem ok_statesOf {f : Addr} {fd : FuncData} (F : Fun K "states_of" "states_of" sStatesOf f fd) (B : Blt mg) : FnOk P w K mg base CX0 1 f fd ["count"] spStatesOf := by
  refine F.ok scStatesOf (fun vs H Q E h => ?_) (fun cdv A outer s H vs Q E hr h => ?_)
  · obtain ⟨n, rfl, _⟩ := h
    rfl
  · obtain ⟨n, rfl, n5, q⟩ := h
    refine ⟨_, pss_cons (ps_set (i := 1) scStatesOf.nd rfl (.inl rfl) (pe_lst (pa_cons (pe_tup pa_nil) pa_nil)))
      (pss_cons (ps_for PassesOwn.never rfl (pi_range1 (by rfl) B.range (pa_cons (pv 0) pa_nil)) (pg_name (i := 2) scStatesOf.nd rfl (.inl rfl))
        (pss_one (ps_setLc2 (i := 1) (own := [("state", 3), ("spin", 4)]) (vs1 := [4]) (g := gName 3) (g1 := gName 4) (te := tOp (rCatA K) (tVar 3) (tTup (tCons (tVar 4) tNil))) (wi1 := iTup K (tTup (tCons (tC (.int 0)) (tCons (tC (.int 1)) tNil)))) rfl scStatesOf.nd rfl rfl (sw_true rfl rfl rfl (by decide +kernel)) (pi_list (pv 1))
          (blkOk_by (N := ["count", "found", "_", "state", "spin"]) (sc := defScope sStatesOf) (own := [("state", 3), ("spin", 4)]) (by decide +kernel)) (by decide)
          (fun _ _ _ _ _ => pg_name (i := 3) scStatesOf.nd rfl (.inl rfl)) (fun _ _ _ _ _ => pts_nil)
          (fun _ _ _ _ _ => pi_tup (pe_tup (pa_cons pe_int (pa_cons pe_int pa_nil))))
          (fun _ _ _ _ _ => pg_name (i := 4) scStatesOf.nd rfl (.inl rfl)) (fun _ _ _ _ _ => pts_nil)
          (fun _ _ _ _ _ => pe_op op_catA (pv 3) (pe_tup (pa_cons (pv 4) pa_nil))))))
      (pss_one (ps_ret (pv 1)))), ?_⟩
    -- found = [()]
    refine ⟨Nat.zero_le _, fun t nt => ⟨by show 1 ≤ sizeLine; decide, fun o no => ?_⟩⟩
    have s1 : Same H (upd (upd H t (.tup [])) o (.lst [.ref t])) := (same_new nt).trans (same_new no)
    have hto : t ≠ o := fun e => by
      rw [← e, upd_same] at no
      cases no
    refine ⟨_, rfl, (n : Int), rfl, by omega, by omega, ?_⟩
    rw [Int.toNat_natCast]
    refine for_range (lo := 0) (n := n) (fun i σ H2 => ∃ v2 r xs, σ = [some (.int (n : Int)), some (.ref r), v2, none, none] ∧ Same H H2 ∧ H2 r = some (.lst xs) ∧ States H2 xs (sts i))
      ⟨none, o, _, rfl, s1, upd_same, .cons ⟨t, rfl, by rw [upd_ne hto]; exact upd_same⟩ .nil⟩ ?_ ?_
    · rintro i σ H2 hi ⟨v2, r, xs, rfl, s2, hr2, hst⟩
      have hlx : xs.length = (sts i).length := hst.length
      have h32 := sts_small (Nat.le_of_lt hi) n5
      refine ⟨_, rfl, r, rfl, ⟨_, .inl (.inl hr2)⟩, fun D nD => ?_⟩
      have nDr : r ≠ D := ne_of_none hr2 nD
      refine it_run (walk_list (K := K) (a := r) (xs := xs)) (fun j H3 => Same H2 H3 ∧ ∃ acc, H3 D = some (.lst acc) ∧ States H3 acc (((sts i).take j).flatMap two))
        ⟨same_new nD, [], upd_same, .nil⟩ (fun j H3 _ ⟨s3, _⟩ => .inl (.inl (s3 _ _ hr2))) ?_ ?_
      · rintro j x H3 H3' hj ⟨s3, acc, hD3, hacc⟩ ⟨rfl, hx⟩
        obtain ⟨st, hsj, r', rfl, hr'⟩ := paired_get (states_keep (Same.t s3) hst) hx
        refine ⟨rfl, yes_of ?_⟩
        refine iteT ?_
        -- for spin in (0, 1)
        refine ⟨by show 2 ≤ sizeLine; decide, fun tt ntt => ⟨tt, rfl, ⟨_, .inl (.inl upd_same)⟩, ?_⟩⟩
        have s4 : Same H3' (upd H3' tt (.tup [.int 0, .int 1])) := same_new ntt
        have htt : (upd H3' tt (.tup [.int 0, .int 1])) tt = some (.tup [.int 0, .int 1]) := upd_same
        have hD4 := s4 _ _ hD3
        have hacc4 := states_keep (Same.t s4) hacc
        have hr4 := s4 _ _ hr'
        have s24 := s3.trans s4
        generalize upd H3' tt (.tup [.int 0, .int 1]) = H4 at *
        refine it_run (walk_tup (K := K) (a := tt) (xs := [.int 0, .int 1])) (fun k H5 => Same H2 H5 ∧ H5 tt = some (.tup [.int 0, .int 1]) ∧ H5 r' = some (.tup (stV st)) ∧ ∃ acc, H5 D = some (.lst acc) ∧ States H5 acc (((sts i).take j).flatMap two ++ (two st).take k))
          ⟨s24, htt, hr4, acc, hD4, by rw [List.take_zero, List.append_nil]; exact hacc4⟩ (fun k H5 _ ⟨_, h5, _⟩ => .inl (.inl h5)) ?_ ?_
        · rintro k y H5 H5' hk ⟨s5, htt5, hr5, acc5, hD5, hacc5⟩ ⟨rfl, hy⟩
          refine ⟨rfl, yes_of ?_⟩
          refine iteT ?_
          have hk2 : k < 2 := hk
          obtain ⟨b, rfl, hb⟩ : ∃ b, y = bV b ∧ (two st)[k]? = some (st ++ [b]) := by
            have hk3 : k = 0 ∨ k = 1 := by omega
            rcases hk3 with rfl | rfl
            · exact ⟨false, (Option.some.inj hy).symm, rfl⟩
            · exact ⟨true, (Option.some.inj hy).symm, rfl⟩
          have hal : acc5.length < 1000 := by
            rw [hacc5.length, List.length_append, flat_len, List.length_take, List.length_take]
            have : (two st).length = 2 := rfl
            omega
          have hsl : (stV st).length ≤ 5 := by
            rw [stV_len, sts_len (List.mem_of_getElem? hsj)]
            omega
          refine ⟨_, rfl, _, rfl, by show 1 ≤ sizeLine; decide, fun t1 nt1 => ?_⟩
          have s6 : Same H5' (upd H5' t1 (.tup [bV b])) := same_new nt1
          have ht1 : (upd H5' t1 (.tup [bV b])) t1 = some (.tup [bV b]) := upd_same
          have s56 := s5.trans s6
          have htt6 := s6 _ _ htt5
          have hr6 := s6 _ _ hr5
          have hD6 := s6 _ _ hD5
          have hacc6 := states_keep (Same.t s6) hacc5
          generalize upd H5' t1 (.tup [bV b]) = H6 at *
          -- the end of a turn, whatever the new tuple is
          have fin : ∀ t2 H7, Same H6 H7 → H7 t2 = some (.tup (stV (st ++ [b]))) → ∃ acc, H7 D = some (.lst acc) ∧ acc.length < sizeLine ∧ (Same H2 (upd H7 D (.lst (acc ++ [.ref t2]))) ∧ (upd H7 D (.lst (acc ++ [.ref t2]))) tt = some (.tup [.int 0, .int 1]) ∧ (upd H7 D (.lst (acc ++ [.ref t2]))) r' = some (.tup (stV st)) ∧
              ∃ acc', (upd H7 D (.lst (acc ++ [.ref t2]))) D = some (.lst acc') ∧ States (upd H7 D (.lst (acc ++ [.ref t2]))) acc' (((sts i).take j).flatMap two ++ (two st).take (k + 1))) := fun t2 H7 s7 ht2 => by
            have hD7 := s7 _ _ hD6
            have k7 := sameT_lst (o := .lst (acc5 ++ [.ref t2])) hD7
            refine ⟨acc5, hD7, small1000 (by omega), same_own (s56.trans s7) nD, k7 _ _ (s7 _ _ htt6), k7 _ _ (s7 _ _ hr6), _, upd_same, ?_⟩
            rw [List.take_add_one, hb, ← List.append_assoc]
            exact Paired.snoc (states_keep k7 (states_keep (Same.t s7) hacc6)) ⟨t2, rfl, k7 _ _ ht2⟩
          refine ⟨r', t1, stV st, [bV b], rfl, rfl, .inl (.inl hr6), .inl (.inl ht1), by show (stV st).length + 1 ≤ sizeLine; exact Nat.le_of_lt (small1000 (by omega)), fun e0 => ?_, fun _ e1 => absurd e1 (by simp), fun _ _ t2 nt2 => ?_⟩
          · refine fin t1 H6 (Same.refl _) ?_
            have e1 : st = [] := by
              cases st with
              | nil => rfl
              | cons z zs => exact nomatch e0
            rw [e1]
            exact ht1
          · refine fin t2 _ (same_new nt2) ?_
            rw [upd_same]
            unfold stV
            rw [List.map_append]
            all_goals rfl
        · rintro H5 ⟨s5, _, _, acc5, hD5, hacc5⟩
          refine ⟨s5, acc5, hD5, ?_⟩
          rw [flat_succ hsj]
          exact hacc5
      · rintro H3 ⟨s3, acc, hD3, hacc⟩
        refine ⟨some (.int (0 + (i : Int))), D, acc, rfl, s2.trans s3, hD3, ?_⟩
        rw [sts_two]
        rw [List.take_of_length_le (by omega)] at hacc
        exact hacc
    · rintro σ H2 ⟨v2, r, xs, rfl, s2, hr2, hst⟩
      exact ⟨_, rfl, q r xs H2 s2 hr2 hst⟩
end
end K42
namespace K42
open PySem L2 PyProof.Rows
theorem at_st {s : List Bool} {u : Nat} (h : u < s.length) : atI (stV s) (u : Int) = some (bV (s.getD u false)) := by
  refine atI_nat ?_
  unfold stV
  rw [List.getElem?_map, List.getElem?_eq_getElem h, List.getD_eq_getElem?_getD, List.getElem?_eq_getElem h]
  rfl
theorem bV_ne (a b : Bool) : (!decide (bV a = bV b)) = (a != b) := by cases a <;> cases b <;> decide
def upsOf (s : List Bool) : Nat := s.count true
theorem sum_bits : ∀ s : List Bool, (s.map fun b => if b = true then (1 : Int) else 0).sum = (upsOf s : Int)
  | [] => rfl
  | b :: s => by
    rw [List.map_cons, List.sum_cons, sum_bits s]
    unfold upsOf
    cases b
    · rw [List.count_cons_of_ne (by decide)]
      simp
    · rw [List.count_cons_self]
      simp
      omega
theorem stV_ints (s : List Bool) : stV s = (s.map fun b => if b = true then (1 : Int) else 0).map V.int := by
  unfold stV
  rw [List.map_map]
  rfl
theorem sum_zeros (n : Nat) : (List.replicate n (0 : Int)).sum = 0 := by
  induction n with
  | zero => rfl
  | succ n ih => rw [List.replicate_succ, List.sum_cons, ih]; rfl
theorem sum_cost (s : List Bool) : ∀ E : List Ed, ((E.filter (differ s)).map fun e => (e.2.2 : Int)).sum = (cost E s : Int)
  | [] => rfl
  | e :: E => by
    have ih := sum_cost s E
    show _ = (((if differ s e = true then e.2.2 else 0) + cost E s : Nat) : Int)
    cases h : differ s e
    · rw [List.filter_cons_of_neg (by simp [h]), ih]
      simp
    · rw [List.filter_cons_of_pos h, List.map_cons, List.sum_cons, ih]
      simp
section
variable {P : Program} {w : World} {K : PySem.W.Frag} {mg : Str → Option Value} {base : Heap}
/-! ### all_states -/
def spAllStates (C : Addr) : Sp := fun vs H Q _ => ∃ (p : Addr) (n : Nat) (E : List Ed), vs = [.ref p] ∧ SpinsAt C H p n E ∧ n ≤ 5 ∧ ∀ o xs H', Same H H' → H' o = some (.lst xs) → States H' xs (sts n) → Q (.ref o) H'
theorem scAllStates : FnScope ["spins"] ["spins"] (defScope sAllStates) := ⟨rfl, rfl, rfl, by decide +kernel, rfl, by decide +kernel, by decide +kernel⟩
theorem ok_allStates {f g C : Addr} {fd gd : FuncData} (F : Fun K "all_states" "all_states" sAllStates f fd) (D : Dn P w K mg base "states_of" 1 ["count"] spStatesOf g gd) (T : Txt K C) (B : Blt mg) : FnOk P w K mg base CX0 2 f fd ["spins"] (spAllStates C) := by
  refine F.ok scAllStates (fun vs H Q E h => ?_) (fun cdv A outer s H vs Q E hr h => ?_)
  · obtain ⟨p, n, E, rfl, _⟩ := h
    rfl
  · obtain ⟨p, n, E, rfl, ⟨dx, tf, te, xs, hp, htf, hte, hE⟩, n5, q⟩ := h
    refine ⟨_, pss_one (ps_ret (pe_call D.ok hr (by rfl) D.mg D.kp D.bi .nil pass0 (pa_cons (pe_callB call_len_seq (by rfl) B.len PySem.boot_len (pa_cons (pe_fld (pv 0) rfl) pa_nil)) pa_nil))), ?_⟩
    refine ⟨_, rfl, p, C, dx, _, _, rfl, hp, T.cl, T.nF, flds_fields _ _, tf, _, rfl, .inr (.inl (.inl htf)), ?_⟩
    have e : ((zeros n).length : Int) = (n : Int) := by
      unfold zeros
      rw [List.length_replicate]
    rw [e]
    exact ⟨n, rfl, n5, q⟩
/-! ### cost, ups -/
def spCost (C : Addr) : Sp := fun vs H Q _ => ∃ (p r : Addr) (n : Nat) (E : List Ed) (st : List Bool), vs = [.ref p, .ref r] ∧ SpinsAt C H p n E ∧ H r = some (.tup (stV st)) ∧ st.length = n ∧ n ≤ 12 ∧ EdsOk n E ∧ ∀ H', Same H H' → Q (.int (cost E st : Int)) H'
theorem scCost : FnScope ["spins", "state", "paid", "field", "spin", "u", "v", "coupling"] ["spins", "state"] (defScope sCost) := ⟨rfl, rfl, rfl, by decide +kernel, rfl, by decide +kernel, by decide +kernel⟩
theorem ok_cost {f C : Addr} {fd : FuncData} (F : Fun K "cost" "cost" sCost f fd) (T : Txt K C) (B : Blt mg) : FnOk P w K mg base CX0 1 f fd ["spins", "state"] (spCost C) := by
  refine F.ok scCost (fun vs H Q E h => ?_) (fun cdv A outer s H vs Q E hr h => ?_)
  · obtain ⟨p, r, n, E, st, rfl, _⟩ := h
    rfl
  · obtain ⟨p, r, n, E, st, rfl, ⟨dx, tf, te, xs, hp, htf, hte, hE⟩, hst, hsl, n12, ok, q⟩ := h
    refine ⟨_, pss_cons (ps_set (i := 2) scCost.nd rfl (.inl rfl) (pe_callB (cr_sum rfl) (by rfl) B.sum (by decide +kernel) (pa_cons
        (pe_lc (own := [("field", 3), ("spin", 4)]) (g := gTup K 2 (gCons (gName 3) (gCons (gName 4) gNil))) rfl scCost.nd (RZ.pi_zipA (by rfl) B.zip (pa_cons (pe_fld (pv 0) rfl) (pa_cons (pv 1) pa_nil)))
          (blkOk_by (N := ["spins", "state", "paid", "field", "spin", "u", "v", "coupling"]) (sc := defScope sCost) (own := [("field", 3), ("spin", 4)]) (by decide +kernel))
          (fun _ _ _ _ _ => pg_tup rfl (pgs_cons (pg_name (i := 3) scCost.nd rfl (.inl rfl)) (pgs_cons (pg_name (i := 4) scCost.nd rfl (.inl rfl)) pgs_nil)))
          (fun _ _ _ _ _ => pts_one (pt_cmpR op_eq (pv 4) pe_int (nomark _))) (fun _ _ _ _ _ => pv 3)) pa_nil)))
      (pss_one (ps_ret (pe_op op_add (pv 2) (pe_callB (cr_sum rfl) (by rfl) B.sum (by decide +kernel) (pa_cons
        (pe_lc (own := [("u", 5), ("v", 6), ("coupling", 7)]) (g := gTup K 3 (gCons (gName 5) (gCons (gName 6) (gCons (gName 7) gNil)))) (tt := tTest (tOp rNe (tOp (rIxT K) (tVar 1) (tVar 5)) (tOp (rIxT K) (tVar 1) (tVar 6)))) rfl scCost.nd (pi_tup (pe_fld (pv 0) rfl))
          (blkOk_by (N := ["spins", "state", "paid", "field", "spin", "u", "v", "coupling"]) (sc := defScope sCost) (own := [("u", 5), ("v", 6), ("coupling", 7)]) (by decide +kernel))
          (fun _ _ _ _ _ => pg_tup rfl (pgs_cons (pg_name (i := 5) scCost.nd rfl (.inl rfl)) (pgs_cons (pg_name (i := 6) scCost.nd rfl (.inl rfl)) (pgs_cons (pg_name (i := 7) scCost.nd rfl (.inl rfl)) pgs_nil))))
          (fun _ _ _ _ _ => pts_one (pt_cmpR op_ne (pe_ix ix_tup (pv 1) (pv 5) (fun _ _ => rfl)) (pe_ix ix_tup (pv 1) (pv 6) (fun _ _ => rfl)) (nomark _))) (fun _ _ _ _ _ => pv 7)) pa_nil))))), ?_⟩
    have hzl : (zeros n).length = n := by
      unfold zeros
      rw [List.length_replicate]
    -- the fields: all of them are 0
    refine ⟨_, rfl, p, C, dx, _, _, rfl, hp, T.cl, T.nF, flds_fields _ _, _, rfl, tf, r, zeros n, stV st, rfl, .inr ⟨.inl (.inl htf), .inl (.inl hst), fun D nD => ?_⟩⟩
    refine it_run (walk_zipT (K := K) (a := tf) (b := r) (xs := zeros n) (ys := stV st) (n := n) (by rw [hzl, stV_len, hsl, Nat.min_self])) (fun i H2 => Same H H2 ∧ ∃ k, k ≤ i ∧ H2 D = some (.lst ((List.replicate k (0 : Int)).map V.int)))
      ⟨same_new nD, 0, Nat.le_refl _, upd_same⟩ (fun i H2 _ ⟨s2, _⟩ => ⟨.inl (.inl (s2 _ _ htf)), .inl (.inl (s2 _ _ hst))⟩) ?_ ?_
    · rintro i x H2 H2' hi ⟨s2, k, hk, hD⟩ ⟨t, y1, y2, rfl, nt, rfl, g1, g2⟩
      have g1 : (zeros n)[i]? = some y1 := g1
      have g2 : (stV st)[i]? = some y2 := g2
      have e1 : y1 = .int 0 := by
        unfold zeros at g1
        rw [List.getElem?_replicate, if_pos hi] at g1
        exact (Option.some.inj g1).symm
      subst e1
      obtain ⟨b, hb, rfl⟩ : ∃ b, st[i]? = some b ∧ y2 = bV b := by
        unfold stV at g2
        rw [List.getElem?_map] at g2
        cases e : st[i]? with
        | none => rw [e] at g2; cases g2
        | some b =>
          rw [e] at g2
          exact ⟨b, rfl, (Option.some.inj g2).symm⟩
      have s3 : Same H2 (upd H2 t (.tup [.int 0, bV b])) := same_new nt
      have hD3 := s3 _ _ hD
      refine ⟨t, _, rfl, .inl (.inl upd_same), rfl, _, _, rfl, _, _, rfl, rfl, ?_⟩
      refine ⟨rfl, ?_⟩
      refine ⟨_, rfl, rfl, _, rfl, ?_⟩
      refine ite2 (fun _ => ?_) (fun _ => ?_)
      · refine ⟨_, rfl, _, hD3, ?_, same_own (s2.trans s3) nD, k + 1, Nat.succ_le_succ hk, ?_⟩
        · rw [List.length_map, List.length_replicate]
          exact small1000 (by omega)
        · rw [upd_same, List.replicate_succ', List.map_append]
          rfl
      · exact ⟨s2.trans s3, k, Nat.le_succ_of_le hk, hD3⟩
    rintro H2 ⟨s2, k, hk, hD⟩
    refine ⟨D, _, rfl, .inl (.inl hD), ?_⟩
    rw [sum_zeros]
    -- the couplings
    have hte2 := s2 _ _ hte
    refine ⟨_, rfl, _, rfl, p, C, dx, _, _, rfl, s2 _ _ hp, T.cl, T.nE, flds_edges _ _, te, rfl, ⟨_, .inl (.inl hte2)⟩, fun D2 nD2 => ?_⟩
    have hE2 := edges_keep (Same.t s2) hE
    refine it_run (walk_tup (K := K) (a := te) (xs := xs)) (fun i H3 => Same H2 H3 ∧ H3 D2 = some (.lst ((((E.take i).filter (differ st)).map fun e => (e.2.2 : Int)).map V.int)))
      ⟨same_new nD2, upd_same⟩ (fun i H3 _ ⟨s3, _⟩ => .inl (.inl (s3 _ _ hte2))) ?_ ?_
    · rintro i x H3 H3' hi ⟨s3, hD3⟩ ⟨rfl, hx⟩
      obtain ⟨e, hei, rr, rfl, hrr⟩ := paired_get (edges_keep (Same.t s3) hE2) hx
      obtain ⟨k1, k2, k3, k4⟩ := ok.ok e (List.mem_of_getElem? hei)
      have hst3 : H3' r = some (.tup (stV st)) := s3 _ _ (s2 _ _ hst)
      refine ⟨rr, _, rfl, .inl (.inl hrr), rfl, _, _, rfl, _, _, rfl, _, _, rfl, rfl, ?_⟩
      refine ⟨rfl, ?_⟩
      refine ⟨_, rfl, _, rfl, r, _, _, _, rfl, rfl, .inl (.inl hst3), at_st (by omega), _, rfl, _, rfl, r, _, _, _, rfl, rfl, .inl (.inl hst3), at_st (by omega), rfl, _, rfl, ?_⟩
      rw [bV_ne]
      have htk : E.take (i + 1) = E.take i ++ [e] := by
        rw [List.take_add_one, hei]
        rfl
      have hlen : ((((E.take i).filter (differ st)).map fun e => (e.2.2 : Int)).map V.int).length < sizeLine := by
        rw [List.length_map, List.length_map]
        refine small1000 (Nat.le_trans (List.length_filter_le _ _) ?_)
        have := ok.len
        rw [List.length_take]
        omega
      by_cases hd : differ st e = true
      · have hd' : (st.getD e.1 false != st.getD e.2.1 false) = true := hd
        rw [hd']
        refine iteT ?_
        refine ⟨_, rfl, _, hD3, hlen, same_own s3 nD2, ?_⟩
        rw [upd_same, htk, List.filter_append, List.filter_cons_of_pos hd, List.map_append, List.map_append]
        rfl
      · have hd' : (st.getD e.1 false != st.getD e.2.1 false) = false := by
          cases h : differ st e with
          | true => exact absurd h hd
          | false => exact h
        rw [hd']
        refine iteF ⟨s3, ?_⟩
        rw [htk, List.filter_append, List.filter_cons_of_neg hd, hD3]
        simp
    · rintro H3 ⟨s3, hD3⟩
      have e : E.take xs.length = E := List.take_of_length_le (by rw [hE.length]; exact Nat.le_refl _)
      rw [e] at hD3
      refine ⟨D2, _, rfl, .inl (.inl hD3), _, _, rfl, rfl, ?_⟩
      rw [sum_cost]
      show Q (V.int (0 + (cost E st : Int))) H3
      rw [Int.zero_add]
      exact q H3 (s2.trans s3)
def spUps (K : PySem.W.Frag) : Sp := fun vs H Q _ => ∃ (r : Addr) (st : List Bool), vs = [.ref r] ∧ SqT K H r (stV st) ∧ Q (.int (upsOf st : Int)) H
theorem scUps : FnScope ["state"] ["state"] (defScope sUps) := ⟨rfl, rfl, rfl, by decide +kernel, rfl, by decide +kernel, by decide +kernel⟩
theorem ok_ups {f : Addr} {fd : FuncData} (F : Fun K "ups" "ups" sUps f fd) (B : Blt mg) : FnOk P w K mg base CX0 1 f fd ["state"] (spUps K) := by
  refine F.ok scUps (fun vs H Q E h => ?_) (fun cdv A outer s H vs Q E hr h => ?_)
  · obtain ⟨r, st, rfl, _⟩ := h
    rfl
  · obtain ⟨r, st, rfl, hst, q⟩ := h
    refine ⟨_, pss_one (ps_ret (pe_callB (cr_sumT rfl) (by rfl) B.sum (by decide +kernel) (pa_cons (pv 0) pa_nil))), ?_⟩
    rw [stV_ints] at hst
    refine ⟨_, rfl, r, _, rfl, hst, ?_⟩
    rw [sum_bits]
    exact q
end
end K42
namespace K42
open PySem L2 PyProof.Rows
/-! ### what the terms of the states are worth -/
def tmOf (E : List Ed) (g : List Bool → Int) (st : List Bool) : Ex × Int := (((cost E st : Int), (upsOf st : Int)), g st)
theorem cost_le (E : List Ed) (st : List Bool) : cost E st ≤ tot E := by
  have := cost_alike E st
  omega
theorem ups_le (st : List Bool) : upsOf st ≤ st.length := List.count_le_length
theorem ev_tm (a b : Int) (n : Nat) (E : List Ed) (g : List Bool → Int) : ev (wOf a b (tot E)) ((sts n).map (tmOf E g)) = S n fun st => g st * W a b E st := by
  rw [ev_map, S_sum]
  congr 1
  refine List.map_congr_left fun st _ => ?_
  show g st * (a ^ (cost E st : Int).toNat * b ^ (tot E - (cost E st : Int).toNat)) = g st * W a b E st
  rw [W_eq, Int.toNat_natCast]
  have e : tot E - cost E st = alike E st := by
    have := cost_alike E st
    omega
  rw [e]
theorem tm_ok {po : List (Ex × Int)} {n : Nat} {E : List Ed} {g : List Bool → Int} (n5 : n ≤ 5) (hJ : tot E ≤ 25) (hg : ∀ st, (g st).natAbs ≤ 1) (h : PolyOf po ((sts n).map (tmOf E g))) : TermsOk po (tot E) := by
  have hl : ((sts n).map (tmOf E g)).length ≤ 32 := by
    rw [List.length_map]
    exact sts_small (Nat.le_refl n) n5
  refine ⟨Nat.le_trans h.len hl, fun e he => ?_, fun e he => ?_, hJ⟩
  · have hk := h.keys e he
    rw [List.map_map] at hk
    obtain ⟨st, hst, e1⟩ := List.mem_map.mp hk
    rw [← e1]
    have h1 := cost_le E st
    have h2 := ups_le st
    have h3 := sts_len hst
    show 0 ≤ (cost E st : Int) ∧ (cost E st : Int) ≤ (tot E : Int) ∧ 0 ≤ (upsOf st : Int) ∧ (upsOf st : Int) ≤ 100
    omega
  · refine Nat.le_trans (h.small (fun t ht => ?_) e he) hl
    obtain ⟨st, _, rfl⟩ := List.mem_map.mp ht
    exact hg st
theorem sgb_abs (b : Bool) : (sgb b).natAbs ≤ 1 := by cases b <;> decide
theorem mon_abs (A : List Nat) (st : List Bool) : (mon A st).natAbs ≤ 1 := by
  rcases mon_cases A st with h | h <;> rw [h] <;> decide
/-- what the correlation of u and v is -/
structure Corr (a b : Int) (n : Nat) (E : List Ed) (u v : Nat) (N D : Int) : Prop where
  pos : 0 < D
  val : N * Ps a b n E [] = D * Ps a b n E [u, v]
  one : N = D → N = 1 ∧ D = 1
  bn : N.natAbs < 2 ^ 8000
  bd : D.natAbs < 2 ^ 8000
theorem corr_of {a b : Int} {n : Nat} {E : List Ed} {u v : Nat} {N1 D1 N2 D2 q : Int} (hq : 0 < q) (d1 : 0 < D1) (d2 : 0 < D2) (n2 : 0 < N2) (s1 : Sm N1) (s2 : Sm D1) (s3 : Sm N2) (s4 : Sm D2)
    (h1 : N1 * q = D1 * Ps a b n E [u, v]) (h2 : N2 * q = D2 * Ps a b n E []) : Corr a b n E u v (frN (N1 * D2) (D1 * N2)) (frD (N1 * D2) (D1 * N2)) := by
  have hd : 0 < D1 * N2 := Int.mul_pos d1 n2
  refine ⟨frD_pos hd, ?_, fr_one hd, Nat.lt_of_le_of_lt (frN_le hd) (s1.lt s4), Nat.lt_of_le_of_lt (frD_le hd) (s2.lt s3)⟩
  have e := fr_eq (N1 * D2) (D1 * N2)
  generalize frN (N1 * D2) (D1 * N2) = x at *
  generalize frD (N1 * D2) (D1 * N2) = y at *
  generalize Ps a b n E [u, v] = Pu at *
  generalize Ps a b n E [] = Z at *
  have hdd : 0 < D1 * D2 := Int.mul_pos d1 d2
  refine Int.eq_of_mul_eq_mul_right (show D1 * D2 ≠ 0 by omega) ?_
  have x1 : x * Z * (D1 * D2) = x * D1 * (D2 * Z) := by simp only [Int.mul_comm, Int.mul_assoc, Int.mul_left_comm]
  have x2 : x * D1 * (N2 * q) = x * (D1 * N2) * q := by simp only [Int.mul_comm, Int.mul_assoc, Int.mul_left_comm]
  have x3 : N1 * D2 * y * q = N1 * q * (D2 * y) := by simp only [Int.mul_comm, Int.mul_assoc, Int.mul_left_comm]
  rw [x1, ← h2, x2, e, x3, h1]
  simp only [Int.mul_comm, Int.mul_assoc, Int.mul_left_comm]
section
variable {P : Program} {w : World} {K : PySem.W.Frag} {mg : Str → Option Value} {base : Heap}
/-! ### _sign, check_point -/
def spSign : Sp := fun vs H Q _ => ∃ b : Bool, vs = [bV b] ∧ Q (.int (sgb b)) H
theorem scSign : FnScope ["spin"] ["spin"] (defScope sSign) := ⟨rfl, rfl, rfl, by decide +kernel, rfl, by decide +kernel, by decide +kernel⟩
theorem ok_sign {f : Addr} {fd : FuncData} (F : Fun K "_sign" "_sign" sSign f fd) : FnOk P w K mg base CX0 1 f fd ["spin"] spSign := by
  refine F.ok scSign (fun vs H Q E h => ?_) (fun cdv A outer s H vs Q E hr h => ?_)
  · obtain ⟨b, rfl, _⟩ := h
    rfl
  · obtain ⟨b, rfl, q⟩ := h
    refine ⟨_, pss_one (ps_ret (pe_ifExp (pt_cmpR op_eq (pv 0) pe_int (nomark _)) pe_int (pe_un un_neg pe_int))), ?_⟩
    refine ⟨_, rfl, rfl, _, rfl, ?_⟩
    cases b with
    | true => exact iteT q
    | false => exact iteF ⟨_, rfl, q⟩
def spCheckPoint (K : PySem.W.Frag) : Sp := fun vs H Q _ => ∃ (x y : V) (a b c d : Int), vs = [x, y] ∧ FrAt K H x a b ∧ FrAt K H y c d ∧ 0 < a ∧ 0 < c ∧ Q .non H
theorem scCheckPoint : FnScope ["x", "y"] ["x", "y"] (defScope sCheckPoint) := ⟨rfl, rfl, rfl, by decide +kernel, rfl, by decide +kernel, by decide +kernel⟩
theorem ok_checkPoint {f : Addr} {fd : FuncData} (F : Fun K "check_point" "check_point" sCheckPoint f fd) : FnOk P w K mg base CX0 1 f fd ["x", "y"] (spCheckPoint K) := by
  refine F.ok scCheckPoint (fun vs H Q E h => ?_) (fun cdv A outer s H vs Q E hr h => ?_)
  · obtain ⟨x, y, a, b, c, d, rfl, _⟩ := h
    rfl
  · obtain ⟨x, y, a, b, c, d, rfl, ⟨l, rfl, hl⟩, ⟨m, rfl, hm⟩, a0, c0, q⟩ := h
    refine ⟨_, pss_one (ps_if (PW.pt (pw_or (pt_cmpR op_le (pe_ix ix_tup (pv 0) pe_int (fun _ _ => rfl)) pe_int (nomark _)) (pw_or1 (pt_cmpR op_le (pe_ix ix_tup (pv 1) pe_int (fun _ _ => rfl)) pe_int (nomark _)))))
      (pss_one ps_never) pss_nil), ?_⟩
    refine ⟨_, rfl, l, _, _, _, rfl, rfl, hl, at0, _, _, rfl, rfl, _, rfl, ?_⟩
    rw [decide_eq_false (show ¬ a ≤ 0 by omega)]
    refine iteF ?_
    refine ⟨_, rfl, m, _, _, _, rfl, rfl, hm, at0, _, _, rfl, rfl, _, rfl, ?_⟩
    rw [decide_eq_false (show ¬ c ≤ 0 by omega)]
    exact iteF q
/-! ### sum_by_states, pair_sum -/
def one (_ : List Bool) : Int := 1
def spSum (C : Addr) : Sp := fun vs H Q _ => ∃ (p : Addr) (n : Nat) (E : List Ed), vs = [.ref p] ∧ SpinsAt C H p n E ∧ n ≤ 5 ∧ EdsOk n E ∧
  ∀ r ys po H', Same H H' → H' r = some (.tup ys) → Terms H' ys po → PolyOf po ((sts n).map (tmOf E one)) → Q (.ref r) H'
theorem scSum : FnScope ["spins", "state"] ["spins"] (defScope sSumByStates) := ⟨rfl, rfl, rfl, by decide +kernel, rfl, by decide +kernel, by decide +kernel⟩
theorem ok_sum {f C gP gA gC gU : Addr} {fd gdP gdA gdC gdU : FuncData} (F : Fun K "sum_by_states" "sum_by_states" sSumByStates f fd) (DP : Dn P w K mg base "polynomial" 2 ["terms"] (spPolynomial K) gP gdP)
    (DA : Dn P w K mg base "all_states" 2 ["spins"] (spAllStates C) gA gdA) (DC : Dn P w K mg base "cost" 1 ["spins", "state"] (spCost C) gC gdC) (DU : Dn P w K mg base "ups" 1 ["state"] (spUps K) gU gdU) : FnOk P w K mg base CX0 3 f fd ["spins"] (spSum C) := by
  refine F.ok scSum (fun vs H Q E h => ?_) (fun cdv A outer s H vs Q E hr h => ?_)
  · obtain ⟨p, n, E, rfl, _⟩ := h
    rfl
  · obtain ⟨p, n, E, rfl, hS, n5, ok, q⟩ := h
    have hr1 : Room 1 _ := hr.mono (by decide)
    refine ⟨_, pss_one (ps_ret (pe_call DP.ok hr (by rfl) DP.mg DP.kp DP.bi .nil pass0 (pa_cons
      (pe_lc (own := [("state", 1)]) (g := gName 1) rfl scSum.nd (pi_list (pe_call DA.ok hr (by rfl) DA.mg DA.kp DA.bi .nil pass0 (pa_cons (pv 0) pa_nil)))
        (blkOk_by (N := ["spins", "state"]) (sc := defScope sSumByStates) (own := [("state", 1)]) (by decide +kernel)) (fun _ _ _ _ _ => pg_name (i := 1) scSum.nd rfl (.inl rfl)) (fun _ _ _ _ _ => pts_nil)
        (fun _ _ _ _ _ => pe_tup (pa_cons (pe_tup (pa_cons (pe_call DC.ok hr1 (by rfl) DC.mg DC.kp DC.bi .nil pass0 (pa_cons (pv 0) (pa_cons (pv 1) pa_nil))) (pa_cons (pe_call DU.ok hr1 (by rfl) DU.mg DU.kp DU.bi .nil pass0 (pa_cons (pv 1) pa_nil)) pa_nil))) (pa_cons pe_int pa_nil)))) pa_nil))), ?_⟩
    refine ⟨_, rfl, p, n, E, rfl, hS, n5, fun o xs H1 s1 ho hst => ⟨o, rfl, ⟨_, .inl (.inl ho)⟩, fun D nD => ?_⟩⟩
    have h32 := sts_small (Nat.le_refl n) n5
    have hlx : xs.length = (sts n).length := hst.length
    refine it_run (walk_list (K := K) (a := o) (xs := xs)) (fun i H2 => Same H1 H2 ∧ ∃ acc, H2 D = some (.lst acc) ∧ Terms H2 acc (((sts n).take i).map (tmOf E one)))
      ⟨same_new nD, [], upd_same, .nil⟩ (fun i H2 _ ⟨s2, _⟩ => .inl (.inl (s2 _ _ ho))) ?_ ?_
    · rintro i x H2 H2' hi ⟨s2, acc, hD, hacc⟩ ⟨rfl, hx⟩
      obtain ⟨st, hsi, r, rfl, hr2⟩ := paired_get (states_keep (Same.t s2) hst) hx
      have hsl := sts_len (List.mem_of_getElem? hsi)
      refine ⟨rfl, yes_of ?_⟩
      refine iteT ?_
      refine ⟨_, rfl, _, rfl, p, r, n, E, st, rfl, hS.keep (s1.trans s2), hr2, hsl, by omega, ok, fun H3 s3 => ?_⟩
      refine ⟨_, rfl, r, st, rfl, .inl (.inl (s3 _ _ hr2)), ?_⟩
      refine ⟨by show 2 ≤ sizeLine; decide, fun t1 nt1 => ⟨by show 2 ≤ sizeLine; decide, fun t2 nt2 => ?_⟩⟩
      have s4 : Same H3 (upd H3 t1 (.tup [.int (cost E st : Int), .int (upsOf st : Int)])) := same_new nt1
      have h1 : (upd H3 t1 (.tup [.int (cost E st : Int), .int (upsOf st : Int)])) t1 = _ := upd_same
      generalize upd H3 t1 (.tup [.int (cost E st : Int), .int (upsOf st : Int)]) = H4 at *
      have s5 : Same H4 (upd H4 t2 (.tup [.ref t1, .int 1])) := same_new nt2
      have h2 : (upd H4 t2 (.tup [.ref t1, .int 1])) t2 = _ := upd_same
      generalize upd H4 t2 (.tup [.ref t1, .int 1]) = H5 at *
      have s25 : Same H2' H5 := (s3.trans s4).trans s5
      have hD5 := s25 _ _ hD
      have k5 := sameT_lst (o := .lst (acc ++ [.ref t2])) hD5
      have hal : acc.length = i := by
        rw [hacc.length, List.length_map, List.length_take]
        omega
      refine ⟨acc, hD5, small1000 (by omega), same_own (s2.trans s25) nD, _, upd_same, ?_⟩
      rw [List.take_add_one, hsi, List.map_append]
      exact Paired.snoc (terms_keep k5 (terms_keep (Same.t s25) hacc)) ⟨t2, t1, rfl, k5 _ _ h2, k5 _ _ (s5 _ _ h1)⟩
    · rintro H2 ⟨s2, acc, hD, hacc⟩
      rw [List.take_of_length_le (by omega)] at hacc
      refine ⟨D, acc, _, rfl, .inl (.inl hD), hacc, ?_, fun r ys po H3 s3 h3 t3 hp => q r ys po H3 ((s1.trans s2).trans s3) h3 t3 hp⟩
      rw [List.length_map]
      omega
def spPair (C : Addr) : Sp := fun vs H Q _ => ∃ (p : Addr) (n : Nat) (E : List Ed) (u v : Nat), vs = [.ref p, .int (u : Int), .int (v : Int)] ∧ SpinsAt C H p n E ∧ n ≤ 5 ∧ EdsOk n E ∧ u < n ∧ v < n ∧
  ∀ r ys po H', Same H H' → H' r = some (.tup ys) → Terms H' ys po → PolyOf po ((sts n).map (tmOf E (mon [u, v]))) → Q (.ref r) H'
theorem scPair : FnScope ["spins", "u", "v", "terms", "state"] ["spins", "u", "v"] (defScope sPairSum) := ⟨rfl, rfl, rfl, by decide +kernel, rfl, by decide +kernel, by decide +kernel⟩
theorem ok_pair {f C gP gA gC gU gS : Addr} {fd gdP gdA gdC gdU gdS : FuncData} (F : Fun K "pair_sum" "pair_sum" sPairSum f fd) (DP : Dn P w K mg base "polynomial" 2 ["terms"] (spPolynomial K) gP gdP)
    (DA : Dn P w K mg base "all_states" 2 ["spins"] (spAllStates C) gA gdA) (DC : Dn P w K mg base "cost" 1 ["spins", "state"] (spCost C) gC gdC) (DU : Dn P w K mg base "ups" 1 ["state"] (spUps K) gU gdU)
    (DS : Dn P w K mg base "_sign" 1 ["spin"] spSign gS gdS) : FnOk P w K mg base CX0 3 f fd ["spins", "u", "v"] (spPair C) := by
  refine F.ok scPair (fun vs H Q E h => ?_) (fun cdv A outer s H vs Q E hr h => ?_)
  · obtain ⟨p, n, E, u, v, rfl, _⟩ := h
    rfl
  · obtain ⟨p, n, E, u, v, rfl, hS, n5, ok, hu, hv, q⟩ := h
    have hr1 : Room 1 _ := hr.mono (by decide)
    refine ⟨_, pss_cons (ps_set (i := 3) scPair.nd rfl (.inl rfl) (pe_lst pa_nil))
      (pss_cons (ps_for PassesOwn.never rfl (pi_list (pe_call DA.ok hr (by rfl) DA.mg DA.kp DA.bi .nil pass0 (pa_cons (pv 0) pa_nil))) (pg_name (i := 4) scPair.nd rfl (.inl rfl))
        (pss_one (ps_expr (pe_bm PySem.F.plainAttrs_list PySem.F.slot_list_append PySem.F.type_list_append mt_append (pv 3) (pa_cons
          (pe_tup (pa_cons (pe_tup (pa_cons (pe_call DC.ok hr1 (by rfl) DC.mg DC.kp DC.bi .nil pass0 (pa_cons (pv 0) (pa_cons (pv 4) pa_nil))) (pa_cons (pe_call DU.ok hr1 (by rfl) DU.mg DU.kp DU.bi .nil pass0 (pa_cons (pv 4) pa_nil)) pa_nil)))
            (pa_cons (pe_op op_mul (pe_call DS.ok hr1 (by rfl) DS.mg DS.kp DS.bi .nil pass0 (pa_cons (pe_ix ix_tup (pv 4) (pv 1) (fun _ _ => rfl)) pa_nil)) (pe_call DS.ok hr1 (by rfl) DS.mg DS.kp DS.bi .nil pass0 (pa_cons (pe_ix ix_tup (pv 4) (pv 2) (fun _ _ => rfl)) pa_nil))) pa_nil))) pa_nil)))))
      (pss_one (ps_ret (pe_call DP.ok hr (by rfl) DP.mg DP.kp DP.bi .nil pass0 (pa_cons (pv 3) pa_nil))))), ?_⟩
    refine ⟨Nat.zero_le _, fun D nD => ?_⟩
    have s0 : Same H (upd H D (.lst [])) := same_new nD
    have hD0 : (upd H D (.lst [])) D = some (.lst []) := upd_same
    refine ⟨_, rfl, p, n, E, rfl, hS.keep s0, n5, fun o xs H1 s1 ho hst => ⟨o, rfl, ⟨_, .inl (.inl ho)⟩, ?_⟩⟩
    have hD1 := s1 _ _ hD0
    have S1 : Same H H1 := s0.trans s1
    have h32 := sts_small (Nat.le_refl n) n5
    have hlx : xs.length = (sts n).length := hst.length
    have hoD : o ≠ D := by
      intro e
      subst e
      rw [hD1] at ho
      have e2 := Option.some.inj ho
      injection e2 with e2
      subst e2
      have := sts_count n
      rw [List.length_nil] at hlx
      rw [← hlx] at this
      have z : 0 < 2 ^ n := Nat.pow_pos (by decide)
      omega
    have hoH : H o = none ∨ ∃ z, H o = some z := by
      cases H o with
      | none => exact .inl rfl
      | some z => exact .inr ⟨z, rfl⟩
    refine for_list (K := K) (a := o) (xs := xs) (fun i σ H2 => ∃ v4, σ = [some (.ref p), some (.int (u : Int)), some (.int (v : Int)), some (.ref D), v4] ∧ Same H H2 ∧ H2 o = some (.lst xs) ∧ States H2 xs (sts n) ∧ ∃ acc, H2 D = some (.lst acc) ∧ Terms H2 acc (((sts n).take i).map (tmOf E (mon [u, v]))))
      ⟨none, rfl, S1, ho, hst, [], hD1, .nil⟩ (fun i σ H2 _ ⟨_, _, _, h2, _⟩ => .inl (.inl h2)) ?_ ?_
    · rintro i x σ H2 hi ⟨v4, rfl, s2, ho2, hst2, acc, hD, hacc⟩
      obtain ⟨st, hsi, r, rfl, hr2⟩ := paired_get hst2 hi
      have hsl := sts_len (List.mem_of_getElem? hsi)
      refine ⟨_, rfl, .inl ⟨rfl, _, .inl (.inl hD)⟩, ?_⟩
      refine ⟨_, rfl, _, rfl, p, r, n, E, st, rfl, hS.keep s2, hr2, hsl, by omega, ok, fun H3 s3 => ?_⟩
      have hr3 := s3 _ _ hr2
      refine ⟨_, rfl, r, st, rfl, .inl (.inl hr3), ?_⟩
      refine ⟨by show 2 ≤ sizeLine; decide, fun t1 nt1 => ?_⟩
      have s4 : Same H3 (upd H3 t1 (.tup [.int (cost E st : Int), .int (upsOf st : Int)])) := same_new nt1
      have h1 : (upd H3 t1 (.tup [.int (cost E st : Int), .int (upsOf st : Int)])) t1 = _ := upd_same
      generalize upd H3 t1 (.tup [.int (cost E st : Int), .int (upsOf st : Int)]) = H4 at *
      have hr4 := s4 _ _ hr3
      refine ⟨_, rfl, _, rfl, r, _, _, _, rfl, rfl, .inl (.inl hr4), at_st (by omega), st.getD u false, rfl, ?_⟩
      refine ⟨_, rfl, _, rfl, r, _, _, _, rfl, rfl, .inl (.inl hr4), at_st (by omega), st.getD v false, rfl, ?_⟩
      refine ⟨sgb (st.getD u false), sgb (st.getD v false), rfl, rfl, .inl (by cases st.getD u false <;> decide), ?_⟩
      refine ⟨by show 2 ≤ sizeLine; decide, fun t2 nt2 => ?_⟩
      have em : sgb (st.getD u false) * sgb (st.getD v false) = mon [u, v] st := by
        show _ = sg st u * (sg st v * 1)
        rw [Int.mul_one]
        rfl
      dsimp only
      rw [em]
      have s5 : Same H4 (upd H4 t2 (.tup [.ref t1, .int (mon [u, v] st)])) := same_new nt2
      have h2 : (upd H4 t2 (.tup [.ref t1, .int (mon [u, v] st)])) t2 = _ := upd_same
      generalize upd H4 t2 (.tup [.ref t1, .int (mon [u, v] st)]) = H5 at *
      have s25 : Same H2 H5 := (s3.trans s4).trans s5
      have hD5 := s25 _ _ hD
      have k5 := sameT_lst (o := .lst (acc ++ [.ref t2])) hD5
      have hal : acc.length = i := by
        have hil := (List.getElem?_eq_some_iff.mp hi).1
        rw [hacc.length, List.length_map, List.length_take]
        omega
      refine ⟨D, acc, _, rfl, rfl, hD5, small1000 (by have hil := (List.getElem?_eq_some_iff.mp hi).1; omega), ?_⟩
      refine ⟨_, rfl, same_own (s2.trans s25) nD, ?_, states_keep k5 (states_keep (Same.t s25) hst2), _, upd_same, ?_⟩
      · rw [upd_ne hoD]
        exact s25 _ _ ho2
      · rw [List.take_add_one, hsi, List.map_append]
        exact Paired.snoc (terms_keep k5 (terms_keep (Same.t s25) hacc)) ⟨t2, t1, rfl, k5 _ _ h2, k5 _ _ (s5 _ _ h1)⟩
    · rintro σ H2 ⟨v4, rfl, s2, ho2, hst2, acc, hD, hacc⟩
      rw [List.take_of_length_le (by omega)] at hacc
      refine ⟨_, rfl, D, acc, _, rfl, .inl (.inl hD), hacc, ?_, fun r ys po H3 s3 h3 t3 hp => q r ys po H3 (s2.trans s3) h3 t3 hp⟩
      rw [List.length_map]
      omega
end
end K42
namespace K42
open PySem L2 PyProof.Rows
section
variable {P : Program} {w : World} {K : PySem.W.Frag} {mg : Str → Option Value} {base : Heap}
/-! ### correlation -/
def spCorr (K : PySem.W.Frag) (C : Addr) : Sp := fun vs H Q _ => ∃ (p : Addr) (n : Nat) (E : List Ed) (u v : Nat) (x y : V) (a b : Int), vs = [.ref p, .int (u : Int), .int (v : Int), x, y] ∧ SpinsAt C H p n E ∧ n ≤ 5 ∧ EdsOk n E ∧ tot E ≤ 25 ∧ u < n ∧ v < n ∧ FrAt K H x a b ∧ FrAt K H y 1 1 ∧ 0 < a ∧ a ≤ b ∧ b ≤ 4 ∧
  ∀ t N D H', Same H H' → H' t = some (.tup [.int N, .int D]) → Corr a b n E u v N D → Q (.ref t) H'
theorem scCorr : FnScope ["spins", "u", "v", "x", "y"] ["spins", "u", "v", "x", "y"] (defScope sCorrelation) := ⟨rfl, rfl, rfl, by decide +kernel, rfl, by decide +kernel, by decide +kernel⟩
theorem ok_corr {f C gK gD gV gP gS : Addr} {fd gdK gdD gdV gdP gdS : FuncData} (F : Fun K "correlation" "correlation" sCorrelation f fd) (DK : Dn P w K mg base "check_point" 1 ["x", "y"] (spCheckPoint K) gK gdK)
    (DD : Dn P w K mg base "divide" 2 ["a", "b"] (spDivide K) gD gdD) (DV : Dn P w K mg base "value" 4 ["p", "x", "y"] (spValue K) gV gdV) (DP : Dn P w K mg base "pair_sum" 3 ["spins", "u", "v"] (spPair C) gP gdP)
    (DS : Dn P w K mg base "sum_by_states" 3 ["spins"] (spSum C) gS gdS) : FnOk P w K mg base CX0 5 f fd ["spins", "u", "v", "x", "y"] (spCorr K C) := by
  refine F.ok scCorr (fun vs H Q E h => ?_) (fun cdv A outer s H vs Q E hr h => ?_)
  · obtain ⟨p, n, E, u, v, x, y, a, b, rfl, _⟩ := h
    rfl
  · obtain ⟨p, n, E, u, v, x, y, a, b, rfl, hS, n5, ok, hJ, hu, hv, hx, hy, a0, ab, b4, q⟩ := h
    have hr1 : Room 1 _ := hr.mono (by decide)
    have hr2 : Room 2 _ := hr.mono (by decide)
    have hr3 : Room 3 _ := hr.mono (by decide)
    refine ⟨_, pss_cons (ps_expr (pe_call DK.ok hr1 (by rfl) DK.mg DK.kp DK.bi .nil pass0 (pa_cons (pv 3) (pa_cons (pv 4) pa_nil))))
      (pss_one (ps_ret (pe_call DD.ok hr2 (by rfl) DD.mg DD.kp DD.bi .nil pass0 (pa_cons
          (pe_call DV.ok hr (by rfl) DV.mg DV.kp DV.bi .nil pass0 (pa_cons (pe_call DP.ok hr3 (by rfl) DP.mg DP.kp DP.bi .nil pass0 (pa_cons (pv 0) (pa_cons (pv 1) (pa_cons (pv 2) pa_nil)))) (pa_cons (pv 3) (pa_cons (pv 4) pa_nil))))
        (pa_cons (pe_call DV.ok hr (by rfl) DV.mg DV.kp DV.bi .nil pass0 (pa_cons (pe_call DS.ok hr3 (by rfl) DS.mg DS.kp DS.bi .nil pass0 (pa_cons (pv 0) pa_nil)) (pa_cons (pv 3) (pa_cons (pv 4) pa_nil)))) pa_nil))))), ?_⟩
    refine ⟨_, rfl, _, rfl, x, y, a, b, 1, 1, rfl, hx, hy, a0, by decide, ?_⟩
    -- value(pair_sum(..))
    refine ⟨_, rfl, _, rfl, _, rfl, p, n, E, u, v, rfl, hS, n5, ok, hu, hv, fun r1 ys1 po1 H1 s1 h1 t1 hp1 => ?_⟩
    refine ⟨_, rfl, _, rfl, r1, x, y, ys1, po1, a, b, tot E, rfl, .inl (.inl h1), t1, hx.keep s1, hy.keep s1, a0, by omega, by omega, b4, tm_ok n5 hJ (mon_abs [u, v]) hp1, fun z1 N1 D1 H2 s2 hz1 d1 sn1 sd1 e1 => ?_⟩
    have S2 : Same H H2 := s1.trans s2
    -- value(sum_by_states(..))
    refine ⟨_, rfl, p, n, E, rfl, hS.keep S2, n5, ok, fun r2 ys2 po2 H3 s3 h3 t3 hp2 => ?_⟩
    have S3 : Same H H3 := S2.trans s3
    refine ⟨_, rfl, _, rfl, r2, x, y, ys2, po2, a, b, tot E, rfl, .inl (.inl h3), t3, hx.keep S3, hy.keep S3, a0, by omega, by omega, b4, tm_ok (g := one) n5 hJ (fun _ => Nat.le_refl 1) hp2, fun z2 N2 D2 H4 s4 hz2 d2 sn2 sd2 e2 => ?_⟩
    have S4 : Same H H4 := S3.trans s4
    have hb : 0 < b := by omega
    have hq : 0 < b ^ tot E := Int.pow_pos hb
    rw [hp1.val, ev_tm] at e1
    rw [hp2.val, ev_tm] at e2
    have e2' : N2 * b ^ tot E = D2 * Ps a b n E [] := by
      rw [e2]
      congr 1
    have e1' : N1 * b ^ tot E = D1 * Ps a b n E [u, v] := e1
    have hZ : 0 < Ps a b n E [] := P_pos a0 ab
    have n2 : 0 < N2 := by
      refine Int.not_le.mp fun z => ?_
      have x1 := Int.mul_pos d2 hZ
      have x2 := Int.mul_nonneg_of_nonpos_of_nonpos z (show -(b ^ tot E) ≤ 0 by omega)
      rw [Int.mul_neg, e2'] at x2
      omega
    refine ⟨z1, z2, N1, D1, N2, D2, rfl, hz1.keep (s3.trans s4), hz2, sn1, sd1, sn2, sd2, d1, n2, fun t H5 s5 _ h5 => ?_⟩
    exact q t _ _ H5 (S4.trans s5) h5 (corr_of hq d1 d2 n2 sn1 sd1 sn2 sd2 e1' e2')
end
end K42
namespace K42
open PySem L2 PyProof.Rows
section
variable {P : Program} {w : World} {K : PySem.W.Frag} {mg : Str → Option Value} {base : Heap}
/-! ### _law_cell, _law_mix, _law_row -/
def spLCell (K : PySem.W.Frag) : Sp := fun vs H Q _ => ∃ (a : Addr) (ns : List Int) (j : Nat), vs = [.ref a, .int (j : Int)] ∧ SqL K H a (ns.map V.int) ∧ ∀ z : Int, Q (.int z) H
theorem scCell : FnScope ["_law_script", "_law_k"] ["_law_script", "_law_k"] (defScope sCell) := ⟨rfl, rfl, rfl, by decide +kernel, rfl, by decide +kernel, by decide +kernel⟩
theorem ok_cell {f : Addr} {fd : FuncData} (F : Fun K "_law_cell" "_law_cell" sCell f fd) (B : Blt mg) : FnOk P w K mg base CX0 1 f fd ["_law_script", "_law_k"] (spLCell K) := by
  refine F.ok scCell (fun vs H Q E h => ?_) (fun cdv A outer s H vs Q E hr h => ?_)
  · obtain ⟨a, ns, j, rfl, _⟩ := h
    rfl
  · obtain ⟨a, ns, j, rfl, ha, q⟩ := h
    refine ⟨_, pss_cons (ps_if (pt_cmpR op_lt (pv 1) (pe_callB call_len_seq (by rfl) B.len PySem.boot_len (pa_cons (pv 0) pa_nil)) (nomark _))
        (pss_one (ps_ret (pe_callTy call_int1 (by rfl) B.int (by decide +kernel) (pa_cons (pe_ix ix_list (pv 0) (pv 1) (fun _ _ => rfl)) pa_nil)))) pss_nil)
      (pss_one (ps_ret pe_int)), ?_⟩
    refine ⟨_, rfl, _, rfl, a, _, rfl, .inl ha, _, _, rfl, rfl, _, rfl, ?_⟩
    refine ite2 (fun hlt => ?_) (fun _ => q 0)
    have hl := of_decide_eq_true hlt
    rw [List.length_map] at hl
    have hj : j < ns.length := by omega
    refine ⟨_, rfl, _, rfl, a, _, _, V.int ns[j], rfl, rfl, ha, atI_nat (by rw [List.getElem?_map, List.getElem?_eq_getElem hj]; rfl), .inl ⟨_, rfl, q _⟩⟩
def spMix : Sp := fun vs H Q _ => ∃ c k : Int, vs = [.int c, .int k] ∧ -(10 ^ 18) < c ∧ c < 10 ^ 18 ∧ 0 ≤ k ∧ k ≤ 1000 ∧ ∀ z : Int, Q (.int z) H
theorem scMix : FnScope ["_law_cell_here", "_law_k", "_law_number"] ["_law_cell_here", "_law_k"] (defScope sMix) := ⟨rfl, rfl, rfl, by decide +kernel, rfl, by decide +kernel, by decide +kernel⟩
theorem ok_mix {f : Addr} {fd : FuncData} (F : Fun K "_law_mix" "_law_mix" sMix f fd) (B : Blt mg) : FnOk P w K mg base CX0 1 f fd ["_law_cell_here", "_law_k"] spMix := by
  refine F.ok scMix (fun vs H Q E h => ?_) (fun cdv A outer s H vs Q E hr h => ?_)
  · obtain ⟨c, k, rfl, _⟩ := h
    rfl
  · obtain ⟨c, k, rfl, c0, c1, k0, k1, q⟩ := h
    refine ⟨_, pss_cons (ps_set (i := 2) scMix.nd rfl (.inl rfl) (pe_op op_mod (pe_callTy call_int1 (by rfl) B.int (by decide +kernel) (pa_cons (pe_op op_add (pe_op op_add (pe_op op_mul (pv 0) pe_int) (pe_op op_mul (pv 1) pe_int)) pe_int) pa_nil)) pe_int))
      (pss_cons (ps_set (i := 2) scMix.nd rfl (.inl rfl) (pe_op op_mod (pe_callTy call_int1 (by rfl) B.int (by decide +kernel) (pa_cons (pe_op op_add (pe_op op_add (pe_op op_mul (pv 2) pe_int) (pe_op op_mul (pv 1) pe_int)) pe_int) pa_nil)) pe_int))
      (pss_one (ps_ret (pe_op op_fdiv (pv 2) pe_int)))), ?_⟩
    refine ⟨_, rfl, _, _, rfl, rfl, .inr ⟨by decide, by decide⟩, _, rfl, _, _, rfl, rfl, .inr ⟨by decide, by decide⟩, _, _, rfl, rfl, _, _, rfl, rfl, .inl ⟨_, rfl, _, _, rfl, rfl, (by show (0 : Int) < 2147483647; decide), ?_⟩⟩
    refine ⟨_, rfl, _, _, rfl, rfl, .inr ⟨by decide, by decide⟩, _, rfl, _, _, rfl, rfl, .inr ⟨by decide, by decide⟩, _, _, rfl, rfl, _, _, rfl, rfl, .inl ⟨_, rfl, _, _, rfl, rfl, (by show (0 : Int) < 2147483629; decide), ?_⟩⟩
    exact ⟨_, rfl, _, _, rfl, rfl, ⟨by decide, by decide⟩, q _⟩
/-- a new list of n numbers below b -/
def spRow : Sp := fun vs H Q _ => ∃ (c : Int) (n b : Nat), vs = [.int c, .int (n : Int), .int (b : Int)] ∧ n ≤ 100 ∧ 0 < b ∧ b ≤ 1000 ∧
  ∀ o (ds : List Nat) H', Same H H' → H o = none → H' o = some (.lst (ds.map fun d : Nat => V.int (d : Int))) → ds.length = n → (∀ d ∈ ds, d < b) → Q (.ref o) H'
theorem scRow : FnScope ["_law_cell_here", "_law_count", "_law_bound", "_law_found", "_law_rest", "_law_k"] ["_law_cell_here", "_law_count", "_law_bound"] (defScope sRow) := ⟨rfl, rfl, rfl, by decide +kernel, rfl, by decide +kernel, by decide +kernel⟩
theorem mod_nat {z : Int} {b : Nat} (hb : 0 < b) : ∃ d : Nat, z % (b : Int) = (d : Int) ∧ d < b := by
  have h1 := Int.emod_nonneg z (show (b : Int) ≠ 0 by omega)
  have h2 := Int.emod_lt_of_pos z (show (0 : Int) < b by omega)
  exact ⟨(z % (b : Int)).toNat, by omega, by omega⟩
theorem ok_row {f g : Addr} {fd gd : FuncData} (F : Fun K "_law_row" "_law_row" sRow f fd) (DM : Dn P w K mg base "_law_mix" 1 ["_law_cell_here", "_law_k"] spMix g gd) (B : Blt mg) : FnOk P w K mg base CX0 2 f fd ["_law_cell_here", "_law_count", "_law_bound"] spRow := by
  refine F.ok scRow (fun vs H Q E h => ?_) (fun cdv A outer s H vs Q E hr h => ?_)
  · obtain ⟨c, n, b, rfl, _⟩ := h
    rfl
  · obtain ⟨c, n, b, rfl, n1, b0, b1, q⟩ := h
    refine ⟨_, pss_cons (ps_set (i := 3) scRow.nd rfl (.inl rfl) (pe_lst pa_nil))
      (pss_cons (ps_set (i := 4) scRow.nd rfl (.inl rfl) (pe_callB call_abs (by rfl) B.abs (by decide +kernel) (pa_cons (pv 0) pa_nil)))
      (pss_cons (ps_for PassesOwn.never rfl (pi_range1 (by rfl) B.range (pa_cons (pv 1) pa_nil)) (pg_name (i := 5) scRow.nd rfl (.inl rfl))
        (pss_one (ps_if (pt_cmpR op_ge (pe_callB call_abs (by rfl) B.abs (by decide +kernel) (pa_cons (pv 0) pa_nil)) pe_int (nomark _))
          (pss_cons (ps_expr (pe_bm PySem.F.plainAttrs_list PySem.F.slot_list_append PySem.F.type_list_append mt_append (pv 3) (pa_cons (pe_op op_mod (pe_callTy call_int1 (by rfl) B.int (by decide +kernel) (pa_cons (pv 4) pa_nil)) (pv 2)) pa_nil)))
            (pss_one (ps_set (i := 4) scRow.nd rfl (.inl rfl) (pe_op op_fdiv (pv 4) (pv 2)))))
          (pss_one (ps_expr (pe_bm PySem.F.plainAttrs_list PySem.F.slot_list_append PySem.F.type_list_append mt_append (pv 3) (pa_cons (pe_op op_mod (pe_callTy call_int1 (by rfl) B.int (by decide +kernel)
            (pa_cons (pe_call DM.ok hr (by rfl) DM.mg DM.kp DM.bi .nil pass0 (pa_cons (pv 0) (pa_cons (pv 5) pa_nil))) pa_nil)) (pv 2)) pa_nil)))))))
      (pss_one (ps_ret (pv 3))))), ?_⟩
    refine ⟨Nat.zero_le _, fun o no => ?_⟩
    refine ⟨_, rfl, c, rfl, ?_⟩
    refine ⟨_, rfl, (n : Int), rfl, by omega, by omega, ?_⟩
    rw [Int.toNat_natCast]
    refine for_range (lo := 0) (n := n) (fun i σ H2 => ∃ (v4 : Option V) (rest : Int) (v5 : Option V) (ds : List Nat), σ = [some (.int c), some (.int (n : Int)), some (.int (b : Int)), some (.ref o), v4, v5] ∧ v4 = some (.int rest) ∧ Same H H2 ∧ H2 o = some (.lst (ds.map fun d : Nat => V.int (d : Int))) ∧ ds.length = i ∧ ∀ d ∈ ds, d < b)
      ⟨_, _, none, [], rfl, rfl, same_new no, upd_same, rfl, fun d hd => absurd hd (by simp)⟩ ?_ ?_
    · rintro i σ H2 hi ⟨v4, rest, v5, ds, rfl, rfl, s2, ho, hl, hd⟩
      have fin : ∀ (d : Nat), d < b → Same H (upd H2 o (.lst ((ds.map fun d : Nat => V.int (d : Int)) ++ [.int (d : Int)]))) ∧ (upd H2 o (.lst ((ds.map fun d : Nat => V.int (d : Int)) ++ [.int (d : Int)]))) o = some (.lst ((ds ++ [d]).map fun d : Nat => V.int (d : Int))) ∧ (ds ++ [d]).length = i + 1 ∧ ∀ e ∈ ds ++ [d], e < b := fun d hd' => by
        refine ⟨same_own s2 no, ?_, ?_, fun e he => ?_⟩
        · rw [upd_same, List.map_append]
          rfl
        · rw [List.length_append, hl]
          rfl
        · rcases List.mem_append.mp he with he | he
          · exact hd e he
          · rw [List.mem_singleton.mp he]
            exact hd'
      have hlen : (ds.map fun d : Nat => V.int (d : Int)).length < sizeLine := by
        rw [List.length_map]
        exact small1000 (by omega)
      refine ⟨_, rfl, c, rfl, _, _, rfl, rfl, _, rfl, ?_⟩
      refine ite2 (fun _ => ?_) (fun hge => ?_)
      · obtain ⟨d, ed, db⟩ := mod_nat (z := rest) b0
        refine ⟨_, rfl, .inl ⟨rfl, _, .inl (.inl ho)⟩, _, rfl, .inl ⟨_, rfl, _, rfl, _, _, rfl, rfl, by omega, ?_⟩⟩
        refine ⟨o, _, .int (d : Int), rfl, congrArg (fun t : Int => [V.int t]) ed, ho, hlen, ?_⟩
        obtain ⟨f1, f2, f3, f4⟩ := fin d db
        exact ⟨_, rfl, _, rfl, _, _, rfl, rfl, ⟨by omega, by omega⟩, _, _, _, ds ++ [d], rfl, rfl, f1, f2, f3, f4⟩
      · have hge' : ¬ ((1000000000000000000 : Int) ≤ if c < 0 then -c else c) := fun z => hge (decide_eq_true z)
        have hc : -(10 ^ 18 : Int) < c ∧ c < 10 ^ 18 := by
          have e : (10 ^ 18 : Int) = 1000000000000000000 := by decide
          rw [e]
          split at hge' <;> omega
        refine ⟨_, rfl, .inl ⟨rfl, _, .inl (.inl ho)⟩, _, rfl, _, rfl, c, (0 + (i : Int)), rfl, hc.1, hc.2, by omega, by omega, fun z => .inl ⟨_, rfl, _, rfl, _, _, rfl, rfl, by omega, ?_⟩⟩
        obtain ⟨d, ed, db⟩ := mod_nat (z := z) b0
        obtain ⟨f1, f2, f3, f4⟩ := fin d db
        exact ⟨o, _, .int (d : Int), rfl, congrArg (fun t : Int => [V.int t]) ed, ho, hlen, _, _, _, ds ++ [d], rfl, rfl, f1, f2, f3, f4⟩
    · rintro σ H2 ⟨v4, rest, v5, ds, rfl, rfl, s2, ho, hl, hd⟩
      exact ⟨_, rfl, q o ds H2 s2 no ho hl hd⟩
/-! ### _law_gcd, _law_frac, _law_less -/
def spGcd : Sp := fun vs H Q _ => ∃ a b : Nat, vs = [.int (a : Int), .int (b : Int)] ∧ Q (.int ((Nat.gcd a b : Nat) : Int)) H
theorem scGcd : FnScope ["_law_a", "_law_b"] ["_law_a", "_law_b"] (defScope sGcd) := ⟨rfl, rfl, rfl, by decide +kernel, rfl, by decide +kernel, by decide +kernel⟩
theorem ok_gcd {f : Addr} {fd : FuncData} (F : Fun K "_law_gcd" "_law_gcd" sGcd f fd) (B : Blt mg) : FnOk P w K mg base CX0 1 f fd ["_law_a", "_law_b"] spGcd := by
  refine F.ok scGcd (fun vs H Q E h => ?_) (fun cdv A outer s H vs Q E hr h => ?_)
  · obtain ⟨a, b, rfl, _⟩ := h
    rfl
  · obtain ⟨a, b, rfl, q⟩ := h
    refine ⟨_, pss_cons (ps_while PassesOwn.never (pt_truth (pv 1) (by intro _; rfl))
        (pss_one (ps_par (i := 0) (j := 1) (by rfl) scGcd.nd rfl rfl (by decide) rfl rfl (pa_cons (pv 1) (pa_cons (pe_op op_mod (pv 0) (pv 1)) pa_nil)) (by rfl))))
      (pss_one (ps_ret (pe_callB call_abs (by rfl) B.abs (by decide +kernel) (pa_cons (pv 0) pa_nil)))), ?_⟩
    refine ⟨fun m σ H2 => ∃ x y : Nat, σ = [some (.int (x : Int)), some (.int (y : Int))] ∧ H2 = H ∧ m = y ∧ Nat.gcd x y = Nat.gcd a b, ⟨b, a, b, rfl, rfl, rfl, rfl⟩, ?_⟩
    rintro m σ H2 ⟨x, y, rfl, rfl, rfl, hg⟩
    refine ⟨_, rfl, ((m : Int) != 0), rfl, ?_⟩
    by_cases hm : m = 0
    · subst hm
      refine iteF ?_
      refine ⟨_, rfl, (x : Int), rfl, ?_⟩
      rw [if_neg (show ¬ (x : Int) < 0 by omega)]
      rw [Nat.gcd_zero_right] at hg
      rw [hg]
      exact q
    · have e : ((m : Int) != 0) = true := by
        rw [bne_iff_ne]
        omega
      rw [e]
      refine iteT ?_
      refine ⟨_, fun σ' H' h => h, ?_⟩
      refine ⟨_, rfl, _, rfl, _, rfl, _, _, rfl, rfl, by omega, _, _, rfl, x % m, Nat.mod_lt _ (by omega), m, x % m, rfl, rfl, rfl, ?_⟩
      rw [← hg, Nat.gcd_comm x m]
      exact (Nat.gcd_rec m x).symm ▸ (Nat.gcd_comm m (x % m))
end
end K42
namespace K42
open PySem L2 PyProof.Rows
section
variable {P : Program} {w : World} {K : PySem.W.Frag} {mg : Str → Option Value} {base : Heap}
/-! ### _law_frac, _law_less -/
/-- a fraction above 0, at most 1, with a denominator of at most 4 -/
def spFrac : Sp := fun vs H Q _ => ∃ a b : Nat, vs = [.int (a : Int), .int (b : Int)] ∧ 1 ≤ a ∧ a ≤ b ∧ b ≤ 4 ∧ ∀ p (x y : Int) H', Same H H' → H' p = some (.tup [.int x, .int y]) → 0 < x → x ≤ y → y ≤ 4 → Q (.ref p) H'
theorem scFrac : FnScope ["_law_a", "_law_b", "_law_common"] ["_law_a", "_law_b"] (defScope sFrac) := ⟨rfl, rfl, rfl, by decide +kernel, rfl, by decide +kernel, by decide +kernel⟩
theorem ok_frac {f g : Addr} {fd gd : FuncData} (F : Fun K "_law_frac" "_law_frac" sFrac f fd) (DG : Dn P w K mg base "_law_gcd" 1 ["_law_a", "_law_b"] spGcd g gd) : FnOk P w K mg base CX0 2 f fd ["_law_a", "_law_b"] spFrac := by
  refine F.ok scFrac (fun vs H Q E h => ?_) (fun cdv A outer s H vs Q E hr h => ?_)
  · obtain ⟨a, b, rfl, _⟩ := h
    rfl
  · obtain ⟨a, b, rfl, a1, ab, b4, q⟩ := h
    refine ⟨_, pss_cons (ps_set (i := 2) scFrac.nd rfl (.inl rfl) (pe_call DG.ok hr (by rfl) DG.mg DG.kp DG.bi .nil pass0 (pa_cons (pv 0) (pa_cons (pv 1) pa_nil))))
      (pss_cons (ps_if (pt_cmpR op_lt (pv 1) pe_int (nomark _)) (pss_one (ps_set (i := 2) scFrac.nd rfl (.inl rfl) (pe_un un_neg (pv 2)))) pss_nil)
      (pss_one (ps_ret (pe_tup (pa_cons (pe_op op_fdiv (pv 0) (pv 2)) (pa_cons (pe_op op_fdiv (pv 1) (pv 2)) pa_nil)))))), ?_⟩
    have g0 : 0 < Nat.gcd a b := Nat.gcd_pos_of_pos_left _ (by omega)
    have g4 : Nat.gcd a b ≤ b := Nat.gcd_le_right _ (by omega)
    refine ⟨_, rfl, _, rfl, a, b, rfl, ?_⟩
    refine ⟨_, rfl, _, _, rfl, rfl, _, rfl, ?_⟩
    rw [decide_eq_false (show ¬ (b : Int) < 0 by omega)]
    refine iteF ?_
    refine ⟨_, rfl, _, rfl, _, _, rfl, rfl, ⟨by omega, by omega⟩, _, rfl, _, rfl, _, _, rfl, rfl, ⟨by omega, by omega⟩, by show 2 ≤ sizeLine; decide, fun p hp => ?_⟩
    have da : Nat.gcd a b ∣ a := Nat.gcd_dvd_left _ _
    refine q p _ _ _ (same_new hp) upd_same ?_ ?_ ?_
    · have h1 : 0 < a / Nat.gcd a b := Nat.div_pos (Nat.le_of_dvd (by omega) da) g0
      show (0 : Int) < ((a / Nat.gcd a b : Nat) : Int)
      omega
    · have h1 : a / Nat.gcd a b ≤ b / Nat.gcd a b := Nat.div_le_div_right ab
      show ((a / Nat.gcd a b : Nat) : Int) ≤ ((b / Nat.gcd a b : Nat) : Int)
      omega
    · have h1 : b / Nat.gcd a b ≤ b := Nat.div_le_self _ _
      show ((b / Nat.gcd a b : Nat) : Int) ≤ 4
      omega
def Md (n : Int) : Prop := n.natAbs < 2 ^ 8000
theorem Md.mul {a b : Int} (ha : Md a) (hb : Md b) : CMulW a b := wide_mul ha hb (by decide) (by decide) (by decide)
def spLess (K : PySem.W.Frag) : Sp := fun vs H Q _ => ∃ (u v : V) (a b c d : Int), vs = [u, v] ∧ FrAt K H u a b ∧ FrAt K H v c d ∧ Md a ∧ Md b ∧ Md c ∧ Md d ∧ Q (.bl (decide (a * d < c * b))) H
theorem scLess : FnScope ["_law_p", "_law_q"] ["_law_p", "_law_q"] (defScope sLess) := ⟨rfl, rfl, rfl, by decide +kernel, rfl, by decide +kernel, by decide +kernel⟩
theorem ok_less {f : Addr} {fd : FuncData} (F : Fun K "_law_less" "_law_less" sLess f fd) : FnOk P w K mg base CX0 1 f fd ["_law_p", "_law_q"] (spLess K) := by
  refine F.ok scLess (fun vs H Q E h => ?_) (fun cdv A outer s H vs Q E hr h => ?_)
  · obtain ⟨u, v, a, b, c, d, rfl, _⟩ := h
    rfl
  · obtain ⟨u, v, a, b, c, d, rfl, ⟨l, rfl, hl⟩, ⟨m, rfl, hm⟩, sa, sb, sc, sd, q⟩ := h
    refine ⟨_, pss_one (ps_ret (pe_cmpR op_lt (pe_op op_mulW (pe_ix ix_tup (pv 0) pe_int (fun _ _ => rfl)) (pe_ix ix_tup (pv 1) pe_int (fun _ _ => rfl)))
      (pe_op op_mulW (pe_ix ix_tup (pv 1) pe_int (fun _ _ => rfl)) (pe_ix ix_tup (pv 0) pe_int (fun _ _ => rfl))) (nomark _))), ?_⟩
    refine ⟨_, rfl, l, _, _, _, rfl, rfl, hl, at0, _, rfl, m, _, _, _, rfl, rfl, hm, at1, a, d, rfl, rfl, sa.mul sd, ?_⟩
    refine ⟨_, rfl, m, _, _, _, rfl, rfl, hm, at0, _, rfl, l, _, _, _, rfl, rfl, hl, at1, c, b, rfl, rfl, sc.mul sb, _, _, rfl, rfl, ?_⟩
    exact q
/-! ### _law_tuples -/
def spTupI : Sp := fun vs H Q _ => ∃ i : Int, vs = [.int i] ∧ ∀ H', Same H H' → Q (.bl true) H'
def spTupT : Sp := fun vs H Q _ => ∃ (t : Addr) (a b : Int), vs = [.ref t] ∧ H t = some (.tup [.int a, .int b]) ∧ ∀ H', Same H H' → Q (.bl true) H'
theorem scTuples : FnScope ["_law_thing", "_law_part"] ["_law_thing"] (defScope sTuples) := ⟨rfl, rfl, rfl, by decide +kernel, rfl, by decide +kernel, by decide +kernel⟩
theorem ok_tupI {f : Addr} {fd : FuncData} (F : Fun K "_law_tuples" "_law_tuples" sTuples f fd) (B : Blt mg) : FnOk P w K mg base CX0 1 f fd ["_law_thing"] spTupI := by
  refine F.ok scTuples (fun vs H Q E h => ?_) (fun cdv A outer s H vs Q E hr h => ?_)
  · obtain ⟨i, rfl, _⟩ := h
    rfl
  · obtain ⟨i, rfl, q⟩ := h
    refine ⟨_, pss_cons (ps_if (pt_val (pe_callB call_isi (by rfl) B.isinstance (by decide +kernel) (pa_cons (pv 0) (pa_cons (pe_bltn (v := .ty "tuple") (by rfl) B.tuple (by decide +kernel) rfl) pa_nil)))) pss_never pss_nil)
      (pss_one (ps_ret (pe_and (pe_callB call_isi (by rfl) B.isinstance (by decide +kernel) (pa_cons (pv 0) (pa_cons (pe_bltn (v := .ty "int") (by rfl) B.int (by decide +kernel) rfl) pa_nil)))
        (pe_one (pe_not (pe_callB call_isi (by rfl) B.isinstance (by decide +kernel) (pa_cons (pv 0) (pa_cons (pe_bltn (v := .ty "bool") (by rfl) B.bool (by decide +kernel) rfl) pa_nil)))))))), ?_⟩
    refine ⟨_, rfl, _, _, _, _, false, rfl, .ty "tuple", .base (.int i), kit_ty (by decide +kernel), _, rfl, ?_⟩
    refine iteF ?_
    refine ⟨_, rfl, _, _, _, _, true, rfl, .ty "int", .base (.int i), kit_ty (by decide +kernel), _, rfl, ?_⟩
    refine iteT ?_
    refine ⟨_, rfl, _, _, _, _, false, rfl, .ty "bool", .base (.int i), kit_ty (by decide +kernel), _, rfl, ?_⟩
    exact q H (Same.refl H)
theorem ok_tupT {f : Addr} {fd : FuncData} (F : Fun K "_law_tuples" "_law_tuples" sTuples f fd) (D : Dn P w K mg base "_law_tuples" 1 ["_law_thing"] spTupI f fd) (B : Blt mg) : FnOk P w K mg base CX0 2 f fd ["_law_thing"] spTupT := by
  refine F.ok scTuples (fun vs H Q E h => ?_) (fun cdv A outer s H vs Q E hr h => ?_)
  · obtain ⟨t, a, b, rfl, _⟩ := h
    rfl
  · obtain ⟨t, a, b, rfl, ht, q⟩ := h
    refine ⟨_, pss_cons (ps_if (pt_val (pe_callB call_isi (by rfl) B.isinstance (by decide +kernel) (pa_cons (pv 0) (pa_cons (pe_bltn (v := .ty "tuple") (by rfl) B.tuple (by decide +kernel) rfl) pa_nil))))
        (pss_one (ps_ret (pe_callB (cr_all rfl) (by rfl) B.all (by decide +kernel) (pa_cons
          (pe_lc (own := [("_law_part", 1)]) (g := gName 1) rfl scTuples.nd (pi_tup (pv 0)) (blkOk_by (N := ["_law_thing", "_law_part"]) (sc := defScope sTuples) (own := [("_law_part", 1)]) (by decide +kernel))
            (fun _ _ _ _ _ => pg_name (i := 1) scTuples.nd rfl (.inl rfl)) (fun _ _ _ _ _ => pts_nil)
            (fun _ _ _ _ _ => pe_call D.ok hr (by rfl) D.mg D.kp D.bi .nil pass0 (pa_cons (pv 1) pa_nil))) pa_nil)))) pss_nil)
      pss_never, ?_⟩
    refine ⟨_, rfl, _, _, _, _, true, rfl, .ty "tuple", .base (.tup ht), kit_ty (by decide +kernel), _, rfl, ?_⟩
    refine iteT ?_
    refine ⟨_, rfl, t, rfl, ⟨_, .inl (.inl ht)⟩, fun D2 nD => ?_⟩
    refine it_run (walk_tup (K := K) (a := t) (xs := [.int a, .int b])) (fun i H2 => Same H H2 ∧ H2 D2 = some (.lst ((List.replicate i true).map V.bl)))
      ⟨same_new nD, upd_same⟩ (fun i H2 _ ⟨s2, _⟩ => .inl (.inl (s2 _ _ ht))) ?_ ?_
    · rintro i x H2 H2' hi ⟨s2, hD⟩ ⟨rfl, hx⟩
      have hi2 : i < 2 := hi
      obtain ⟨z, rfl⟩ : ∃ z : Int, x = .int z := by
        have : i = 0 ∨ i = 1 := by omega
        rcases this with rfl | rfl
        · exact ⟨a, (Option.some.inj hx).symm⟩
        · exact ⟨b, (Option.some.inj hx).symm⟩
      refine ⟨rfl, yes_of ?_⟩
      refine iteT ?_
      refine ⟨_, rfl, z, rfl, fun H3 s3 => ?_⟩
      refine ⟨_, s3 _ _ hD, ?_, same_own (s2.trans s3) nD, ?_⟩
      · rw [List.length_map, List.length_replicate]
        exact small1000 (by omega)
      · rw [upd_same, List.replicate_succ', List.map_append]
        rfl
    · rintro H2 ⟨s2, hD⟩
      refine ⟨D2, _, rfl, .inl (.inl hD), ?_⟩
      exact q H2 s2
end
end K42
namespace K42
open PySem L2 PyProof.Rows
/-! ### pairs of vertices -/
/-- the pairs that begin with u: (u, u + d), .. , (u, n - 1) -/
def prU (d n u : Nat) : List (Nat × Nat) := (List.range (n - (u + d))).map fun i => (u, u + d + i)
def prs (d n i : Nat) : List (Nat × Nat) := (List.range i).flatMap (prU d n)
theorem prs_succ (d n i : Nat) : prs d n (i + 1) = prs d n i ++ prU d n i := by
  unfold prs
  rw [List.range_succ, List.flatMap_append]
  simp
theorem prU_take {d n u i : Nat} (h : i < n - (u + d)) : (prU d n u).take (i + 1) = (prU d n u).take i ++ [(u, u + d + i)] := by
  unfold prU
  rw [List.take_add_one, List.getElem?_map, List.getElem?_range h]
  rfl
theorem prU_len (d n u : Nat) : (prU d n u).length = n - (u + d) := by
  unfold prU
  rw [List.length_map, List.length_range]
theorem prs_len {d n i : Nat} (hi : i ≤ n) (hn : n ≤ 5) : (prs d n i).length ≤ 25 := by
  unfold prs
  rw [List.length_flatMap]
  have h : ∀ l : List Nat, (l.map fun u => (prU d n u).length).sum ≤ l.length * n := fun l => by
    induction l with
    | nil => simp
    | cons u l ih =>
      rw [List.map_cons, List.sum_cons, List.length_cons, Nat.succ_mul]
      have := prU_len d n u
      omega
  have h2 := h (List.range i)
  rw [List.length_range] at h2
  refine Nat.le_trans h2 ?_
  exact Nat.le_trans (Nat.mul_le_mul hi (Nat.le_refl n)) (Nat.mul_le_mul hn hn)
theorem prs_len4 : ∀ n, n < 5 → (prs 1 n n).length ≤ 6 := by decide
theorem prs_in : ∀ n, n < 5 → ∀ p ∈ prs 1 n n, p.1 < p.2 ∧ p.2 < n := by decide
def ltP2 (a b : Nat × Nat) : Bool := decide (a.1 < b.1) || (decide (a.1 = b.1) && decide (a.2 < b.2))
theorem prs_asc : ∀ n, n < 5 → (prs 1 n n).Pairwise fun a b => ltP2 a b = true := by decide
def PairAt (H : Hp) (x : V) (p : Nat × Nat) : Prop := ∃ r, x = .ref r ∧ H r = some (.tup [.int (p.1 : Int), .int (p.2 : Int)])
theorem PairAt.keep {H H' : Hp} {x : V} {p : Nat × Nat} (s : SameT H H') (h : PairAt H x p) : PairAt H' x p := by
  obtain ⟨r, e, h1⟩ := h
  exact ⟨r, e, s _ _ h1⟩
abbrev Pairs (H : Hp) (xs : List V) (l : List (Nat × Nat)) : Prop := Paired (PairAt H) xs l
theorem pairs_keep {H H' : Hp} {xs : List V} {l : List (Nat × Nat)} (s : SameT H H') (h : Pairs H xs l) : Pairs H' xs l := h.mono fun _ _ q => q.keep s
theorem paired_append {α β : Type} {F : α → β → Prop} : ∀ {xs ys : List α} {us ws : List β}, Paired F xs us → Paired F ys ws → Paired F (xs ++ ys) (us ++ ws)
  | _, _, _, _, .nil, s => s
  | _, _, _, _, .cons r t, s => .cons r (paired_append t s)
/-! ### couplings by digits -/
def cOf (d : Nat) : Int := ([1, -1, 0, 2, 1, 0, -2, 3, 0, 1, -1, 0] : List Int).getD d 0
def jOf (d : Nat) : Nat := (cOf d).natAbs
def tbl : List V := [.int 1, .int (-1), .int 0, .int 2, .int 1, .int 0, .int (-2), .int 3, .int 0, .int 1, .int (-1), .int 0]
theorem tbl_at {d : Nat} (h : d < 12) : atI tbl (d : Int) = some (.int (cOf d)) := by
  refine atI_nat ?_
  have h2 : ∀ d, d < 12 → tbl[d]? = some (.int (cOf d)) := by decide
  exact h2 d h
theorem jOf_le {d : Nat} (h : d < 12) : jOf d ≤ 3 := by
  have h2 : ∀ d, d < 12 → jOf d ≤ 3 := by decide
  exact h2 d h
def edOf (z : (Nat × Nat) × Nat) : Ed := (z.1.1, z.1.2, jOf z.2)
def edgesOf (l : List ((Nat × Nat) × Nat)) : List Ed := (l.filter fun z => decide (jOf z.2 ≠ 0)).map edOf
/-- edges of at most four vertices, couplings from 1 to 3 -/
structure LE (n : Nat) (E : List Ed) : Prop where
  len : E.length ≤ 6
  ok : ∀ e ∈ E, e.1 < e.2.1 ∧ e.2.1 < n ∧ 1 ≤ e.2.2 ∧ e.2.2 ≤ 3
  asc : E.Pairwise ltE
theorem ltE_of {a b : Ed} (h : ltP2 (a.1, a.2.1) (b.1, b.2.1) = true) : ltE a b := by
  unfold ltP2 at h
  rw [Bool.or_eq_true, Bool.and_eq_true, decide_eq_true_eq, decide_eq_true_eq, decide_eq_true_eq] at h
  exact h
theorem le_of {n : Nat} (hn : n < 5) {ds : List Nat} (hl : ds.length = (prs 1 n n).length) (hd : ∀ d ∈ ds, d < 12) : LE n (edgesOf ((prs 1 n n).zip ds)) := by
  have hz : ((prs 1 n n).zip ds).map (·.1) = prs 1 n n := by
    rw [List.map_fst_zip]
    omega
  have hsub : (((prs 1 n n).zip ds).filter fun z => decide (jOf z.2 ≠ 0)).Sublist ((prs 1 n n).zip ds) := List.filter_sublist
  refine ⟨?_, fun e he => ?_, ?_⟩
  · unfold edgesOf
    rw [List.length_map]
    refine Nat.le_trans hsub.length_le ?_
    rw [List.length_zip, hl, Nat.min_self]
    exact prs_len4 n hn
  · obtain ⟨z, hz2, rfl⟩ := List.mem_map.mp he
    obtain ⟨h1, h2⟩ := List.mem_filter.mp hz2
    have h3 := prs_in n hn z.1 (by rw [← hz]; exact List.mem_map.mpr ⟨z, h1, rfl⟩)
    have h4 := jOf_le (hd z.2 (List.of_mem_zip h1).2)
    have h5 : jOf z.2 ≠ 0 := by simpa using h2
    exact ⟨h3.1, h3.2, Nat.pos_of_ne_zero h5, h4⟩
  · unfold edgesOf
    have h1 := prs_asc n hn
    rw [← hz, List.pairwise_map] at h1
    rw [List.pairwise_map]
    exact (h1.sublist hsub).imp fun {a b} h => ltE_of h
theorem zip_take {α β : Type} {ps : List α} {ds : List β} {i : Nat} {p : α} {d : β} (h1 : ps[i]? = some p) (h2 : ds[i]? = some d) : (ps.zip ds).take (i + 1) = (ps.zip ds).take i ++ [(p, d)] := by
  rw [List.take_add_one, List.getElem?_zip_eq_some.mpr (show ps[i]? = some (p, d).1 ∧ ds[i]? = some (p, d).2 from ⟨h1, h2⟩)]
  rfl
theorem edgesOf_yes {l : List ((Nat × Nat) × Nat)} {z : (Nat × Nat) × Nat} (h : jOf z.2 ≠ 0) : edgesOf (l ++ [z]) = edgesOf l ++ [edOf z] := by
  unfold edgesOf
  rw [List.filter_append, List.filter_cons_of_pos (by simpa using h), List.map_append]
  rfl
theorem edgesOf_no {l : List ((Nat × Nat) × Nat)} {z : (Nat × Nat) × Nat} (h : jOf z.2 = 0) : edgesOf (l ++ [z]) = edgesOf l := by
  unfold edgesOf
  rw [List.filter_append, List.filter_cons_of_neg (by simpa using h)]
  simp
theorem abs_j (d : Nat) : (if cOf d < 0 then -cOf d else cOf d) = (jOf d : Int) := by
  unfold jOf
  split <;> omega
theorem flat_zeros (n : Nat) : (List.replicate n [V.int 0]).flatten = zeros n := by
  unfold zeros
  induction n with
  | zero => rfl
  | succ n ih =>
    rw [List.replicate_succ, List.replicate_succ, List.flatten_cons, ih]
    rfl
section
variable {P : Program} {w : World} {K : PySem.W.Frag} {mg : Str → Option Value} {base : Heap}
/-! ### _law_spins -/
def spLSpins (K : PySem.W.Frag) : Sp := fun vs H Q _ => ∃ (a : Addr) (ns : List Int), vs = [.ref a, .int 1, .int 4, .int 3] ∧ SqL K H a (ns.map V.int) ∧
  ∀ t f e (n : Nat) xs E H', Same H H' → H' t = some (.tup [.ref f, .ref e]) → H' f = some (.lst (zeros n)) → H' e = some (.lst xs) → Edges H' xs E → 1 ≤ n → n ≤ 4 → LE n E → Q (.ref t) H'
theorem scLS : FnScope ["_law_script", "_law_first", "_law_most", "_law_kind", "_law_count", "_law_fields", "_law_pairs", "_law_u", "_law_edges", "_law_digits", "_law_k", "_law_coupling", "_law_v"] ["_law_script", "_law_first", "_law_most", "_law_kind"] (defScope sSpins) := ⟨rfl, rfl, rfl, by decide +kernel, rfl, by decide +kernel, by decide +kernel⟩
theorem ok_lspins {f gC gR : Addr} {fd gdC gdR : FuncData} (F : Fun K "_law_spins" "_law_spins" sSpins f fd) (DC : Dn P w K mg base "_law_cell" 1 ["_law_script", "_law_k"] (spLCell K) gC gdC)
    (DR : Dn P w K mg base "_law_row" 2 ["_law_cell_here", "_law_count", "_law_bound"] spRow gR gdR) (B : Blt mg) : FnOk P w K mg base CX0 3 f fd ["_law_script", "_law_first", "_law_most", "_law_kind"] (spLSpins K) := by
  refine F.ok scLS (fun vs H Q E h => ?_) (fun cdv A outer s H vs Q E hr h => ?_)
  · obtain ⟨a, ns, rfl, _⟩ := h
    rfl
  · obtain ⟨a, ns, rfl, ha, q⟩ := h
    have hr1 : Room 1 _ := hr.mono (by decide)
    refine ⟨_, pss_cons (ps_set (i := 4) scLS.nd rfl (.inl rfl) (pe_op op_add pe_int (pe_op op_mod (pe_call DC.ok hr1 (by rfl) DC.mg DC.kp DC.bi .nil pass0 (pa_cons (pv 0) (pa_cons (pv 1) pa_nil))) (pv 2))))
      (pss_cons (ps_set (i := 5) scLS.nd rfl (.inl rfl) (pe_op op_rep (pe_lst (pa_cons pe_int pa_nil)) (pv 4)))
      (pss_cons (ps_if (pt_cmpR op_lt (pv 3) pe_int (nomark _)) pss_never pss_nil)
      (pss_cons (ps_set (i := 6) scLS.nd rfl (.inl rfl) (pe_lst pa_nil))
      (pss_cons (ps_for PassesOwn.never rfl (pi_range1 (by rfl) B.range (pa_cons (pv 4) pa_nil)) (pg_name (i := 7) scLS.nd rfl (.inr rfl))
        (pss_one (ps_aug (i := 6) scLS.nd rfl (.inl rfl)
          (pe_lc (own := [("_law_v", 12)]) (g := gName 12) rfl scLS.nd (pi_range2 (by rfl) B.range (pa_cons (pe_op op_add (pv 7) pe_int) (pa_cons (pv 4) pa_nil)))
            (blkOk_by (N := ["_law_script", "_law_first", "_law_most", "_law_kind", "_law_count", "_law_fields", "_law_pairs", "_law_u", "_law_edges", "_law_digits", "_law_k", "_law_coupling", "_law_v"]) (sc := defScope sSpins) (own := [("_law_v", 12)]) (by decide +kernel))
            (fun _ _ _ _ _ => pg_name (i := 12) scLS.nd rfl (.inl rfl)) (fun _ _ _ _ _ => pts_nil) (fun _ _ _ _ _ => pe_tup (pa_cons (pv 7) (pa_cons (pv 12) pa_nil)))) iop_ext)))
      (pss_cons (ps_set (i := 8) scLS.nd rfl (.inl rfl) (pe_lst pa_nil))
      (pss_cons (ps_set (i := 9) scLS.nd rfl (.inl rfl) (pe_call DR.ok hr (by rfl) DR.mg DR.kp DR.bi .nil pass0 (pa_cons (pe_call DC.ok hr1 (by rfl) DC.mg DC.kp DC.bi .nil pass0 (pa_cons (pv 0) (pa_cons (pe_op op_add (pv 1) pe_int) pa_nil)))
          (pa_cons (pe_callB call_len_seq (by rfl) B.len PySem.boot_len (pa_cons (pv 6) pa_nil)) (pa_cons pe_int pa_nil)))))
      (pss_cons (ps_for PassesOwn.never rfl (pi_range1 (by rfl) B.range (pa_cons (pe_callB call_len_seq (by rfl) B.len PySem.boot_len (pa_cons (pv 6) pa_nil)) pa_nil)) (pg_name (i := 10) scLS.nd rfl (.inl rfl))
        (pss_cons (ps_set (i := 11) scLS.nd rfl (.inl rfl) (pe_ix ix_tup (pe_tup (pa_cons pe_int (pa_cons (pe_un un_neg pe_int) (pa_cons pe_int (pa_cons pe_int (pa_cons pe_int (pa_cons pe_int (pa_cons (pe_un un_neg pe_int) (pa_cons pe_int (pa_cons pe_int (pa_cons pe_int (pa_cons (pe_un un_neg pe_int) (pa_cons pe_int pa_nil)))))))))))))
            (pe_ix ix_list (pv 9) (pv 10) (fun _ _ => rfl)) (fun _ _ => rfl)))
        (pss_one (ps_if (pt_cmpR op_ne (pv 11) pe_int (nomark _))
          (pss_one (ps_expr (pe_bm PySem.F.plainAttrs_list PySem.F.slot_list_append PySem.F.type_list_append mt_append (pv 8) (pa_cons
            (pe_tup (pa_cons (pe_ix ix_tup (pe_ix ix_list (pv 6) (pv 10) (fun _ _ => rfl)) pe_int (fun _ _ => rfl)) (pa_cons (pe_ix ix_tup (pe_ix ix_list (pv 6) (pv 10) (fun _ _ => rfl)) pe_int (fun _ _ => rfl))
              (pa_cons (pe_ifExp (pt_cmpR op_in_seq (pv 3) (pe_tup (pa_cons pe_int (pa_cons pe_int pa_nil))) (by rfl)) (pe_callB call_abs (by rfl) B.abs (by decide +kernel) (pa_cons (pv 11) pa_nil)) (pv 11)) pa_nil)))) pa_nil)))) pss_nil))))
      (pss_one (ps_ret (pe_tup (pa_cons (pv 5) (pa_cons (pv 8) pa_nil)))))))))))), ?_⟩
    -- _law_count
    refine ⟨_, rfl, _, rfl, a, ns, 1, rfl, ha, fun z => ?_⟩
    obtain ⟨c, ec, c4⟩ := mod_nat (z := z) (b := 4) (by decide)
    have ec : z % 4 = (c : Int) := ec
    refine ⟨_, rfl, z, 4, rfl, rfl, (by show (0 : Int) < 4; decide), 1, _, rfl, rfl, ?_⟩
    obtain ⟨n, hn, n1, n4⟩ : ∃ n : Nat, (1 : Int) + (c : Int) = (n : Int) ∧ 1 ≤ n ∧ n ≤ 4 := ⟨1 + c, by omega, by omega, by omega⟩
    dsimp only
    rw [ec, hn]
    -- _law_fields
    refine ⟨by show 1 ≤ sizeLine; decide, fun l0 nl0 => ⟨_, rfl, l0, (n : Int), _, rfl, rfl, upd_same, by omega, by omega, ?_, fun fl nfl => ?_⟩⟩
    · show 1 * (n : Int).toNat ≤ sizeLine
      rw [Int.toNat_natCast, Nat.one_mul]
      exact Nat.le_of_lt (small1000 (by omega))
    rw [Int.toNat_natCast, flat_zeros]
    have sF : Same H (upd (upd H l0 (.lst [.int 0])) fl (.lst (zeros n))) := (same_new nl0).trans (same_new nfl)
    have hfl : (upd (upd H l0 (.lst [.int 0])) fl (.lst (zeros n))) fl = some (.lst (zeros n)) := upd_same
    generalize upd (upd H l0 (.lst [.int 0])) fl (.lst (zeros n)) = HF at *
    refine ⟨_, rfl, 3, 2, rfl, rfl, _, rfl, ?_⟩
    refine iteF ?_
    -- _law_pairs
    refine ⟨Nat.zero_le _, fun o no => ?_⟩
    refine ⟨_, rfl, (n : Int), rfl, by omega, by omega, ?_⟩
    rw [Int.toNat_natCast]
    refine for_range (lo := 0) (n := n) (fun u σ H2 => ∃ v7, σ = [some (.ref a), some (.int 1), some (.int 4), some (.int 3), some (.int (n : Int)), some (.ref fl), some (.ref o), v7, none, none, none, none, none] ∧ Same HF H2 ∧ ∃ acc, H2 o = some (.lst acc) ∧ Pairs H2 acc (prs 1 n u))
      ⟨none, rfl, same_new no, [], upd_same, .nil⟩ ?_ ?_
    · rintro u σ H2 hu ⟨v7, rfl, s2, acc, ho, hacc⟩
      refine ⟨_, rfl, ?_⟩
      refine ⟨_, rfl, _, _, rfl, rfl, _, rfl, _, _, rfl, ⟨by omega, by omega, by omega, by omega⟩, fun D nD => ?_⟩
      have noD : o ≠ D := ne_of_none ho nD
      have em : ((n : Int) - (0 + (u : Int) + 1)).toNat = n - (u + 1) := by omega
      rw [em]
      refine it_run (walk_range (lo := 0 + (u : Int) + 1) (n := n - (u + 1))) (fun j H3 => Same H2 H3 ∧ ∃ acc2, H3 D = some (.lst acc2) ∧ Pairs H3 acc2 ((prU 1 n u).take j))
        ⟨same_new nD, [], upd_same, .nil⟩ (fun j H3 _ _ => trivial) ?_ ?_
      · rintro j x H3 H3' hj ⟨s3, acc2, hD, hacc2⟩ ⟨rfl, rfl⟩
        refine ⟨rfl, yes_of ?_⟩
        refine iteT ?_
        refine ⟨_, rfl, _, rfl, by show 2 ≤ sizeLine; decide, fun t nt => ?_⟩
        have s4 : Same H3' (upd H3' t (.tup [.int (0 + (u : Int)), .int (0 + (u : Int) + 1 + (j : Int))])) := same_new nt
        have h4 : (upd H3' t (.tup [.int (0 + (u : Int)), .int (0 + (u : Int) + 1 + (j : Int))])) t = _ := upd_same
        generalize upd H3' t (.tup [.int (0 + (u : Int)), .int (0 + (u : Int) + 1 + (j : Int))]) = H4 at *
        have hD4 := s4 _ _ hD
        have k4 := sameT_lst (o := .lst (acc2 ++ [.ref t])) hD4
        have hal : acc2.length ≤ j := by
          rw [hacc2.length, List.length_take]
          omega
        refine ⟨acc2, hD4, small1000 (by omega), same_own (s3.trans s4) nD, _, upd_same, ?_⟩
        rw [prU_take hj]
        refine Paired.snoc (pairs_keep k4 (pairs_keep (Same.t s4) hacc2)) ⟨t, rfl, k4 _ _ ?_⟩
        rw [h4]
        show some (HO.tup [V.int (0 + (u : Int)), V.int (0 + (u : Int) + 1 + (j : Int))]) = some (HO.tup [V.int (u : Int), V.int ((u + 1 + j : Nat) : Int)])
        rw [show (0 : Int) + (u : Int) + 1 + (j : Int) = ((u + 1 + j : Nat) : Int) by omega, show (0 : Int) + (u : Int) = (u : Int) by omega]
      · rintro H3 ⟨s3, acc2, hD, hacc2⟩
        rw [List.take_of_length_le (by rw [prU_len]; exact Nat.le_refl _)] at hacc2
        have ho3 := s3 _ _ ho
        have k3 := sameT_lst (o := .lst (acc ++ acc2)) ho3
        have hl1 : acc.length ≤ 25 := by
          rw [hacc.length]
          exact prs_len (Nat.le_of_lt hu) (by omega)
        have hl2 : acc2.length ≤ 5 := by
          rw [hacc2.length, prU_len]
          omega
        refine ⟨o, D, acc, acc2, rfl, rfl, ho3, hD, Nat.le_of_lt (small1000 (by omega)), ?_⟩
        refine ⟨_, rfl, same_own (s2.trans s3) no, _, upd_same, ?_⟩
        rw [prs_succ]
        exact paired_append (pairs_keep k3 (pairs_keep (Same.t s3) hacc)) (pairs_keep k3 hacc2)
    rintro σ HB ⟨v7, rfl, sB, pl, ho, hpl⟩
    have hS : Same H HB := sF.trans sB
    have hpl6 : pl.length ≤ 6 := by
      rw [hpl.length]
      exact prs_len4 n (by omega)
    -- _law_edges, _law_digits
    refine ⟨Nat.zero_le _, fun e ne => ?_⟩
    have sE : Same HB (upd HB e (.lst [])) := same_new ne
    have he0 : (upd HB e (.lst [])) e = some (.lst []) := upd_same
    generalize upd HB e (.lst []) = HE at *
    refine ⟨_, rfl, _, rfl, _, _, rfl, rfl, a, ns, 3, rfl, sE.seq (hS.seq ha), fun z2 => ⟨_, rfl, o, pl, rfl, .inl (.inl (.inl (sE _ _ ho))), z2, pl.length, 12, rfl, by omega, by decide, by decide, fun dd ds HD sD ndd hdd hdl hdlt => ?_⟩⟩
    -- for _law_k in range(len(_law_pairs))
    refine ⟨_, rfl, o, pl, rfl, .inl (.inl (.inl (sD _ _ (sE _ _ ho)))), (pl.length : Int), rfl, by omega, by omega, ?_⟩
    rw [Int.toNat_natCast]
    have hzl : ((prs 1 n n).zip ds).length = pl.length := by
      rw [List.length_zip, hpl.length, hdl, hpl.length, Nat.min_self]
    have hed : e ≠ dd := ne_of_none he0 ndd
    refine for_range (lo := 0) (n := pl.length) (fun k σ H2 => ∃ v10 v11, σ = [some (.ref a), some (.int 1), some (.int 4), some (.int 3), some (.int (n : Int)), some (.ref fl), some (.ref o), v7, some (.ref e), some (.ref dd), v10, v11, none] ∧ Same HB H2 ∧ H2 dd = some (.lst (ds.map fun d : Nat => V.int (d : Int))) ∧ ∃ acc, H2 e = some (.lst acc) ∧ Edges H2 acc (edgesOf (((prs 1 n n).zip ds).take k)))
      ⟨none, none, rfl, sE.trans sD, hdd, [], sD _ _ he0, .nil⟩ ?_ ?_
    · rintro k σ H2 hk ⟨v10, v11, rfl, s2, hd2, acc, he2, hacc⟩
      obtain ⟨xp, hxp⟩ : ∃ xp, pl[k]? = some xp := ⟨_, List.getElem?_eq_getElem hk⟩
      obtain ⟨p, hp, rp, rfl, hrp⟩ := paired_get (pairs_keep (Same.t s2) hpl) hxp
      obtain ⟨d, hd⟩ : ∃ d, ds[k]? = some d := ⟨_, List.getElem?_eq_getElem (by omega)⟩
      have hd12 : d < 12 := hdlt d (List.mem_of_getElem? hd)
      have htk := zip_take hp hd
      have ez : (0 : Int) + (k : Int) = (k : Int) := Int.zero_add _
      -- the coupling
      refine ⟨_, rfl, _, rfl, _, rfl, by show 12 ≤ sizeLine; decide, fun tt ntt => ?_⟩
      have s3 := same_new (o := .tup tbl) ntt
      have htt : (upd H2 tt (.tup tbl)) tt = some (.tup tbl) := upd_same
      show tOp _ _ _ _ (upd H2 tt (.tup tbl)) _
      generalize upd H2 tt (.tup tbl) = H3 at *
      refine ⟨_, rfl, _, rfl, dd, _, _, .int (d : Int), rfl, rfl, .inl (.inl (s3 _ _ hd2)), at_of ez (by rw [List.getElem?_map, hd]; rfl), tt, tbl, _, _, rfl, rfl, .inl (.inl htt), tbl_at hd12, ?_⟩
      refine ⟨_, rfl, rfl, _, rfl, ?_⟩
      by_cases h0 : cOf d = 0
      · rw [decide_eq_true (show V.int (cOf d) = V.int 0 by rw [h0])]
        refine iteF ⟨_, _, rfl, s2.trans s3, s3 _ _ hd2, acc, s3 _ _ he2, ?_⟩
        rw [htk, edgesOf_no (show jOf d = 0 by unfold jOf; rw [h0]; rfl)]
        exact edges_keep (Same.t s3) hacc
      · rw [decide_eq_false (fun q => h0 (V.int.inj q))]
        refine iteT ?_
        have ho3 : H3 o = some (.lst pl) := s3 _ _ (s2 _ _ ho)
        have hrp3 := s3 _ _ hrp
        refine ⟨_, rfl, .inl ⟨rfl, _, .inl (.inl (s3 _ _ he2))⟩, ?_⟩
        refine ⟨_, rfl, _, rfl, o, pl, _, .ref rp, rfl, rfl, .inl (.inl ho3), at_of ez hxp, rp, _, _, _, rfl, rfl, .inl (.inl hrp3), at0, ?_⟩
        refine ⟨_, rfl, _, rfl, o, pl, _, .ref rp, rfl, rfl, .inl (.inl ho3), at_of ez hxp, rp, _, _, _, rfl, rfl, .inl (.inl hrp3), at1, ?_⟩
        refine ⟨_, rfl, by show 2 ≤ sizeLine; decide, fun t2 nt2 => ⟨t2, _, rfl, .inr (.inl (.inl upd_same)), rfl, rfl, true, rfl, ?_⟩⟩
        refine iteT ?_
        have s4 : Same H3 (upd H3 t2 (.tup [.int 1, .int 3])) := same_new nt2
        generalize upd H3 t2 (.tup [.int 1, .int 3]) = H4 at *
        refine ⟨_, rfl, cOf d, rfl, by show 3 ≤ sizeLine; decide, fun t3 nt3 => ?_⟩
        rw [abs_j]
        have s5 : Same H4 (upd H4 t3 (.tup [.int (p.1 : Int), .int (p.2 : Int), .int (jOf d : Int)])) := same_new nt3
        have h5 : (upd H4 t3 (.tup [.int (p.1 : Int), .int (p.2 : Int), .int (jOf d : Int)])) t3 = _ := upd_same
        generalize upd H4 t3 (.tup [.int (p.1 : Int), .int (p.2 : Int), .int (jOf d : Int)]) = H5 at *
        have s25 : Same H2 H5 := (s3.trans s4).trans s5
        have he5 := s25 _ _ he2
        have k5 := sameT_lst (o := .lst (acc ++ [.ref t3])) he5
        have hal : acc.length ≤ 6 := by
          rw [hacc.length]
          unfold edgesOf
          rw [List.length_map]
          refine Nat.le_trans (List.length_filter_le _ _) ?_
          rw [List.length_take]
          omega
        refine ⟨e, acc, _, rfl, rfl, he5, small1000 (by omega), ?_⟩
        refine ⟨_, _, rfl, same_own (s2.trans s25) ne, ?_, _, upd_same, ?_⟩
        · rw [upd_ne hed.symm]
          exact s25 _ _ hd2
        · rw [htk, edgesOf_yes (show jOf (p, d).2 ≠ 0 from fun q => h0 (Int.natAbs_eq_zero.mp q))]
          exact Paired.snoc (edges_keep k5 (edges_keep (Same.t s25) hacc)) ⟨t3, rfl, k5 _ _ h5⟩
    · rintro σ H2 ⟨v10, v11, rfl, s2, hd2, acc, he2, hacc⟩
      rw [List.take_of_length_le (by omega)] at hacc
      refine ⟨_, rfl, _, rfl, by show 2 ≤ sizeLine; decide, fun t nt => ?_⟩
      have s3 : Same H2 (upd H2 t (.tup [.ref fl, .ref e])) := same_new nt
      exact q t fl e n acc _ _ ((hS.trans s2).trans s3) upd_same (s3 _ _ (s2 _ _ (sB _ _ hfl))) (s3 _ _ he2) (edges_keep (Same.t s3) hacc) n1 n4 (le_of (by omega) (by rw [hdl, hpl.length]) hdlt)
end
end K42
namespace K42
open PySem L2 PyProof.Rows
def CorrAt (a b : Int) (n : Nat) (E : List Ed) (H : Hp) (y : V) (p : Nat × Nat) : Prop := ∃ t N D, y = .ref t ∧ H t = some (.tup [.int N, .int D]) ∧ Corr a b n E p.1 p.2 N D
theorem CorrAt.keep {a b : Int} {n : Nat} {E : List Ed} {H H' : Hp} {y : V} {p : Nat × Nat} (s : SameT H H') (h : CorrAt a b n E H y p) : CorrAt a b n E H' y p := by
  obtain ⟨t, N, D, e, h1, c⟩ := h
  exact ⟨t, N, D, e, s _ _ h1, c⟩
abbrev Corrs (a b : Int) (n : Nat) (E : List Ed) (H : Hp) (ys : List V) (l : List (Nat × Nat)) : Prop := Paired (CorrAt a b n E H) ys l
theorem corrs_keep {a b : Int} {n : Nat} {E : List Ed} {H H' : Hp} {ys : List V} {l : List (Nat × Nat)} (s : SameT H H') (h : Corrs a b n E H ys l) : Corrs a b n E H' ys l := h.mono fun _ _ q => q.keep s
section
variable {P : Program} {w : World} {K : PySem.W.Frag} {mg : Str → Option Value} {base : Heap}
/-! ### _law_all_pairs -/
def spAll (K : PySem.W.Frag) : Sp := fun vs H Q _ => ∃ (f e : Addr) (n : Nat) (xs : List V) (E : List Ed) (x : V) (a b : Int), vs = [.ref f, .ref e, x] ∧ SqL K H f (zeros n) ∧ SqL K H e xs ∧ Edges H xs E ∧ 1 ≤ n ∧ n ≤ 5 ∧ EdsOk n E ∧ tot E ≤ 25 ∧ FrAt K H x a b ∧ 0 < a ∧ a ≤ b ∧ b ≤ 4 ∧
  ∀ o ys H', Same H H' → H' o = some (.lst ys) → Corrs a b n E H' ys (prs 0 n n) → Q (.ref o) H'
theorem scAll : FnScope ["_law_fields", "_law_edges", "_law_x", "_law_spins_here", "_law_found", "_law_u", "_law_v"] ["_law_fields", "_law_edges", "_law_x"] (defScope sAllPairs) := ⟨rfl, rfl, rfl, by decide +kernel, rfl, by decide +kernel, by decide +kernel⟩
theorem ok_all {f C gI gC : Addr} {fd gdI gdC : FuncData} (F : Fun K "_law_all_pairs" "_law_all_pairs" sAllPairs f fd) (M : Mk K C gI) (GI : FnOk P w K mg base CX0 1 gI gdI ["self", "fields", "edges"] (spInit K C)) (bI : Binds K gdI ["self", "fields", "edges"] []) (mC : mg "Spins" = some (.ref C))
    (DC : Dn P w K mg base "correlation" 5 ["spins", "u", "v", "x", "y"] (spCorr K C) gC gdC) (B : Blt mg) : FnOk P w K mg base CX0 6 f fd ["_law_fields", "_law_edges", "_law_x"] (spAll K) := by
  refine F.ok scAll (fun vs H Q E h => ?_) (fun cdv A outer s H vs Q E hr h => ?_)
  · obtain ⟨f, e, n, xs, E, x, a, b, rfl, _⟩ := h
    rfl
  · obtain ⟨fa, ea, n, xs, E, x, a, b, rfl, hf, he, hE, n1, n5, ok, hJ, hx, a0, ab, b4, q⟩ := h
    have hr2 : Room 2 _ := hr.mono (by decide)
    refine ⟨_, pss_cons (ps_set (i := 3) scAll.nd rfl (.inr rfl) (pe_make M GI hr2 (by rfl) mC bI .nil pass0 (pa_cons (pv 0) (pa_cons (pv 1) pa_nil))))
      (pss_cons (ps_set (i := 4) scAll.nd rfl (.inl rfl) (pe_lst pa_nil))
      (pss_cons (ps_for PassesOwn.never rfl (pi_range1 (by rfl) B.range (pa_cons (pe_callB call_len_seq (by rfl) B.len PySem.boot_len (pa_cons (pv 0) pa_nil)) pa_nil)) (pg_name (i := 5) scAll.nd rfl (.inr rfl))
        (pss_one (ps_aug (i := 4) scAll.nd rfl (.inl rfl)
          (pe_lc (own := [("_law_v", 6)]) (g := gName 6) rfl scAll.nd (pi_range2 (by rfl) B.range (pa_cons (pv 5) (pa_cons (pe_callB call_len_seq (by rfl) B.len PySem.boot_len (pa_cons (pv 0) pa_nil)) pa_nil)))
            (blkOk_by (N := ["_law_fields", "_law_edges", "_law_x", "_law_spins_here", "_law_found", "_law_u", "_law_v"]) (sc := defScope sAllPairs) (own := [("_law_v", 6)]) (by decide +kernel))
            (fun _ _ _ _ _ => pg_name (i := 6) scAll.nd rfl (.inl rfl)) (fun _ _ _ _ _ => pts_nil)
            (fun _ _ _ _ _ => pe_call DC.ok hr (by rfl) DC.mg DC.kp DC.bi .nil pass0 (pa_cons (pv 3) (pa_cons (pv 5) (pa_cons (pv 6) (pa_cons (pv 2) (pa_cons (pe_tup (pa_cons pe_int (pa_cons pe_int pa_nil))) pa_nil))))))) iop_ext)))
      (pss_one (ps_ret (pv 4))))), ?_⟩
    have hzl : ((zeros n).length : Int) = (n : Int) := by
      unfold zeros
      rw [List.length_replicate]
    -- Spins(..)
    refine ⟨_, rfl, _, rfl, fun p dx np ndx nex => ?_⟩
    have s0 : Same H (upd (upd H dx (.own p)) p (.ins C dx [])) := fun b o e => by
      rw [upd_ne (ne_of_none e np), upd_ne (ne_of_none e ndx)]
      exact e
    refine ⟨p, dx, fa, ea, n, xs, E, rfl, upd_same, s0.seq hf, s0.seq he, edges_keep (Same.t s0) hE, n1, by omega, ok, fun H1 hS kp => ⟨rfl, ?_⟩⟩
    have s1 : Same H H1 := fun b o e => kp b o (s0 b o e) (ne_of_none e np)
    -- _law_found = []
    refine ⟨Nat.zero_le _, fun o no => ?_⟩
    have s2 := same_new (o := .lst []) no
    refine ⟨_, rfl, fa, _, rfl, .inl (s2.seq (s1.seq hf)), (n : Int), by rw [hzl], by omega, by omega, ?_⟩
    rw [Int.toNat_natCast]
    refine for_range (lo := 0) (n := n) (fun u σ H2 => ∃ v5, σ = [some (.ref fa), some (.ref ea), some x, some (.ref p), some (.ref o), v5, none] ∧ Same H1 H2 ∧ ∃ acc, H2 o = some (.lst acc) ∧ Corrs a b n E H2 acc (prs 0 n u))
      ⟨none, rfl, s2, [], upd_same, .nil⟩ ?_ ?_
    · rintro u σ H2 hu ⟨v5, rfl, s2, acc, ho, hacc⟩
      refine ⟨_, rfl, ?_⟩
      refine ⟨_, rfl, _, rfl, fa, _, rfl, .inl (s2.seq (s1.seq hf)), _, (n : Int), by rw [hzl], ⟨by omega, by omega, by omega, by omega⟩, fun D nD => ?_⟩
      have em : ((n : Int) - (0 + (u : Int))).toNat = n - (u + 0) := by omega
      rw [em]
      refine it_run (walk_range (lo := 0 + (u : Int)) (n := n - (u + 0))) (fun j H3 => Same H2 H3 ∧ ∃ acc2, H3 D = some (.lst acc2) ∧ Corrs a b n E H3 acc2 ((prU 0 n u).take j))
        ⟨same_new nD, [], upd_same, .nil⟩ (fun j H3 _ _ => trivial) ?_ ?_
      · rintro j y H3 H3' hj ⟨s3, acc2, hD, hacc2⟩ ⟨rfl, rfl⟩
        refine ⟨rfl, yes_of ?_⟩
        refine iteT ?_
        refine ⟨_, rfl, _, rfl, _, rfl, _, rfl, by show 2 ≤ sizeLine; decide, fun t nt => ?_⟩
        have s4 : Same H3' (upd H3' t (.tup [.int 1, .int 1])) := same_new nt
        have h4 : (upd H3' t (.tup [.int 1, .int 1])) t = some (.tup [.int 1, .int 1]) := upd_same
        generalize upd H3' t (.tup [.int 1, .int 1]) = H4 at *
        have s14 : Same H1 H4 := (s2.trans s3).trans s4
        have e1 : (0 : Int) + (u : Int) = ((u : Nat) : Int) := by omega
        have e2 : (0 : Int) + (u : Int) + (j : Int) = ((u + 0 + j : Nat) : Int) := by omega
        refine ⟨p, n, E, u, u + 0 + j, x, .ref t, a, b, (by
          show ([V.ref p, V.int (0 + (u : Int)), V.int (0 + (u : Int) + (j : Int)), x, V.ref t] : List V) = [V.ref p, V.int (u : Int), V.int ((u + 0 + j : Nat) : Int), x, V.ref t]
          rw [e2, e1]), hS.keep s14, n5, ok, hJ, hu, by omega, hx.keep (s1.trans s14), ⟨t, rfl, .inl (.inl h4)⟩, a0, ab, b4, fun r N D' H5 s5 h5 hc => ?_⟩
        have s25 : Same H3' H5 := s4.trans s5
        have hD5 := s25 _ _ hD
        have k5 := sameT_lst (o := .lst (acc2 ++ [.ref r])) hD5
        have hal : acc2.length ≤ j := by
          rw [hacc2.length, List.length_take]
          omega
        refine ⟨acc2, hD5, small1000 (by omega), same_own (s3.trans s25) nD, _, upd_same, ?_⟩
        rw [prU_take hj]
        exact Paired.snoc (corrs_keep k5 (corrs_keep (Same.t s25) hacc2)) ⟨r, N, D', rfl, k5 _ _ h5, hc⟩
      · rintro H3 ⟨s3, acc2, hD, hacc2⟩
        rw [List.take_of_length_le (by rw [prU_len]; exact Nat.le_refl _)] at hacc2
        have ho3 := s3 _ _ ho
        have k3 := sameT_lst (o := .lst (acc ++ acc2)) ho3
        have hl1 : acc.length ≤ 25 := by
          rw [hacc.length]
          exact prs_len (Nat.le_of_lt hu) n5
        have hl2 : acc2.length ≤ 5 := by
          rw [hacc2.length, prU_len]
          omega
        refine ⟨o, D, acc, acc2, rfl, rfl, ho3, hD, Nat.le_of_lt (small1000 (by omega)), ?_⟩
        refine ⟨_, rfl, same_own (s2.trans s3) no, _, upd_same, ?_⟩
        rw [prs_succ]
        exact paired_append (corrs_keep k3 (corrs_keep (Same.t s3) hacc)) (corrs_keep k3 hacc2)
    · rintro σ H2 ⟨v5, rfl, s2, acc, ho, hacc⟩
      exact ⟨_, rfl, q o acc H2 (s1.trans s2) ho hacc⟩
end
end K42
namespace K42
open PySem L2 PyProof.Rows
/-! ### edges, and one coupling more -/
def keyE (e : Ed) : Nat × Nat := (e.1, e.2.1)
def same (a b : Nat) (e : Ed) : Bool := e.1 == a && e.2.1 == b
theorem same_iff {a b : Nat} {e : Ed} : same a b e = true ↔ e.1 = a ∧ e.2.1 = b := by
  unfold same
  rw [Bool.and_eq_true, beq_iff_eq, beq_iff_eq]
theorem LE.keys {n : Nat} {E : List Ed} (h : LE n E) : E.Pairwise fun x y => keyE x ≠ keyE y := h.asc.imp fun {x y} lt e => by
  have e1 : x.1 = y.1 := congrArg (fun p : Nat × Nat => p.1) e
  have e2 : x.2.1 = y.2.1 := congrArg (fun p : Nat × Nat => p.2) e
  rcases lt with lt | lt <;> omega
theorem LE.eds {n : Nat} {E : List Ed} (h : LE n E) : EdsOk (n + 1) E := by
  refine ⟨by have := h.len; omega, fun e he => ?_, h.asc⟩
  obtain ⟨h1, h2, h3, h4⟩ := h.ok e he
  omega
theorem tot_le : ∀ {E : List Ed}, (∀ e ∈ E, e.2.2 ≤ 3) → tot E ≤ 3 * E.length
  | [], _ => Nat.le_refl _
  | e :: E, h => by
    have ih := tot_le (E := E) fun x hx => h x (List.mem_cons_of_mem _ hx)
    have h1 := h e List.mem_cons_self
    show e.2.2 + tot E ≤ 3 * (E.length + 1)
    omega
theorem LE.tot {n : Nat} {E : List Ed} (h : LE n E) : tot E ≤ 18 := by
  have h1 := tot_le (E := E) fun e he => (h.ok e he).2.2.2
  have h2 := h.len
  omega
theorem tot_append : ∀ E F : List Ed, tot (E ++ F) = tot E + tot F
  | [], F => (Nat.zero_add _).symm
  | e :: E, F => by
    show e.2.2 + tot (E ++ F) = e.2.2 + tot E + tot F
    rw [tot_append E F, Nat.add_assoc]
theorem tot_perm {E F : List Ed} (h : E.Perm F) : tot E = tot F := by
  induction h with
  | nil => rfl
  | cons e _ ih => exact congrArg (e.2.2 + ·) ih
  | swap x y l =>
    show y.2.2 + (x.2.2 + tot l) = x.2.2 + (y.2.2 + tot l)
    omega
  | trans _ _ h1 h2 => exact h1.trans h2
theorem tot_filter (f : Ed → Bool) : ∀ E : List Ed, tot (E.filter f) + tot (E.filter fun e => !f e) = tot E
  | [] => rfl
  | e :: E => by
    have ih := tot_filter f E
    show _ = e.2.2 + tot E
    cases h : f e
    · rw [List.filter_cons_of_neg (by simp [h]), List.filter_cons_of_pos (by simp [h])]
      show tot (E.filter f) + (e.2.2 + tot (E.filter fun e => !f e)) = _
      omega
    · rw [List.filter_cons_of_pos (by simp [h]), List.filter_cons_of_neg (by simp [h])]
      show e.2.2 + tot (E.filter f) + tot (E.filter fun e => !f e) = _
      omega
theorem same_one {a b : Nat} : ∀ {E : List Ed}, (E.Pairwise fun x y => keyE x ≠ keyE y) → (E.filter (same a b)).length ≤ 1
  | [], _ => Nat.zero_le _
  | e :: E, h => by
    rw [List.pairwise_cons] at h
    cases hs : same a b e
    · rw [List.filter_cons_of_neg (by simp [hs])]
      exact same_one h.2
    · rw [List.filter_cons_of_pos hs]
      have he := same_iff.mp hs
      have z : E.filter (same a b) = [] := List.filter_eq_nil_iff.mpr fun x hx hx2 => by
        have hx3 := same_iff.mp hx2
        refine h.1 x hx ?_
        show (e.1, e.2.1) = (x.1, x.2.1)
        rw [he.1, he.2, hx3.1, hx3.2]
      rw [z]
      exact Nat.le_refl _
theorem sum_tot : ∀ E : List Ed, (E.map fun e => (e.2.2 : Int)).sum = (tot E : Int)
  | [] => rfl
  | e :: E => by
    rw [List.map_cons, List.sum_cons, sum_tot E]
    show (e.2.2 : Int) + (tot E : Int) = ((e.2.2 + tot E : Nat) : Int)
    omega
section
variable {n a b m : Nat} {E F : List Ed}
theorem old_le (h : LE n E) : tot (E.filter (same a b)) ≤ 3 := by
  have h1 := same_one (a := a) (b := b) h.keys
  have h2 := tot_le (E := E.filter (same a b)) fun e he => (h.ok e (List.mem_filter.mp he).1).2.2.2
  omega
theorem more_eq : more a b m E = (E.filter fun e => !same a b e) ++ [(a, b, m + tot (E.filter (same a b)))] := rfl
theorem more_ok (h : LE n E) (ab : a < b) (bn : b < n + 1) (m1 : 1 ≤ m) (m3 : m ≤ 3) : ∀ e ∈ more a b m E, e.1 < e.2.1 ∧ e.2.1 < n + 1 ∧ 1 ≤ e.2.2 ∧ e.2.2 ≤ 6 := by
  intro e he
  rw [more_eq] at he
  rcases List.mem_append.mp he with he | he
  · obtain ⟨h1, h2, h3, h4⟩ := h.ok e (List.mem_filter.mp he).1
    omega
  · rw [List.mem_singleton.mp he]
    have h1 := old_le (a := a) (b := b) h
    show a < b ∧ b < n + 1 ∧ 1 ≤ m + tot (E.filter (same a b)) ∧ m + tot (E.filter (same a b)) ≤ 6
    omega
theorem more_len (h : LE n E) : (more a b m E).length ≤ 7 := by
  rw [more_eq, List.length_append]
  have h1 : (E.filter fun e => !same a b e).length ≤ E.length := List.length_filter_le _ _
  have h2 := h.len
  show _ + 1 ≤ 7
  omega
theorem more_keys (h : LE n E) : (more a b m E).Pairwise fun x y => keyE x ≠ keyE y := by
  rw [more_eq, List.pairwise_append]
  refine ⟨h.keys.sublist List.filter_sublist, List.pairwise_singleton _ _, fun x hx y hy e => ?_⟩
  rw [List.mem_singleton.mp hy] at e
  have h1 := (List.mem_filter.mp hx).2
  have h2 : same a b x = true := same_iff.mpr ⟨congrArg Prod.fst e, congrArg Prod.snd e⟩
  rw [h2] at h1
  cases h1
theorem more_tot : tot (more a b m E) = tot E + m := by
  rw [more_eq, tot_append]
  have h1 := tot_filter (same a b) E
  show tot (E.filter fun e => !same a b e) + (m + tot (E.filter (same a b)) + 0) = tot E + m
  omega
def codeE (e : Ed) : Int := TS.code 16 [(e.1 : Int), (e.2.1 : Int), (e.2.2 : Int)]
theorem codeE_eq (e : Ed) : codeE e = (e.1 : Int) * 256 + (e.2.1 : Int) * 16 + (e.2.2 : Int) := by
  show (e.1 : Int) * 16 ^ 2 + ((e.2.1 : Int) * 16 ^ 1 + ((e.2.2 : Int) * 16 ^ 0 + 0)) = _
  have e2 : (16 : Int) ^ 2 = 256 := by decide
  have e1 : (16 : Int) ^ 1 = 16 := by decide
  have e0 : (16 : Int) ^ 0 = 1 := by decide
  rw [e2, e1, e0]
  omega
theorem sorted_ok (h : LE n E) (n4 : n ≤ 4) (ab : a < b) (bn : b < n + 1) (m1 : 1 ≤ m) (m3 : m ≤ 3) (hp : F.Perm (more a b m E)) (hs : F.Pairwise fun x y => codeE x ≤ codeE y) : EdsOk (n + 1) F := by
  have hok : ∀ e ∈ F, e.1 < e.2.1 ∧ e.2.1 < n + 1 ∧ 1 ≤ e.2.2 ∧ e.2.2 ≤ 6 := fun e he => more_ok h ab bn m1 m3 e (hp.mem_iff.mp he)
  have hk : F.Pairwise fun x y => keyE x ≠ keyE y := hp.symm.pairwise (more_keys h) fun {x y} q z => q z.symm
  refine ⟨by rw [hp.length_eq]; have := more_len (a := a) (b := b) (m := m) h; omega, fun e he => ?_, ?_⟩
  · have := hok e he
    omega
  · refine List.Pairwise.imp_of_mem (fun {x y} hx hy q => ?_) (hs.and hk)
    obtain ⟨q1, q2⟩ := q
    have hx := hok x hx
    have hy := hok y hy
    rw [codeE_eq, codeE_eq] at q1
    have q3 : ¬ (x.1 = y.1 ∧ x.2.1 = y.2.1) := fun z => q2 (by show (x.1, x.2.1) = (y.1, y.2.1); rw [z.1, z.2])
    show x.1 < y.1 ∨ (x.1 = y.1 ∧ x.2.1 < y.2.1)
    omega
end
/-! ### correlations -/
theorem EdsOk.inn {n : Nat} {E : List Ed} (h : EdsOk n E) : In n E := fun e he => by
  obtain ⟨h1, h2, _⟩ := h.ok e he
  exact ⟨by omega, h2⟩
section
variable {a b : Int} {n u v : Nat} {E F : List Ed} {N D N' D' : Int}
theorem corr_nonneg (c : Corr a b n E u v N D) (a0 : 0 < a) (ab : a ≤ b) (ok : EdsOk n E) (hu : u < n) (hv : v < n) : 0 ≤ N := by
  have hP : 0 ≤ Ps a b n E [u, v] := P_nonneg a0 ab ok.inn fun i hi => by
    rcases List.mem_cons.mp hi with h | h
    · omega
    · have := List.mem_singleton.mp h
      omega
  have hZ : 0 < Ps a b n E [] := P_pos a0 ab
  have e := c.val
  have h1 := Int.mul_nonneg (Int.le_of_lt c.pos) hP
  refine Int.not_lt.mp fun h => ?_
  have h2 := Int.mul_neg_of_neg_of_pos h hZ
  omega
theorem corr_le (c : Corr a b n E u v N D) (a0 : 0 < a) (ab : a ≤ b) : N ≤ D := by
  have hP : Ps a b n E [u, v] ≤ Ps a b n E [] := P_le a0 ab [u, v]
  have hZ : 0 < Ps a b n E [] := P_pos a0 ab
  have e := c.val
  have h1 := Int.mul_le_mul_of_nonneg_left hP (Int.le_of_lt c.pos)
  rw [← e] at h1
  exact Int.le_of_mul_le_mul_right h1 hZ
theorem corr_self (c : Corr a b n E u u N D) (a0 : 0 < a) (ab : a ≤ b) : N = 1 ∧ D = 1 := by
  have hZ : 0 < Ps a b n E [] := P_pos a0 ab
  have e := c.val
  rw [P_self] at e
  exact c.one (Int.eq_of_mul_eq_mul_right (show Ps a b n E [] ≠ 0 by omega) e)
theorem corr_more (c : Corr a b n E u v N D) (c' : Corr a b n F u v N' D') (a0 : 0 < a) (ab : a ≤ b) (ok : EdsOk n E) (hu : u < n) (hv : v < n) {p q m : Nat} (hp : p < n) (hq : q < n) (hF : ∀ s, W a b F s = W a b E s * w1 a b (p, q, m) s) : ¬ N' * D < N * D' := by
  have g := P_more a0 ab ok.inn hp hq hF (A := [u, v]) fun i hi => by
    rcases List.mem_cons.mp hi with h | h
    · omega
    · have := List.mem_singleton.mp h
      omega
  have hZ : 0 < Ps a b n E [] := P_pos a0 ab
  have hZ' : 0 < Ps a b n F [] := P_pos a0 ab
  have e := c.val
  have e' := c'.val
  generalize Ps a b n E [u, v] = P1 at *
  generalize Ps a b n F [u, v] = P2 at *
  generalize Ps a b n E [] = Z1 at *
  generalize Ps a b n F [] = Z2 at *
  intro hlt
  have hz : 0 < Z1 * Z2 := Int.mul_pos hZ hZ'
  have h1 : N' * D * (Z1 * Z2) < N * D' * (Z1 * Z2) := Int.mul_lt_mul_of_pos_right hlt hz
  have h2 : N' * D * (Z1 * Z2) = (D * D') * (P2 * Z1) := by
    have x1 : N' * D * (Z1 * Z2) = N' * Z2 * (D * Z1) := by simp only [Int.mul_comm, Int.mul_assoc, Int.mul_left_comm]
    rw [x1, e']
    simp only [Int.mul_comm, Int.mul_assoc, Int.mul_left_comm]
  have h3 : N * D' * (Z1 * Z2) = (D * D') * (P1 * Z2) := by
    have x1 : N * D' * (Z1 * Z2) = N * Z1 * (D' * Z2) := by simp only [Int.mul_comm, Int.mul_assoc, Int.mul_left_comm]
    rw [x1, e]
    simp only [Int.mul_comm, Int.mul_assoc, Int.mul_left_comm]
  rw [h2, h3] at h1
  have h4 := Int.mul_le_mul_of_nonneg_left g (Int.le_of_lt (Int.mul_pos c.pos c'.pos))
  omega
end
/-! ### places of pairs -/
theorem prs_at : ∀ n, n < 6 → ∀ i, i < n → (prs 0 n n)[(prs 0 n i).length]? = some (i, i) := by decide
theorem prs_off (n i : Nat) : (prs 0 n (i + 1)).length = (prs 0 n i).length + (n - i) := by
  rw [prs_succ, List.length_append, prU_len]
  rfl
theorem prs_in0 : ∀ n, n < 6 → ∀ p ∈ prs 0 n n, p.1 < n ∧ p.2 < n := by decide
theorem paired_perm {α β : Type} {G : α → β → Prop} {ys xs : List α} (h : ys.Perm xs) : ∀ {es : List β}, Paired G xs es → ∃ es', es'.Perm es ∧ Paired G ys es' := by
  induction h with
  | nil => exact fun {es} p => ⟨es, List.Perm.refl _, p⟩
  | cons x _ ih =>
    intro es p
    cases p with
    | cons r t =>
      obtain ⟨es', h1, h2⟩ := ih t
      exact ⟨_, h1.cons _, .cons r h2⟩
  | swap x y l =>
    intro es p
    cases p with
    | cons r t =>
      cases t with
      | cons r2 t2 => exact ⟨_, List.Perm.swap _ _ _, .cons r2 (.cons r t2)⟩
  | trans _ _ ih1 ih2 =>
    intro es p
    obtain ⟨e1, h1, h2⟩ := ih2 p
    obtain ⟨e2, h3, h4⟩ := ih1 h2
    exact ⟨e2, h3.trans h1, h4⟩
theorem eqv_pair (a b c d : Int) : PyData.eqv (.tuple [.int a, .int b]) (.tuple [.int c, .int d]) = (decide (a = c) && decide (b = d)) := by
  show ((a == c) && ((b == d) && true)) = _
  rw [Bool.and_true]
  rfl
theorem shaped_pair (a b : Int) : SeqAt.shaped (.tuple [.int a, .int b]) = true := by rfl
end K42
namespace K42
open PySem L2 PyProof.Rows
theorem zeros_snoc (n : Nat) : zeros n ++ [V.int 0] = zeros (n + 1) := by
  unfold zeros
  rw [List.replicate_succ']
theorem zeros_len (n : Nat) : (zeros n).length = n := by
  unfold zeros
  rw [List.length_replicate]
theorem same_dec (a b : Nat) (e : Ed) : (decide ((e.1 : Int) = (a : Int)) && decide ((e.2.1 : Int) = (b : Int))) = same a b e := by
  unfold same
  congr 1
  · by_cases h : e.1 = a
    · rw [decide_eq_true (show (e.1 : Int) = (a : Int) by omega), h, beq_self_eq_true]
    · rw [decide_eq_false (show ¬ (e.1 : Int) = (a : Int) by omega), beq_eq_false_iff_ne.mpr h]
  · by_cases h : e.2.1 = b
    · rw [decide_eq_true (show (e.2.1 : Int) = (b : Int) by omega), h, beq_self_eq_true]
    · rw [decide_eq_false (show ¬ (e.2.1 : Int) = (b : Int) by omega), beq_eq_false_iff_ne.mpr h]
theorem paired_get2 {α β : Type} {G : α → β → Prop} : ∀ {xs : List α} {ys : List β} {i : Nat} {y : β}, Paired G xs ys → ys[i]? = some y → ∃ x, xs[i]? = some x ∧ G x y
  | _, _, _, _, .nil, e => by simp at e
  | _, _, 0, _, .cons r _, e => by simp at e; subst e; exact ⟨_, rfl, r⟩
  | _, _, i + 1, y, .cons _ t, e => by
    obtain ⟨u, h1, h2⟩ := paired_get2 (i := i) (y := y) t (by simpa using e)
    exact ⟨u, by simpa using h1, h2⟩
theorem cut2 (a b c : V) : cutV [a, b, c] none (some 2) = [a, b] := rfl
theorem notwhole : ¬ (HT.sIx 3 0 none = 0 ∧ HT.sIx 3 3 (some 2) = 3) := by decide
section
variable {P : Program} {w : World} {K : PySem.W.Frag} {mg : Str → Option Value} {base : Heap}
/-! ### law -/
def spLaw (K : PySem.W.Frag) : Sp := fun vs H Q _ => ∃ (a : Addr) (ns : List Int), vs = [.ref a] ∧ SqL K H a (ns.map V.int) ∧ ∀ H', Q (.bl true) H'
abbrev nsLaw : List Str := ["_law_script", "_law_fields", "_law_edges", "_law_cell_here", "_law_bottom", "_law_x", "_law_u", "_law_v", "_law_more", "_law_old", "_law_first", "_law_second", "_law_at", "_law_vertex", "_law_k", "_law_edge", "_law_one"]
theorem scLaw : FnScope nsLaw ["_law_script"] (defScope sLaw) := ⟨rfl, rfl, rfl, by decide +kernel, rfl, by decide +kernel, by decide +kernel⟩
theorem ok_law {f gS gC gF gA gT gL : Addr} {fd gdS gdC gdF gdA gdT gdL : FuncData} (F : Fun K "law" "law" sLaw f fd)
    (DS : Dn P w K mg base "_law_spins" 3 ["_law_script", "_law_first", "_law_most", "_law_kind"] (spLSpins K) gS gdS)
    (DC : Dn P w K mg base "_law_cell" 1 ["_law_script", "_law_k"] (spLCell K) gC gdC)
    (DF : Dn P w K mg base "_law_frac" 2 ["_law_a", "_law_b"] spFrac gF gdF)
    (DA : Dn P w K mg base "_law_all_pairs" 6 ["_law_fields", "_law_edges", "_law_x"] (spAll K) gA gdA)
    (DT : Dn P w K mg base "_law_tuples" 2 ["_law_thing"] spTupT gT gdT)
    (DL : Dn P w K mg base "_law_less" 1 ["_law_p", "_law_q"] (spLess K) gL gdL) (B : Blt mg) : FnOk P w K mg base CX0 7 f fd ["_law_script"] (spLaw K) := by
  refine F.ok scLaw (fun vs H Q E h => ?_) (fun cdv A outer s H vs Q E hr h => ?_)
  · obtain ⟨a, ns, rfl, _⟩ := h
    rfl
  · obtain ⟨a, ns, rfl, ha, q⟩ := h
    have hr1 : Room 1 _ := hr.mono (by decide)
    have hr2 : Room 2 _ := hr.mono (by decide)
    have hr3 : Room 3 _ := hr.mono (by decide)
    refine ⟨_, pss_cons (ps_asg (pe_call DS.ok hr3 (by rfl) DS.mg DS.kp DS.bi .nil pass0 (pa_cons (pv 0) (pa_cons pe_int (pa_cons pe_int (pa_cons pe_int pa_nil)))))
        (pg_tup rfl (pgs_cons (pg_name (i := 1) scLaw.nd rfl (.inl rfl)) (pgs_cons (pg_name (i := 2) scLaw.nd rfl (.inl rfl)) pgs_nil))))
      (pss_cons (ps_set (i := 1) scLaw.nd rfl (.inl rfl) (pe_op op_cat (pv 1) (pe_lst (pa_cons pe_int pa_nil))))
      (pss_cons (ps_set (i := 3) scLaw.nd rfl (.inl rfl) (pe_callB call_abs (by rfl) B.abs (by decide +kernel) (pa_cons (pe_call DC.ok hr1 (by rfl) DC.mg DC.kp DC.bi .nil pass0 (pa_cons (pv 0) (pa_cons pe_int pa_nil))) pa_nil)))
      (pss_cons (ps_set (i := 4) scLaw.nd rfl (.inl rfl) (pe_op op_add pe_int (pe_op op_mod (pv 3) pe_int)))
      (pss_cons (ps_set (i := 5) scLaw.nd rfl (.inl rfl) (pe_call DF.ok hr2 (by rfl) DF.mg DF.kp DF.bi .nil pass0 (pa_cons (pe_op op_add pe_int (pe_op op_mod (pe_op op_fdiv (pv 3) pe_int) (pv 4))) (pa_cons (pv 4) pa_nil))))
      (pss_cons (ps_set (i := 6) scLaw.nd rfl (.inr rfl) (pe_op op_mod (pe_op op_fdiv (pv 3) pe_int) (pe_op op_sub (pe_callB call_len_seq (by rfl) B.len PySem.boot_len (pa_cons (pv 1) pa_nil)) pe_int)))
      (pss_cons (ps_set (i := 7) scLaw.nd rfl (.inr rfl) (pe_op op_add (pe_op op_add (pv 6) pe_int) (pe_op op_mod (pe_op op_fdiv (pv 3) pe_int) (pe_op op_sub (pe_op op_sub (pe_callB call_len_seq (by rfl) B.len PySem.boot_len (pa_cons (pv 1) pa_nil)) pe_int) (pv 6)))))
      (pss_cons (ps_setLc (i := 8) (own := [("_law_edge", 15)]) (g := gName 15) (tt := tTest (tOp (rNeD K) (tSl (rSlT K) (tVar 15) tNoPart (tPart (tC (.int 2)))) (tTup (tCons (tVar 6) (tCons (tVar 7) tNil))))) rfl scLaw.nd rfl rfl (sw_true rfl rfl rfl (by decide +kernel)) (pi_list (pv 2))
          (blkOk_by (N := nsLaw) (sc := defScope sLaw) (own := [("_law_edge", 15)]) (by decide +kernel)) (fun _ _ _ _ _ => pg_name (i := 15) scLaw.nd rfl (.inl rfl))
          (fun _ _ _ _ _ => pts_one (pt_cmpR (op_neD hr.units) (pe_slice sl_tup (pv 15) po_none (po_some pe_int)) (pe_tup (pa_cons (pv 6) (pa_cons (pv 7) pa_nil))) (nomark _))) (fun _ _ _ _ _ => pv 15))
      (pss_cons (ps_setLc (i := 9) (own := [("_law_edge", 15)]) (g := gName 15) (tt := tTest (tOp (rEqD K) (tSl (rSlT K) (tVar 15) tNoPart (tPart (tC (.int 2)))) (tTup (tCons (tVar 6) (tCons (tVar 7) tNil))))) (te := tOp (rIxT K) (tVar 15) (tC (.int 2))) rfl scLaw.nd rfl rfl (sw_true rfl rfl rfl (by decide +kernel)) (pi_list (pv 2))
          (blkOk_by (N := nsLaw) (sc := defScope sLaw) (own := [("_law_edge", 15)]) (by decide +kernel)) (fun _ _ _ _ _ => pg_name (i := 15) scLaw.nd rfl (.inl rfl))
          (fun _ _ _ _ _ => pts_one (pt_cmpR (op_eqD hr.units) (pe_slice sl_tup (pv 15) po_none (po_some pe_int)) (pe_tup (pa_cons (pv 6) (pa_cons (pv 7) pa_nil))) (nomark _))) (fun _ _ _ _ _ => pe_ix ix_tup (pv 15) pe_int (fun _ _ => rfl)))
      (pss_cons (ps_set (i := 8) scLaw.nd rfl (.inl rfl) (pe_callB (cr_sortT (d := 3) (B := 16) (by decide)) (by rfl) B.sorted (by decide +kernel) (pa_cons (pe_op op_cat (pv 8) (pe_lst (pa_cons
          (pe_tup (pa_cons (pv 6) (pa_cons (pv 7) (pa_cons (pe_op op_add (pe_op op_add pe_int (pe_op op_mod (pe_op op_fdiv (pv 3) pe_int) pe_int)) (pe_callB (cr_sum rfl) (by rfl) B.sum (by decide +kernel) (pa_cons (pv 9) pa_nil))) pa_nil)))) pa_nil))) pa_nil)))
      (pss_cons (ps_set (i := 10) scLaw.nd rfl (.inl rfl) (pe_call DA.ok hr (by rfl) DA.mg DA.kp DA.bi .nil pass0 (pa_cons (pv 1) (pa_cons (pv 2) (pa_cons (pv 5) pa_nil)))))
      (pss_cons (ps_set (i := 11) scLaw.nd rfl (.inl rfl) (pe_call DA.ok hr (by rfl) DA.mg DA.kp DA.bi .nil pass0 (pa_cons (pv 1) (pa_cons (pv 8) (pa_cons (pv 5) pa_nil)))))
      (pss_cons (ps_if (pt_not (pt_val (pe_callB (cr_all rfl) (by rfl) B.all (by decide +kernel) (pa_cons
          (pe_lc (own := [("_law_one", 16)]) (g := gName 16) rfl scLaw.nd (pi_list (pe_op op_cat (pv 10) (pv 11))) (blkOk_by (N := nsLaw) (sc := defScope sLaw) (own := [("_law_one", 16)]) (by decide +kernel))
            (fun _ _ _ _ _ => pg_name (i := 16) scLaw.nd rfl (.inl rfl)) (fun _ _ _ _ _ => pts_nil) (fun _ _ _ _ _ => pe_call DT.ok hr2 (by rfl) DT.mg DT.kp DT.bi .nil pass0 (pa_cons (pv 16) pa_nil))) pa_nil))))
        (pss_one (ps_ret pe_bl)) pss_nil)
      (pss_cons (ps_set (i := 12) scLaw.nd rfl (.inl rfl) pe_int)
      (pss_cons (ps_for PassesOwn.never rfl (pi_range1 (by rfl) B.range (pa_cons (pe_callB call_len_seq (by rfl) B.len PySem.boot_len (pa_cons (pv 1) pa_nil)) pa_nil)) (pg_name (i := 13) scLaw.nd rfl (.inl rfl))
        (pss_cons (ps_if (PW.pt (pw_or (pt_cmpR (op_neD hr.units) (pe_ix ix_list (pv 10) (pv 12) (fun _ _ => rfl)) (pe_tup (pa_cons pe_int (pa_cons pe_int pa_nil))) (nomark _))
            (pw_or1 (pt_cmpR (op_neD hr.units) (pe_ix ix_list (pv 11) (pv 12) (fun _ _ => rfl)) (pe_tup (pa_cons pe_int (pa_cons pe_int pa_nil))) (nomark _)))))
          (pss_one (ps_ret pe_bl)) pss_nil)
        (pss_one (ps_aug (i := 12) scLaw.nd rfl (.inl rfl) (pe_op op_sub (pe_callB call_len_seq (by rfl) B.len PySem.boot_len (pa_cons (pv 1) pa_nil)) (pv 13)) ip_add))))
      (pss_cons (ps_for PassesOwn.never rfl (pi_range1 (by rfl) B.range (pa_cons (pe_callB call_len_seq (by rfl) B.len PySem.boot_len (pa_cons (pv 10) pa_nil)) pa_nil)) (pg_name (i := 14) scLaw.nd rfl (.inl rfl))
        (pss_one (ps_if (PW.pt (pw_or (pt_cmpR op_lt (pe_ix ix_tup (pe_ix ix_list (pv 10) (pv 14) (fun _ _ => rfl)) pe_int (fun _ _ => rfl)) pe_int (nomark _))
            (pw_or (pt_cmpR op_gt (pe_ix ix_tup (pe_ix ix_list (pv 10) (pv 14) (fun _ _ => rfl)) pe_int (fun _ _ => rfl)) (pe_ix ix_tup (pe_ix ix_list (pv 10) (pv 14) (fun _ _ => rfl)) pe_int (fun _ _ => rfl)) (nomark _))
            (pw_or1 (pt_val (pe_call DL.ok hr1 (by rfl) DL.mg DL.kp DL.bi .nil pass0 (pa_cons (pe_ix ix_list (pv 11) (pv 14) (fun _ _ => rfl)) (pa_cons (pe_ix ix_list (pv 10) (pv 14) (fun _ _ => rfl)) pa_nil))))))))
          (pss_one (ps_ret pe_bl)) pss_nil)))
      (pss_one (ps_ret pe_bl))))))))))))))))), ?_⟩
    -- _law_fields, _law_edges
    refine ⟨_, rfl, a, ns, rfl, ha, fun t fl0 ea n xs E H1 s1 ht hfl0 he hE n1 n4 hle => ?_⟩
    refine ⟨t, _, rfl, .inl (.inl ht), rfl, _, _, rfl, _, _, rfl, rfl, ?_⟩
    -- _law_fields + [0]
    refine ⟨_, rfl, by show 1 ≤ sizeLine; decide, fun l1 nl1 => ?_⟩
    have sa : Same H1 (upd H1 l1 (.lst [.int 0])) := same_new nl1
    have hl1 : (upd H1 l1 (.lst [.int 0])) l1 = some (.lst [.int 0]) := upd_same
    generalize upd H1 l1 (.lst [.int 0]) = Ha at *
    refine ⟨fl0, l1, zeros n, [.int 0], rfl, rfl, sa _ _ hfl0, hl1, (by rw [zeros_len]; exact Nat.le_of_lt (small1000 (by show n + 1 ≤ 1000; omega))), fun fa nfa => ?_⟩
    rw [zeros_snoc]
    have sb : Same Ha (upd Ha fa (.lst (zeros (n + 1)))) := same_new nfa
    have hfa : (upd Ha fa (.lst (zeros (n + 1)))) fa = some (.lst (zeros (n + 1))) := upd_same
    generalize upd Ha fa (.lst (zeros (n + 1))) = H2 at *
    have S12 : Same H1 H2 := sa.trans sb
    have S2 : Same H H2 := s1.trans S12
    have hlen : (((zeros (n + 1)).length : Nat) : Int) - 1 = (n : Int) := by
      rw [zeros_len]
      omega
    -- _law_cell_here
    refine ⟨_, rfl, a, ns, 0, rfl, S2.seq ha, fun z => ⟨z, rfl, ?_⟩⟩
    have hz : (if z < 0 then -z else z) = (z.natAbs : Int) := by split <;> omega
    rw [hz]
    generalize z.natAbs = c
    -- _law_bottom
    refine ⟨_, rfl, _, _, rfl, rfl, (by show (0 : Int) < 4; decide), _, _, rfl, rfl, ?_⟩
    obtain ⟨bt, hbt, bt1, bt4⟩ : ∃ bt : Nat, (1 : Int) + (c : Int) % 4 = (bt : Int) ∧ 1 ≤ bt ∧ bt ≤ 4 := ⟨1 + c % 4, by omega, by omega, by omega⟩
    dsimp only
    rw [hbt]
    -- _law_x
    obtain ⟨xn, hxn, hxl⟩ := mod_nat (z := (c : Int) / 4) (b := bt) (by omega)
    refine ⟨_, rfl, _, _, rfl, rfl, ⟨by decide, by decide⟩, _, rfl, _, _, rfl, rfl, (by show (0 : Int) < (bt : Int); omega), _, _, rfl, rfl, _, rfl, 1 + xn, bt, ?_, by omega, by omega, bt4, fun xt xa xb H3 s3 hxt xa0 xab xb4 => ?_⟩
    · show ([V.int (1 + (c : Int) / 4 % (bt : Int)), V.int (bt : Int)] : List V) = [V.int ((1 + xn : Nat) : Int), V.int (bt : Int)]
      rw [hxn, show (1 : Int) + (xn : Int) = ((1 + xn : Nat) : Int) by omega]
    have S3 : Same H H3 := S2.trans s3
    have hfa3 := s3 _ _ hfa
    have he3 := s3 _ _ (S12 _ _ he)
    have hE3 := edges_keep (Same.t (S12.trans s3)) hE
    -- _law_u
    obtain ⟨u, hu, un⟩ := mod_nat (z := (c : Int) / 32) (b := n) (by omega)
    refine ⟨_, rfl, _, _, rfl, rfl, ⟨by decide, by decide⟩, _, rfl, fa, _, rfl, .inl (.inl (.inl hfa3)), _, _, rfl, rfl, _, _, rfl, rfl, (by show (0 : Int) < (((zeros (n + 1)).length : Nat) : Int) - 1; rw [hlen]; omega), ?_⟩
    dsimp only
    rw [hlen, hu]
    -- _law_v
    obtain ⟨k, hk, kn⟩ := mod_nat (z := (c : Int) / 256) (b := n - u) (by omega)
    have hnu : (n : Int) - (u : Int) = ((n - u : Nat) : Int) := by omega
    refine ⟨_, rfl, _, _, rfl, rfl, _, rfl, _, _, rfl, rfl, ⟨by decide, by decide⟩, _, rfl, fa, _, rfl, .inl (.inl (.inl hfa3)), _, _, rfl, rfl, _, rfl, _, _, rfl, rfl, _, _, rfl, rfl, (by show (0 : Int) < (((zeros (n + 1)).length : Nat) : Int) - 1 - (u : Int); rw [hlen]; omega), _, _, rfl, rfl, ?_⟩
    dsimp only
    rw [hlen, hnu, hk]
    obtain ⟨v, hv, uv, vn⟩ : ∃ v : Nat, (u : Int) + 1 + (k : Int) = (v : Int) ∧ u < v ∧ v < n + 1 := ⟨u + 1 + k, by omega, by omega, by omega⟩
    rw [hv]
    -- _law_more = [..]
    refine ⟨_, rfl, ea, rfl, ⟨_, .inl (.inl he3)⟩, fun D1 nD1 => ?_⟩
    refine it_run (walk_list (K := K) (a := ea) (xs := xs)) (fun i H4 => Same H3 H4 ∧ ∃ acc, H4 D1 = some (.lst acc) ∧ Edges H4 acc ((E.take i).filter fun e => !same u v e))
      ⟨same_new nD1, [], upd_same, .nil⟩ (fun i H4 _ ⟨s4, _⟩ => .inl (.inl (s4 _ _ he3))) ?_ ?_
    · rintro i x H4 H4' hi ⟨s4, acc, hD, hacc⟩ ⟨rfl, hx⟩
      obtain ⟨e, hei, r, rfl, hrr⟩ := paired_get (edges_keep (Same.t s4) hE3) hx
      refine ⟨rfl, ?_⟩
      refine ⟨_, rfl, _, rfl, r, _, rfl, .inl (.inl hrr), notwhole, fun p1 np1 => ?_⟩
      rw [cut2]
      have s5 : Same H4' (upd H4' p1 (.tup [.int (e.1 : Int), .int (e.2.1 : Int)])) := same_new np1
      have h5 : (upd H4' p1 (.tup [.int (e.1 : Int), .int (e.2.1 : Int)])) p1 = some (.tup [.int (e.1 : Int), .int (e.2.1 : Int)]) := upd_same
      generalize upd H4' p1 (.tup [.int (e.1 : Int), .int (e.2.1 : Int)]) = H5 at *
      refine ⟨_, rfl, _, rfl, by show 2 ≤ sizeLine; decide, fun p2 np2 => ?_⟩
      have s6 : Same H5 (upd H5 p2 (.tup [.int (u : Int), .int (v : Int)])) := same_new np2
      have h6 : (upd H5 p2 (.tup [.int (u : Int), .int (v : Int)])) p2 = some (.tup [.int (u : Int), .int (v : Int)]) := upd_same
      generalize upd H5 p2 (.tup [.int (u : Int), .int (v : Int)]) = H6 at *
      have s46 : Same H4' H6 := s5.trans s6
      refine ⟨_, _, .tup (.inl (.inl (s6 _ _ h5))) (.cons (.int _) (.cons (.int _) .nil)), .tup (.inl (.inl h6)) (.cons (.int _) (.cons (.int _) .nil)), shaped_pair _ _, shaped_pair _ _, _, rfl, ?_⟩
      rw [eqv_pair, same_dec]
      have htk : E.take (i + 1) = E.take i ++ [e] := by
        rw [List.take_add_one, hei]
        rfl
      have hD6 := s46 _ _ hD
      cases hs : same u v e
      · refine iteT ?_
        have hal : acc.length ≤ 6 := by
          rw [hacc.length]
          refine Nat.le_trans (List.length_filter_le _ _) ?_
          rw [List.length_take]
          have := hle.len
          omega
        have k6 := sameT_lst (o := .lst (acc ++ [.ref r])) hD6
        refine ⟨_, rfl, acc, hD6, small1000 (by omega), same_own (s4.trans s46) nD1, _, upd_same, ?_⟩
        rw [htk, List.filter_append, List.filter_cons_of_pos (by rw [hs]; rfl)]
        exact Paired.snoc (edges_keep k6 (edges_keep (Same.t s46) hacc)) ⟨r, rfl, k6 _ _ (s46 _ _ hrr)⟩
      · refine iteF ⟨s4.trans s46, acc, hD6, ?_⟩
        rw [htk, List.filter_append, List.filter_cons_of_neg (by rw [hs]; decide)]
        rw [List.filter_nil, List.append_nil]
        exact edges_keep (Same.t s46) hacc
    rintro H4 ⟨s4, am, hD1, ham⟩
    have hxl' : E.take xs.length = E := List.take_of_length_le (by rw [hE.length]; exact Nat.le_refl _)
    rw [hxl'] at ham
    have he4 := s4 _ _ he3
    have hE4 := edges_keep (Same.t s4) hE3
    -- _law_old = [..]
    refine ⟨_, rfl, ea, rfl, ⟨_, .inl (.inl he4)⟩, fun D2 nD2 => ?_⟩
    refine it_run (walk_list (K := K) (a := ea) (xs := xs)) (fun i H5 => Same H4 H5 ∧ H5 D2 = some (.lst ((((E.take i).filter (same u v)).map fun e => (e.2.2 : Int)).map V.int)))
      ⟨same_new nD2, upd_same⟩ (fun i H5 _ ⟨s5, _⟩ => .inl (.inl (s5 _ _ he4))) ?_ ?_
    · rintro i x H5 H5' hi ⟨s5, hD⟩ ⟨rfl, hx⟩
      obtain ⟨e, hei, r, rfl, hrr⟩ := paired_get (edges_keep (Same.t s5) hE4) hx
      refine ⟨rfl, ?_⟩
      refine ⟨_, rfl, _, rfl, r, _, rfl, .inl (.inl hrr), notwhole, fun p1 np1 => ?_⟩
      rw [cut2]
      have s6 : Same H5' (upd H5' p1 (.tup [.int (e.1 : Int), .int (e.2.1 : Int)])) := same_new np1
      have h6 : (upd H5' p1 (.tup [.int (e.1 : Int), .int (e.2.1 : Int)])) p1 = some (.tup [.int (e.1 : Int), .int (e.2.1 : Int)]) := upd_same
      generalize upd H5' p1 (.tup [.int (e.1 : Int), .int (e.2.1 : Int)]) = H6 at *
      refine ⟨_, rfl, _, rfl, by show 2 ≤ sizeLine; decide, fun p2 np2 => ?_⟩
      have s7 : Same H6 (upd H6 p2 (.tup [.int (u : Int), .int (v : Int)])) := same_new np2
      have h7 : (upd H6 p2 (.tup [.int (u : Int), .int (v : Int)])) p2 = some (.tup [.int (u : Int), .int (v : Int)]) := upd_same
      generalize upd H6 p2 (.tup [.int (u : Int), .int (v : Int)]) = H7 at *
      have s57 : Same H5' H7 := s6.trans s7
      refine ⟨_, _, .tup (.inl (.inl (s7 _ _ h6))) (.cons (.int _) (.cons (.int _) .nil)), .tup (.inl (.inl h7)) (.cons (.int _) (.cons (.int _) .nil)), shaped_pair _ _, shaped_pair _ _, _, rfl, ?_⟩
      rw [eqv_pair, same_dec]
      have htk : E.take (i + 1) = E.take i ++ [e] := by
        rw [List.take_add_one, hei]
        rfl
      have hD7 := s57 _ _ hD
      cases hs : same u v e
      · refine iteF ⟨s5.trans s57, ?_⟩
        rw [htk, List.filter_append, List.filter_cons_of_neg (by rw [hs]; decide), List.filter_nil, List.append_nil]
        exact hD7
      · refine iteT ?_
        refine ⟨_, rfl, r, _, _, .int (e.2.2 : Int), rfl, rfl, .inl (.inl (s57 _ _ hrr)), atI_nat (j := 2) rfl, _, hD7, ?_, same_own (s5.trans s57) nD2, ?_⟩
        · rw [List.length_map, List.length_map]
          refine small1000 (Nat.le_trans (List.length_filter_le _ _) ?_)
          rw [List.length_take]
          have := hle.len
          omega
        · rw [upd_same, htk, List.filter_append, List.filter_cons_of_pos hs, List.map_append, List.map_append]
          rfl
    rintro H5 ⟨s5, hD2⟩
    rw [hxl'] at hD2
    have S35 : Same H3 H5 := s4.trans s5
    have hD15 := s5 _ _ hD1
    have ham5 := edges_keep (Same.t s5) ham
    -- sorted(..)
    obtain ⟨k2, hk2, k23⟩ := mod_nat (z := (c : Int) / 2048) (b := 3) (by decide)
    have hk2 : (c : Int) / 2048 % 3 = (k2 : Int) := hk2
    refine ⟨_, rfl, _, rfl, _, rfl, _, rfl, _, _, rfl, rfl, ⟨by decide, by decide⟩, _, _, rfl, rfl, (by show (0 : Int) < 3; decide), _, _, rfl, rfl, _, rfl, D2, _, rfl, .inl (.inl hD2), _, _, rfl, rfl, ?_⟩
    dsimp only
    rw [sum_tot, hk2]
    have hmm : (1 : Int) + (k2 : Int) + (tot (E.filter (same u v)) : Int) = ((1 + k2 + tot (E.filter (same u v)) : Nat) : Int) := by omega
    rw [hmm]
    refine ⟨by show 3 ≤ sizeLine; decide, fun tt ntt => ?_⟩
    have sc : Same H5 (upd H5 tt (.tup [.int (u : Int), .int (v : Int), .int ((1 + k2 + tot (E.filter (same u v)) : Nat) : Int)])) := same_new ntt
    have htt : (upd H5 tt (.tup [.int (u : Int), .int (v : Int), .int ((1 + k2 + tot (E.filter (same u v)) : Nat) : Int)])) tt = some (.tup [.int (u : Int), .int (v : Int), .int ((1 + k2 + tot (E.filter (same u v)) : Nat) : Int)]) := upd_same
    generalize upd H5 tt (.tup [.int (u : Int), .int (v : Int), .int ((1 + k2 + tot (E.filter (same u v)) : Nat) : Int)]) = Hc at *
    refine ⟨by show 1 ≤ sizeLine; decide, fun tl ntl => ?_⟩
    have sd : Same Hc (upd Hc tl (.lst [.ref tt])) := same_new ntl
    have htl : (upd Hc tl (.lst [.ref tt])) tl = some (.lst [.ref tt]) := upd_same
    generalize upd Hc tl (.lst [.ref tt]) = Hd at *
    have hal : am.length ≤ 6 := by
      rw [ham.length]
      exact Nat.le_trans (List.length_filter_le _ _) hle.len
    refine ⟨D1, tl, am, [.ref tt], rfl, rfl, sd _ _ (sc _ _ hD15), htl, Nat.le_of_lt (small1000 (by show am.length + 1 ≤ 1000; omega)), fun ml nml => ?_⟩
    have se : Same Hd (upd Hd ml (.lst (am ++ [.ref tt]))) := same_new nml
    have hml : (upd Hd ml (.lst (am ++ [.ref tt]))) ml = some (.lst (am ++ [.ref tt])) := upd_same
    generalize upd Hd ml (.lst (am ++ [.ref tt])) = He at *
    have S5e : Same H5 He := (sc.trans sd).trans se
    have hEm : Edges He (am ++ [.ref tt]) (more u v (1 + k2) E) := by
      rw [more_eq]
      exact Paired.snoc (edges_keep (Same.t S5e) ham5) ⟨tt, rfl, se _ _ (sd _ _ htt)⟩
    have hmok := more_ok (m := 1 + k2) hle uv vn (by omega) (by omega)
    refine ⟨ml, am ++ [.ref tt], rfl, .inl (.inl hml), by rw [List.length_append]; show am.length + 1 < 64; omega, fun x hx => ?_, fun ys pp hperm hpw npp => ?_⟩
    · obtain ⟨i, hi⟩ := List.mem_iff_getElem?.mp hx
      obtain ⟨e, hei, r, rfl, hrr⟩ := paired_get hEm hi
      obtain ⟨g1, g2, g3, g4⟩ := hmok e (List.mem_of_getElem? hei)
      refine ⟨[(e.1 : Int), (e.2.1 : Int), (e.2.2 : Int)], ⟨r, rfl, .inl (.inl hrr)⟩, rfl, fun y hy => ?_⟩
      have hy' : y = (e.1 : Int) ∨ y = (e.2.1 : Int) ∨ y = (e.2.2 : Int) := by simpa using hy
      omega
    obtain ⟨E2, hE2p, hE2⟩ := paired_perm hperm hEm
    have hE2s : E2.Pairwise fun x y => codeE x ≤ codeE y := by
      rw [List.pairwise_iff_getElem]
      intro i j hi hj hij
      obtain ⟨x, hx, r1, rfl, hr1⟩ := paired_get2 hE2 (List.getElem?_eq_getElem hi)
      obtain ⟨y, hy, r2, rfl, hr2⟩ := paired_get2 hE2 (List.getElem?_eq_getElem hj)
      obtain ⟨hi2, ex⟩ := List.getElem?_eq_some_iff.mp hx
      obtain ⟨hj2, ey⟩ := List.getElem?_eq_some_iff.mp hy
      have z := List.pairwise_iff_getElem.mp hpw i j hi2 hj2 hij
      rw [ex, ey] at z
      exact z [((E2[i]).1 : Int), ((E2[i]).2.1 : Int), ((E2[i]).2.2 : Int)] [((E2[j]).1 : Int), ((E2[j]).2.1 : Int), ((E2[j]).2.2 : Int)] ⟨r1, rfl, .inl (.inl hr1)⟩ ⟨r2, rfl, .inl (.inl hr2)⟩
    have ok1 := hle.eds
    have ok2 := sorted_ok hle n4 uv vn (by omega) (by omega) hE2p hE2s
    have tot1 := hle.tot
    have tot2 : tot E2 ≤ 25 := by
      rw [tot_perm hE2p, more_tot]
      omega
    have hW : ∀ s, W xa xb E2 s = W xa xb E s * w1 xa xb (u, v, 1 + k2) s := fun s => by
      rw [W_perm xa xb s hE2p, W_more]
    have sf : Same He (upd He pp (.lst ys)) := same_new npp
    have hpp : (upd He pp (.lst ys)) pp = some (.lst ys) := upd_same
    generalize upd He pp (.lst ys) = Hf at *
    have S3f : Same H3 Hf := (S35.trans S5e).trans sf
    have hE2f := edges_keep (Same.t sf) hE2
    have hxf : FrAt K Hf (.ref xt) xa xb := ⟨xt, rfl, .inl (.inl (S3f _ _ hxt))⟩
    -- _law_first
    refine ⟨_, rfl, _, rfl, _, rfl, fa, ea, n + 1, xs, E, .ref xt, xa, xb, rfl, .inl (.inl (S3f _ _ hfa3)), .inl (.inl (S3f _ _ he3)), edges_keep (Same.t S3f) hE3, by omega, by omega, ok1, by omega, hxf, xa0, xab, xb4, fun o1 ys1 H7 s7 ho1 hc1 => ?_⟩
    have S37 : Same H3 H7 := S3f.trans s7
    -- _law_second
    refine ⟨_, rfl, _, rfl, _, rfl, fa, pp, n + 1, ys, E2, .ref xt, xa, xb, rfl, .inl (.inl (S37 _ _ hfa3)), .inl (.inl (s7 _ _ hpp)), edges_keep (Same.t s7) hE2f, by omega, by omega, ok2, tot2, hxf.keep s7, xa0, xab, xb4, fun o2 ys2 H8 s8 ho2 hc2 => ?_⟩
    have S38 : Same H3 H8 := S37.trans s8
    have ho1 := s8 _ _ ho1
    have hc1 := corrs_keep (Same.t s8) hc1
    have hfa8 := S38 _ _ hfa3
    have hl1 : ys1.length ≤ 25 := by
      rw [hc1.length]
      exact prs_len (Nat.le_refl _) (by omega)
    have hl2 : ys2.length ≤ 25 := by
      rw [hc2.length]
      exact prs_len (Nat.le_refl _) (by omega)
    -- not all(..)
    refine ⟨_, rfl, _, rfl, o1, o2, ys1, ys2, rfl, rfl, ho1, ho2, Nat.le_of_lt (small1000 (by omega)), fun cl ncl => ?_⟩
    have s9 : Same H8 (upd H8 cl (.lst (ys1 ++ ys2))) := same_new ncl
    have hcl : (upd H8 cl (.lst (ys1 ++ ys2))) cl = some (.lst (ys1 ++ ys2)) := upd_same
    generalize upd H8 cl (.lst (ys1 ++ ys2)) = H9 at *
    refine ⟨cl, rfl, ⟨_, .inl (.inl hcl)⟩, fun D3 nD3 => ?_⟩
    have hall : ∀ x ∈ ys1 ++ ys2, ∃ t N D, x = V.ref t ∧ H9 t = some (.tup [.int N, .int D]) := fun x hx => by
      rcases List.mem_append.mp hx with hx | hx
      · obtain ⟨i, hi⟩ := List.mem_iff_getElem?.mp hx
        obtain ⟨_, _, t, N, D, e, h, _⟩ := paired_get hc1 hi
        exact ⟨t, N, D, e, s9 _ _ h⟩
      · obtain ⟨i, hi⟩ := List.mem_iff_getElem?.mp hx
        obtain ⟨_, _, t, N, D, e, h, _⟩ := paired_get hc2 hi
        exact ⟨t, N, D, e, s9 _ _ h⟩
    refine it_run (walk_list (K := K) (a := cl) (xs := ys1 ++ ys2)) (fun i Hx => Same H9 Hx ∧ Hx D3 = some (.lst ((List.replicate i true).map V.bl)))
      ⟨same_new nD3, upd_same⟩ (fun i Hx _ ⟨sx, _⟩ => .inl (.inl (sx _ _ hcl))) ?_ ?_
    · rintro i x Hx Hx' hi ⟨sx, hD⟩ ⟨rfl, hx⟩
      obtain ⟨t, N, D, rfl, hN⟩ := hall x (List.mem_of_getElem? hx)
      refine ⟨rfl, yes_of ?_⟩
      refine iteT ?_
      refine ⟨_, rfl, t, N, D, rfl, sx _ _ hN, fun Hy sy => ?_⟩
      have hil : i ≤ 50 := by
        have h := hi
        rw [List.length_append] at h
        omega
      refine ⟨_, sy _ _ hD, ?_, same_own (sx.trans sy) nD3, ?_⟩
      · rw [List.length_map, List.length_replicate]
        exact small1000 (by omega)
      · rw [upd_same, List.replicate_succ', List.map_append]
        rfl
    rintro Hg ⟨sg9, hD3⟩
    have hrep : (List.replicate (ys1 ++ ys2).length true).all id = true := by
      rw [List.all_eq_true]
      intro b hb
      exact List.eq_of_mem_replicate hb
    refine ⟨D3, _, rfl, .inl (.inl hD3), _, rfl, ?_⟩
    rw [hrep]
    refine iteF ?_
    have S8g : Same H8 Hg := s9.trans sg9
    have ho1g := S8g _ _ ho1
    have ho2g := S8g _ _ ho2
    have hfag := S8g _ _ hfa8
    have hc1g := corrs_keep (Same.t S8g) hc1
    have hc2g := corrs_keep (Same.t S8g) hc2
    -- the correlations of a vertex with itself
    refine ⟨_, rfl, fa, _, rfl, .inl (.inl (.inl hfag)), ((n + 1 : Nat) : Int), by rw [zeros_len], by omega, by omega, ?_⟩
    rw [Int.toNat_natCast]
    refine for_range (lo := 0) (n := n + 1) (fun i σ Hx => ∃ v12 v13, σ = [some (.ref a), some (.ref fa), some (.ref ea), some (.int (c : Int)), some (.int (bt : Int)), some (.ref xt), some (.int (u : Int)), some (.int (v : Int)), some (.ref pp), some (.ref D2), some (.ref o1), some (.ref o2), v12, v13, none, none, none] ∧ v12 = some (.int (((prs 0 (n + 1) i).length : Nat) : Int)) ∧ Same Hg Hx)
      ⟨_, none, rfl, rfl, Same.refl _⟩ ?_ ?_
    · rintro i σ Hx hi ⟨v12, v13, rfl, rfl, sx⟩
      have hat := prs_at (n + 1) (by omega) i hi
      obtain ⟨x1, hx1, t1, N1, D1', rfl, ht1, cc1⟩ := paired_get2 hc1g hat
      obtain ⟨x2, hx2, t2, N2, D2', rfl, ht2, cc2⟩ := paired_get2 hc2g hat
      obtain ⟨rfl, rfl⟩ := corr_self cc1 xa0 xab
      obtain ⟨rfl, rfl⟩ := corr_self cc2 xa0 xab
      refine ⟨_, rfl, _, rfl, o1, ys1, _, .ref t1, rfl, rfl, .inl (.inl (sx _ _ ho1g)), atI_nat hx1, by show 2 ≤ sizeLine; decide, fun q1 nq1 => ?_⟩
      have sy : Same Hx (upd Hx q1 (.tup [.int 1, .int 1])) := same_new nq1
      have hq1 : (upd Hx q1 (.tup [.int 1, .int 1])) q1 = some (.tup [.int 1, .int 1]) := upd_same
      generalize upd Hx q1 (.tup [.int 1, .int 1]) = Hy at *
      refine ⟨_, _, .tup (.inl (.inl (sy _ _ (sx _ _ ht1)))) (.cons (.int _) (.cons (.int _) .nil)), .tup (.inl (.inl hq1)) (.cons (.int _) (.cons (.int _) .nil)), shaped_pair _ _, shaped_pair _ _, false, rfl, ?_⟩
      refine iteF ?_
      refine ⟨_, rfl, _, rfl, o2, ys2, _, .ref t2, rfl, rfl, .inl (.inl (sy _ _ (sx _ _ ho2g))), atI_nat hx2, by show 2 ≤ sizeLine; decide, fun q2 nq2 => ?_⟩
      have sz : Same Hy (upd Hy q2 (.tup [.int 1, .int 1])) := same_new nq2
      have hq2 : (upd Hy q2 (.tup [.int 1, .int 1])) q2 = some (.tup [.int 1, .int 1]) := upd_same
      generalize upd Hy q2 (.tup [.int 1, .int 1]) = Hz at *
      refine ⟨_, _, .tup (.inl (.inl (sz _ _ (sy _ _ (sx _ _ ht2))))) (.cons (.int _) (.cons (.int _) .nil)), .tup (.inl (.inl hq2)) (.cons (.int _) (.cons (.int _) .nil)), shaped_pair _ _, shaped_pair _ _, false, rfl, ?_⟩
      refine iteF ?_
      refine ⟨_, rfl, _, rfl, fa, _, rfl, .inl (.inl (.inl (sz _ _ (sy _ _ (sx _ _ hfag))))), _, rfl, _, _, rfl, rfl, _, _, rfl, rfl, ?_⟩
      refine ⟨_, _, rfl, ?_, (sx.trans sy).trans sz⟩
      have e : (((prs 0 (n + 1) i).length : Nat) : Int) + ((((zeros (n + 1)).length : Nat) : Int) - (0 + (i : Int))) = (((prs 0 (n + 1) (i + 1)).length : Nat) : Int) := by
        rw [prs_off, zeros_len]
        omega
      exact congrArg (fun t : Int => some (V.int t)) e
    rintro σ Hh ⟨v12, v13, rfl, rfl, sh⟩
    -- all correlations
    refine ⟨_, rfl, o1, _, rfl, .inl (.inl (.inl (sh _ _ ho1g))), (ys1.length : Int), rfl, by omega, by omega, ?_⟩
    rw [Int.toNat_natCast]
    have hc1h := corrs_keep (Same.t sh) hc1g
    have hc2h := corrs_keep (Same.t sh) hc2g
    have ho1h := sh _ _ ho1g
    have ho2h := sh _ _ ho2g
    refine for_range (lo := 0) (n := ys1.length) (fun i σ Hx => ∃ v14, σ = [some (.ref a), some (.ref fa), some (.ref ea), some (.int (c : Int)), some (.int (bt : Int)), some (.ref xt), some (.int (u : Int)), some (.int (v : Int)), some (.ref pp), some (.ref D2), some (.ref o1), some (.ref o2), some (.int (((prs 0 (n + 1) (n + 1)).length : Nat) : Int)), v13, v14, none, none] ∧ Hx = Hh)
      ⟨none, rfl, rfl⟩ ?_ ?_
    · rintro i σ Hx hi ⟨v14, rfl, rfl⟩
      obtain ⟨x1, hx1⟩ : ∃ x1, ys1[i]? = some x1 := ⟨_, List.getElem?_eq_getElem hi⟩
      obtain ⟨pr, hpr, t1, N1, D1', rfl, ht1, cc1⟩ := paired_get hc1h hx1
      obtain ⟨x2, hx2, t2, N2, D2', rfl, ht2, cc2⟩ := paired_get2 hc2h hpr
      obtain ⟨pu, pv'⟩ := prs_in0 (n + 1) (by omega) pr (List.mem_of_getElem? hpr)
      have ez : (0 : Int) + (i : Int) = (i : Int) := Int.zero_add _
      have g1 := corr_nonneg cc1 xa0 xab ok1 pu pv'
      have g2 := corr_le cc1 xa0 xab
      have g3 := corr_more cc1 cc2 xa0 xab ok1 pu pv' (p := u) (q := v) (m := 1 + k2) (by omega) vn hW
      refine ⟨_, rfl, _, rfl, o1, ys1, _, .ref t1, rfl, rfl, .inl (.inl ho1h), at_of ez hx1, t1, _, _, _, rfl, rfl, .inl (.inl ht1), at0, _, _, rfl, rfl, _, rfl, ?_⟩
      rw [decide_eq_false (show ¬ N1 < 0 by omega)]
      refine iteF ?_
      refine ⟨_, rfl, _, rfl, o1, ys1, _, .ref t1, rfl, rfl, .inl (.inl ho1h), at_of ez hx1, t1, _, _, _, rfl, rfl, .inl (.inl ht1), at0, ?_⟩
      refine ⟨_, rfl, _, rfl, o1, ys1, _, .ref t1, rfl, rfl, .inl (.inl ho1h), at_of ez hx1, t1, _, _, _, rfl, rfl, .inl (.inl ht1), at1, _, _, rfl, rfl, _, rfl, ?_⟩
      rw [decide_eq_false (show ¬ D1' < N1 by omega)]
      refine iteF ?_
      refine ⟨_, rfl, _, rfl, o2, ys2, _, .ref t2, rfl, rfl, .inl (.inl ho2h), at_of ez hx2, ?_⟩
      refine ⟨_, rfl, _, rfl, o1, ys1, _, .ref t1, rfl, rfl, .inl (.inl ho1h), at_of ez hx1, ?_⟩
      refine ⟨.ref t2, .ref t1, N2, D2', N1, D1', rfl, ⟨t2, rfl, .inl (.inl ht2)⟩, ⟨t1, rfl, .inl (.inl ht1)⟩, cc2.bn, cc2.bd, cc1.bn, cc1.bd, _, rfl, ?_⟩
      rw [decide_eq_false g3]
      refine iteF ?_
      exact ⟨_, rfl, rfl⟩
    · rintro σ Hx ⟨v14, rfl, rfl⟩
      exact q _
end
end K42
namespace K42
open PySem L2 PyProof.Rows
/-! ### all defs together -/
structure Def (K : PySem.W.Frag) (mg : Str → Option Value) (x : Str) (st : Stmt) (ps : List Str) (f : Addr) (fd : FuncData) : Prop where
  F : Fun K x x st f fd
  m : mg x = some (.ref f)
  b : Binds K fd ps []
abbrev DefX (K : PySem.W.Frag) (mg : Str → Option Value) (x : Str) (st : Stmt) (ps : List Str) : Prop := ∃ f fd, Def K mg x st ps f fd
abbrev BindOk (x : Str) (st : Stmt) (ps : List Str) : Prop := ∀ (kV doc pm : Value) (an : Option Addr) (cdv ct : Value) (us : List Value), us.length = ps.length → bindArgs (PySem.W.fnOf x x (defArgs st) (defBody st) (defScope st) .none kV doc pm an cdv ct) ⟨us, []⟩ = pure (ps.zip us)
theorem def_mk {K : PySem.W.Frag} {h : Heap} {mg : Str → Option Value} (X : K.In h) (G : h.Ns mainGlobals mg) {x : Str} {st : Stmt} {ps : List Str} {f : Addr} {oc : Value} {od an : Option Addr} {osl : Array (Option Value)} {kV doc pm cdv ct : Value} (hb : BindOk x st ps)
    (a : PySem.W.nsIn K mainGlobals x = some (some (.ref f))) (l : K.lookup f = some ⟨oc, od, .func (PySem.W.fnOf x x (defArgs st) (defBody st) (defScope st) .none kV doc pm an cdv ct), osl⟩) (c : PySem.W.codeIn K cdv x = true) (k : PySem.W.keepIn K (.ref f) = true) : DefX K mg x st ps :=
  ⟨f, _, fun_mk l c k, PySem.W.mg_of X G a, (fun_mk (st := st) l c k).binds hb⟩
structure Defs (K : PySem.W.Frag) (mg : Str → Option Value) : Prop where
  fraction : DefX K mg "fraction" sFraction ["numerator", "denominator"]
  add : DefX K mg "add" sAdd ["a", "b"]
  multiply : DefX K mg "multiply" sMultiply ["a", "b"]
  divide : DefX K mg "divide" sDivide ["a", "b"]
  raised : DefX K mg "raised" sRaised ["a", "exponent"]
  gathered : DefX K mg "_gathered" sGathered ["terms"]
  polynomial : DefX K mg "polynomial" sPolynomial ["terms"]
  value : DefX K mg "value" sValue ["p", "x", "y"]
  statesOf : DefX K mg "states_of" sStatesOf ["count"]
  allStates : DefX K mg "all_states" sAllStates ["spins"]
  cost : DefX K mg "cost" sCost ["spins", "state"]
  ups : DefX K mg "ups" sUps ["state"]
  sum : DefX K mg "sum_by_states" sSumByStates ["spins"]
  checkPoint : DefX K mg "check_point" sCheckPoint ["x", "y"]
  sign : DefX K mg "_sign" sSign ["spin"]
  pair : DefX K mg "pair_sum" sPairSum ["spins", "u", "v"]
  corr : DefX K mg "correlation" sCorrelation ["spins", "u", "v", "x", "y"]
  cell : DefX K mg "_law_cell" sCell ["_law_script", "_law_k"]
  mix : DefX K mg "_law_mix" sMix ["_law_cell_here", "_law_k"]
  row : DefX K mg "_law_row" sRow ["_law_cell_here", "_law_count", "_law_bound"]
  tuples : DefX K mg "_law_tuples" sTuples ["_law_thing"]
  gcd : DefX K mg "_law_gcd" sGcd ["_law_a", "_law_b"]
  frac : DefX K mg "_law_frac" sFrac ["_law_a", "_law_b"]
  less : DefX K mg "_law_less" sLess ["_law_p", "_law_q"]
  spins : DefX K mg "_law_spins" sSpins ["_law_script", "_law_first", "_law_most", "_law_kind"]
  all : DefX K mg "_law_all_pairs" sAllPairs ["_law_fields", "_law_edges", "_law_x"]
/-- what else the walk asks of the top -/
structure Tops (K : PySem.W.Frag) (mg : Str → Option Value) : Prop where
  gcd : mg "gcd" = some (.builtin "math.gcd")
  zero : ∃ aZ, mg "ZERO" = some (.ref aZ) ∧ ∀ H, SqT K H aZ [.int 0, .int 1]
  one : ∃ aO : Addr, mg "ONE" = some (.ref aO)
  cls : ∃ C f fd, Txt K C ∧ Mk K C f ∧ Fun K "__init__" "Spins.__init__" sInit f fd ∧ Binds K fd ["self", "fields", "edges"] [] ∧ mg "Spins" = some (.ref C)
section
variable {P : Program} {w : World} {K : PySem.W.Frag} {mg : Str → Option Value} {base : Heap}
theorem Def.dn {x : Str} {st : Stmt} {ps : List Str} {f : Addr} {fd : FuncData} (D : Def K mg x st ps f fd) {k : Nat} {sp : Sp} (ok : FnOk P w K mg base CX0 k f fd ps sp) : Dn P w K mg base x k ps sp f fd := ⟨ok, D.m, D.F.kp, D.b⟩
theorem law_all (S : Defs K mg) (O : Tops K mg) (B : Blt mg) (Z : Consts mg) {f : Addr} {fd : FuncData} (F : Fun K "law" "law" sLaw f fd) : FnOk P w K mg base CX0 7 f fd ["_law_script"] (spLaw K) := by
  obtain ⟨_, _, dfr⟩ := S.fraction
  obtain ⟨_, _, dad⟩ := S.add
  obtain ⟨_, _, dmu⟩ := S.multiply
  obtain ⟨_, _, ddi⟩ := S.divide
  obtain ⟨_, _, dra⟩ := S.raised
  obtain ⟨_, _, dga⟩ := S.gathered
  obtain ⟨_, _, dpo⟩ := S.polynomial
  obtain ⟨_, _, dva⟩ := S.value
  obtain ⟨_, _, dso⟩ := S.statesOf
  obtain ⟨_, _, das⟩ := S.allStates
  obtain ⟨_, _, dco⟩ := S.cost
  obtain ⟨_, _, dup⟩ := S.ups
  obtain ⟨_, _, dsu⟩ := S.sum
  obtain ⟨_, _, dck⟩ := S.checkPoint
  obtain ⟨_, _, dsi⟩ := S.sign
  obtain ⟨_, _, dpa⟩ := S.pair
  obtain ⟨_, _, dcr⟩ := S.corr
  obtain ⟨_, _, dce⟩ := S.cell
  obtain ⟨_, _, dmi⟩ := S.mix
  obtain ⟨_, _, dro⟩ := S.row
  obtain ⟨_, _, dtu⟩ := S.tuples
  obtain ⟨_, _, dgc⟩ := S.gcd
  obtain ⟨_, _, dfc⟩ := S.frac
  obtain ⟨_, _, dle⟩ := S.less
  obtain ⟨_, _, dsp⟩ := S.spins
  obtain ⟨_, _, dal⟩ := S.all
  obtain ⟨aZ, mZ, hZ⟩ := O.zero
  obtain ⟨aO, mO⟩ := O.one
  obtain ⟨C, fI, fdI, T, M, FI, bI, mC⟩ := O.cls
  have nfr := dfr.dn (P := P) (w := w) (base := base) (ok_fraction dfr.F O.gcd)
  have nad := dad.dn (ok_add dad.F nfr)
  have nmu := dmu.dn (ok_multiply dmu.F nfr)
  have ndi := ddi.dn (ok_divide ddi.F nfr)
  have nra := dra.dn (ok_raised (vO := .ref aO) dra.F ndi mO rfl B.abs B.range)
  have nva := dva.dn (ok_value dva.F nmu nra nad mZ hZ)
  have nga := dga.dn (P := P) (w := w) (base := base) (ok_gathered dga.F B.tuple B.sorted)
  have npo := dpo.dn (ok_polynomial dpo.F nga)
  have nso := dso.dn (P := P) (w := w) (base := base) (ok_statesOf dso.F B)
  have nas := das.dn (ok_allStates das.F nso T B)
  have nco := dco.dn (P := P) (w := w) (base := base) (ok_cost dco.F T B)
  have nup := dup.dn (P := P) (w := w) (base := base) (ok_ups dup.F B)
  have nsu := dsu.dn (ok_sum dsu.F npo nas nco nup)
  have nck := dck.dn (P := P) (w := w) (base := base) (ok_checkPoint dck.F)
  have nsi := dsi.dn (P := P) (w := w) (base := base) (ok_sign dsi.F)
  have npa := dpa.dn (ok_pair dpa.F npo nas nco nup nsi)
  have ncr := dcr.dn (ok_corr dcr.F nck ndi nva npa nsu)
  have nce := dce.dn (P := P) (w := w) (base := base) (ok_cell dce.F B)
  have nmi := dmi.dn (P := P) (w := w) (base := base) (ok_mix dmi.F B)
  have nro := dro.dn (ok_row dro.F nmi B)
  have nti := dtu.dn (P := P) (w := w) (base := base) (ok_tupI dtu.F B)
  have ntu := dtu.dn (ok_tupT dtu.F nti B)
  have ngc := dgc.dn (P := P) (w := w) (base := base) (ok_gcd dgc.F B)
  have nfc := dfc.dn (ok_frac dfc.F ngc)
  have nle := dle.dn (P := P) (w := w) (base := base) (ok_less dle.F)
  have nsp := dsp.dn (ok_lspins dsp.F nce nro B)
  have nal := dal.dn (ok_all dal.F M (ok_init FI T B Z) bI mC ncr B)
  exact ok_law F nsp nce nfc nal ntu nle B
end
theorem walk {l : PySem.W.OpenLaw} {q : Program} {loose : List Str} {XP : (Str → Option Value) → Heap → Prop} {YP : World → Heap → Prop} {d : DefRec} {K : Params → PySem.W.Frag} (hn : l.most = some 63) (hdf : d.params.defaults = [])
    (hY : ∀ (w : World) (h : Heap), YP w h → (K w.params).In h)
    (F : ∀ (w : World) (mg : Str → Option Value) (fa : Addr) (h : Heap), (K w.params).In h → h.Ns mainGlobals mg → mg d.name = some (.ref fa) →
      ∃ fd : FuncData, (∀ (s : Shared) (u : Value), BindsTo s fd ⟨[u], []⟩ [("_law_script", u)]) ∧ ∀ base : Heap, (K w.params).In base → base.Ns mainGlobals mg → FnOk l.prog w (K w.params) mg base CX0 7 fa fd ["_law_script"] (spLaw (K w.params))) :
    PySem.W.WalkO q loose XP YP l.row.toRowW d [] (fun f vs => PySem.call f vs) :=
  L2.walk_of (n := 63) (k := 7) (x := "_law_script") (CX := fun _ => CX0) (sp := fun w => spLaw (K w.params)) hn (by decide) hdf ⟨rfl, by decide, by decide⟩ hY F (fun _ _ a ns hl _ hS => ⟨a, ns, rfl, hS, fun _ => rfl⟩) fun _ _ _ _ _ z => z
/-- the law's own def -/
theorem law_mk {l : PySem.W.OpenLaw} {w : World} {K : PySem.W.Frag} {h : Heap} {mg : Str → Option Value} {fa : Addr} (X : K.In h) (G : h.Ns mainGlobals mg) (hfa : mg "law" = some (.ref fa)) (S : Defs K mg) (O : Tops K mg) (B : Blt mg) (Z : Consts mg)
    {f : Addr} {oc : Value} {od an : Option Addr} {osl : Array (Option Value)} {kV doc pm cdv ct : Value}
    (a : PySem.W.nsIn K mainGlobals "law" = some (some (.ref f))) (lk : K.lookup f = some ⟨oc, od, .func (PySem.W.fnOf "law" "law" (defArgs sLaw) (defBody sLaw) (defScope sLaw) .none kV doc pm an cdv ct), osl⟩) (c : PySem.W.codeIn K cdv "law" = true) (k : PySem.W.keepIn K (.ref f) = true) :
    ∃ fd : FuncData, (∀ (s : Shared) (v : Value), BindsTo s fd ⟨[v], []⟩ [("_law_script", v)]) ∧ ∀ base : Heap, K.In base → base.Ns mainGlobals mg → FnOk l.prog w K mg base CX0 7 fa fd ["_law_script"] (spLaw K) := by
  have e := hfa.symm.trans (PySem.W.mg_of X G a)
  cases e
  exact ⟨_, fun s v => .of_eq rfl, fun base _ _ => law_all S O B Z (fun_mk lk c k)⟩
/-- the class, the constants -/
theorem tops_mk {K : PySem.W.Frag} {h : Heap} {mg : Str → Option Value} (X : K.In h) (G : h.Ns mainGlobals mg) {C f1 aZ aO : Addr} {oc1 kV1 dc1 pm1 cd1 ct1 : Value} {od1 an1 oz : Option Addr} {sl1 slz : Array (Option Value)} {t0 t1 : Tok} {nz : Nat}
    (gc : PySem.W.nsIn K mainGlobals "gcd" = some (some (.builtin "math.gcd")))
    (zA : PySem.W.nsIn K mainGlobals "ZERO" = some (some (.ref aZ))) (zL : K.lookup aZ = some ⟨.type "tuple", oz, .seq #[.int 0 t0, .int 1 t1] nz, slz⟩)
    (oA : PySem.W.nsIn K mainGlobals "ONE" = some (some (.ref aO)))
    (aC : PySem.W.nsIn K mainGlobals "Spins" = some (some (.ref C)))
    (a1 : PySem.W.findIn K (.ref C) "__init__" = some (some (.ref f1))) (i1 : PySem.W.isFn K (.ref f1) = true) (l1 : K.lookup f1 = some ⟨oc1, od1, .func (PySem.W.fnOf "__init__" "Spins.__init__" (defArgs sInit) (defBody sInit) (defScope sInit) .none kV1 dc1 pm1 an1 cd1 ct1), sl1⟩) (c1 : PySem.W.codeIn K cd1 "Spins.__init__" = true) (k1 : PySem.W.keepIn K (.ref f1) = true)
    (pg : PySem.W.plainGet K C Str.empty = true) (hd : PySem.W.hasDictIn K C = true) (po : PySem.W.plainOver K C = true) (sa : PySem.W.findIn K (.ref C) "__setattr__" = some (some (.builtin "object.__setattr__"))) (mk : PySem.W.makesIn K C = true) (kc : PySem.W.keepIn K (.ref C) = true)
    (nF : PySem.W.findIn K (.ref C) "fields" = some none) (nE : PySem.W.findIn K (.ref C) "edges" = some none) : Tops K mg := by
  have F1 := fun_mk (st := sInit) l1 c1 k1
  refine ⟨PySem.W.mg_of X G gc, ⟨aZ, PySem.W.mg_of X G zA, fun H => .inr ⟨_, _, _, zL, rfl, rfl, by show 2 ≤ sizeLine; decide, .cons ⟨t0, rfl⟩ (.cons ⟨t1, rfl⟩ .nil)⟩⟩, ⟨aO, PySem.W.mg_of X G oA⟩, C, f1, _, ⟨⟨pg, hd, po, sa⟩, nF, nE⟩, ⟨mk, a1, i1, kc⟩, F1, ?_, PySem.W.mg_of X G aC⟩
  exact F1.binds (ps := ["self", "fields", "edges"]) fun _ _ _ _ _ _ us hl => match us, hl with | [_, _, _], _ => rfl
theorem blt_mk {K : PySem.W.Frag} {h : Heap} {mg : Str → Option Value} (X : K.In h) (G : h.Ns mainGlobals mg) (z1 : PySem.W.nsIn K mainGlobals "len" = some none) (z2 : PySem.W.nsIn K mainGlobals "all" = some none) (z3 : PySem.W.nsIn K mainGlobals "abs" = some none) (z4 : PySem.W.nsIn K mainGlobals "tuple" = some none)
    (z5 : PySem.W.nsIn K mainGlobals "sorted" = some none) (z6 : PySem.W.nsIn K mainGlobals "range" = some none) (z7 : PySem.W.nsIn K mainGlobals "sum" = some none) (z8 : PySem.W.nsIn K mainGlobals "zip" = some none) (z9 : PySem.W.nsIn K mainGlobals "int" = some none) (z10 : PySem.W.nsIn K mainGlobals "isinstance" = some none) (z11 : PySem.W.nsIn K mainGlobals "bool" = some none) : Blt mg :=
  ⟨PySem.W.mg_none_of X G z1, PySem.W.mg_none_of X G z2, PySem.W.mg_none_of X G z3, PySem.W.mg_none_of X G z4, PySem.W.mg_none_of X G z5, PySem.W.mg_none_of X G z6, PySem.W.mg_none_of X G z7, PySem.W.mg_none_of X G z8, PySem.W.mg_none_of X G z9, PySem.W.mg_none_of X G z10, PySem.W.mg_none_of X G z11⟩
theorem consts_mk {K : PySem.W.Frag} {h : Heap} {mg : Str → Option Value} (X : K.In h) (G : h.Ns mainGlobals mg) {t1 t2 t3 : Tok} (z1 : PySem.W.nsIn K mainGlobals "MOST_VERTICES" = some (some (.int 12 t1))) (z2 : PySem.W.nsIn K mainGlobals "MOST_EDGES" = some (some (.int 24 t2))) (z3 : PySem.W.nsIn K mainGlobals "GREATEST" = some (some (.int 9 t3))) : Consts mg :=
  ⟨⟨t1, PySem.W.mg_of X G z1⟩, ⟨t2, PySem.W.mg_of X G z2⟩, ⟨t3, PySem.W.mg_of X G z3⟩⟩
theorem b1 {x : Str} {st : Stmt} {p : Str} (h : ∀ (kV doc pm : Value) (an : Option Addr) (cdv ct u : Value), bindArgs (PySem.W.fnOf x x (defArgs st) (defBody st) (defScope st) .none kV doc pm an cdv ct) ⟨[u], []⟩ = pure [(p, u)]) : BindOk x st [p] := fun kV doc pm an cdv ct us hl => match us, hl with
  | [u], _ => h kV doc pm an cdv ct u
theorem b2 {x : Str} {st : Stmt} {p1 p2 : Str} (h : ∀ (kV doc pm : Value) (an : Option Addr) (cdv ct u1 u2 : Value), bindArgs (PySem.W.fnOf x x (defArgs st) (defBody st) (defScope st) .none kV doc pm an cdv ct) ⟨[u1, u2], []⟩ = pure [(p1, u1), (p2, u2)]) : BindOk x st [p1, p2] := fun kV doc pm an cdv ct us hl => match us, hl with
  | [u1, u2], _ => h kV doc pm an cdv ct u1 u2
theorem b3 {x : Str} {st : Stmt} {p1 p2 p3 : Str} (h : ∀ (kV doc pm : Value) (an : Option Addr) (cdv ct u1 u2 u3 : Value), bindArgs (PySem.W.fnOf x x (defArgs st) (defBody st) (defScope st) .none kV doc pm an cdv ct) ⟨[u1, u2, u3], []⟩ = pure [(p1, u1), (p2, u2), (p3, u3)]) : BindOk x st [p1, p2, p3] := fun kV doc pm an cdv ct us hl => match us, hl with
  | [u1, u2, u3], _ => h kV doc pm an cdv ct u1 u2 u3
theorem b4 {x : Str} {st : Stmt} {p1 p2 p3 p4 : Str} (h : ∀ (kV doc pm : Value) (an : Option Addr) (cdv ct u1 u2 u3 u4 : Value), bindArgs (PySem.W.fnOf x x (defArgs st) (defBody st) (defScope st) .none kV doc pm an cdv ct) ⟨[u1, u2, u3, u4], []⟩ = pure [(p1, u1), (p2, u2), (p3, u3), (p4, u4)]) : BindOk x st [p1, p2, p3, p4] := fun kV doc pm an cdv ct us hl => match us, hl with
  | [u1, u2, u3, u4], _ => h kV doc pm an cdv ct u1 u2 u3 u4
theorem b5 {x : Str} {st : Stmt} {p1 p2 p3 p4 p5 : Str} (h : ∀ (kV doc pm : Value) (an : Option Addr) (cdv ct u1 u2 u3 u4 u5 : Value), bindArgs (PySem.W.fnOf x x (defArgs st) (defBody st) (defScope st) .none kV doc pm an cdv ct) ⟨[u1, u2, u3, u4, u5], []⟩ = pure [(p1, u1), (p2, u2), (p3, u3), (p4, u4), (p5, u5)]) : BindOk x st [p1, p2, p3, p4, p5] := fun kV doc pm an cdv ct us hl => match us, hl with
  | [u1, u2, u3, u4, u5], _ => h kV doc pm an cdv ct u1 u2 u3 u4 u5
end K42
open PySem PySem.W PyProof.Rows
set_option maxRecDepth 100000 in
set_option maxHeartbeats 0 in
theorem PySem.Challenge.cw_spinfield_k42_whole_correlations_holds : PySem.Challenge.rw_spinfield_k42_whole_correlations.Holds := by
  w_on; o_law; k_head; (case hw => w_witness2)
  k_fill
  refine K42.walk (l := PySem.Challenge.rw_spinfield_k42_whole_correlations) rfl rfl (fun w h Y => PySem.W.kIn_of Y) ?F
  case F =>
    intro w mg fa h KX G hmg
    refine' K42.law_mk KX G hmg ?S ?O ?B ?Z ?a_law ?l_law ?c_law ?k_law
    case S =>
      refine ⟨?d_fraction, ?d_add, ?d_multiply, ?d_divide, ?d_raised, ?d_gathered, ?d_polynomial, ?d_value, ?d_statesOf, ?d_allStates, ?d_cost, ?d_ups, ?d_sum, ?d_checkPoint, ?d_sign, ?d_pair, ?d_corr, ?d_cell, ?d_mix, ?d_row, ?d_tuples, ?d_gcd, ?d_frac, ?d_less, ?d_spins, ?d_all⟩
      case d_fraction =>
        refine' K42.def_mk KX G (K42.b2 fun _ _ _ _ _ _ _ _ => rfl) ?a_fraction ?l_fraction ?c_fraction ?k_fraction
        (case a_fraction => k_is)
        (case l_fraction => k_is)
        (case c_fraction => k_is)
        (case k_fraction => k_is)
      case d_add =>
        refine' K42.def_mk KX G (K42.b2 fun _ _ _ _ _ _ _ _ => rfl) ?a_add ?l_add ?c_add ?k_add
        (case a_add => k_is)
        (case l_add => k_is)
        (case c_add => k_is)
        (case k_add => k_is)
      case d_multiply =>
        refine' K42.def_mk KX G (K42.b2 fun _ _ _ _ _ _ _ _ => rfl) ?a_multiply ?l_multiply ?c_multiply ?k_multiply
        (case a_multiply => k_is)
        (case l_multiply => k_is)
        (case c_multiply => k_is)
        (case k_multiply => k_is)
      case d_divide =>
        refine' K42.def_mk KX G (K42.b2 fun _ _ _ _ _ _ _ _ => rfl) ?a_divide ?l_divide ?c_divide ?k_divide
        (case a_divide => k_is)
        (case l_divide => k_is)
        (case c_divide => k_is)
        (case k_divide => k_is)
      case d_raised =>
        refine' K42.def_mk KX G (K42.b2 fun _ _ _ _ _ _ _ _ => rfl) ?a_raised ?l_raised ?c_raised ?k_raised
        (case a_raised => k_is)
        (case l_raised => k_is)
        (case c_raised => k_is)
        (case k_raised => k_is)
      case d_gathered =>
        refine' K42.def_mk KX G (K42.b1 fun _ _ _ _ _ _ _ => rfl) ?a_gathered ?l_gathered ?c_gathered ?k_gathered
        (case a_gathered => k_is)
        (case l_gathered => k_is)
        (case c_gathered => k_is)
        (case k_gathered => k_is)
      case d_polynomial =>
        refine' K42.def_mk KX G (K42.b1 fun _ _ _ _ _ _ _ => rfl) ?a_polynomial ?l_polynomial ?c_polynomial ?k_polynomial
        (case a_polynomial => k_is)
        (case l_polynomial => k_is)
        (case c_polynomial => k_is)
        (case k_polynomial => k_is)
      case d_value =>
        refine' K42.def_mk KX G (K42.b3 fun _ _ _ _ _ _ _ _ _ => rfl) ?a_value ?l_value ?c_value ?k_value
        (case a_value => k_is)
        (case l_value => k_is)
        (case c_value => k_is)
        (case k_value => k_is)
      case d_statesOf =>
        refine' K42.def_mk KX G (K42.b1 fun _ _ _ _ _ _ _ => rfl) ?a_statesOf ?l_statesOf ?c_statesOf ?k_statesOf
        (case a_statesOf => k_is)
        (case l_statesOf => k_is)
        (case c_statesOf => k_is)
        (case k_statesOf => k_is)
      case d_allStates =>
        refine' K42.def_mk KX G (K42.b1 fun _ _ _ _ _ _ _ => rfl) ?a_allStates ?l_allStates ?c_allStates ?k_allStates
        (case a_allStates => k_is)
        (case l_allStates => k_is)
        (case c_allStates => k_is)
        (case k_allStates => k_is)
      case d_cost =>
        refine' K42.def_mk KX G (K42.b2 fun _ _ _ _ _ _ _ _ => rfl) ?a_cost ?l_cost ?c_cost ?k_cost
        (case a_cost => k_is)
        (case l_cost => k_is)
        (case c_cost => k_is)
        (case k_cost => k_is)
      case d_ups =>
        refine' K42.def_mk KX G (K42.b1 fun _ _ _ _ _ _ _ => rfl) ?a_ups ?l_ups ?c_ups ?k_ups
        (case a_ups => k_is)
        (case l_ups => k_is)
        (case c_ups => k_is)
        (case k_ups => k_is)
      case d_sum =>
        refine' K42.def_mk KX G (K42.b1 fun _ _ _ _ _ _ _ => rfl) ?a_sum ?l_sum ?c_sum ?k_sum
        (case a_sum => k_is)
        (case l_sum => k_is)
        (case c_sum => k_is)
        (case k_sum => k_is)
      case d_checkPoint =>
        refine' K42.def_mk KX G (K42.b2 fun _ _ _ _ _ _ _ _ => rfl) ?a_checkPoint ?l_checkPoint ?c_checkPoint ?k_checkPoint
        (case a_checkPoint => k_is)
        (case l_checkPoint => k_is)
        (case c_checkPoint => k_is)
        (case k_checkPoint => k_is)
      case d_sign =>
        refine' K42.def_mk KX G (K42.b1 fun _ _ _ _ _ _ _ => rfl) ?a_sign ?l_sign ?c_sign ?k_sign
        (case a_sign => k_is)
        (case l_sign => k_is)
        (case c_sign => k_is)
        (case k_sign => k_is)
      case d_pair =>
        refine' K42.def_mk KX G (K42.b3 fun _ _ _ _ _ _ _ _ _ => rfl) ?a_pair ?l_pair ?c_pair ?k_pair
        (case a_pair => k_is)
        (case l_pair => k_is)
        (case c_pair => k_is)
        (case k_pair => k_is)
      case d_corr =>
        refine' K42.def_mk KX G (K42.b5 fun _ _ _ _ _ _ _ _ _ _ _ => rfl) ?a_corr ?l_corr ?c_corr ?k_corr
        (case a_corr => k_is)
        (case l_corr => k_is)
        (case c_corr => k_is)
        (case k_corr => k_is)
      case d_cell =>
        refine' K42.def_mk KX G (K42.b2 fun _ _ _ _ _ _ _ _ => rfl) ?a_cell ?l_cell ?c_cell ?k_cell
        (case a_cell => k_is)
        (case l_cell => k_is)
        (case c_cell => k_is)
        (case k_cell => k_is)
      case d_mix =>
        refine' K42.def_mk KX G (K42.b2 fun _ _ _ _ _ _ _ _ => rfl) ?a_mix ?l_mix ?c_mix ?k_mix
        (case a_mix => k_is)
        (case l_mix => k_is)
        (case c_mix => k_is)
        (case k_mix => k_is)
      case d_row =>
        refine' K42.def_mk KX G (K42.b3 fun _ _ _ _ _ _ _ _ _ => rfl) ?a_row ?l_row ?c_row ?k_row
        (case a_row => k_is)
        (case l_row => k_is)
        (case c_row => k_is)
        (case k_row => k_is)
      case d_tuples =>
        refine' K42.def_mk KX G (K42.b1 fun _ _ _ _ _ _ _ => rfl) ?a_tuples ?l_tuples ?c_tuples ?k_tuples
        (case a_tuples => k_is)
        (case l_tuples => k_is)
        (case c_tuples => k_is)
        (case k_tuples => k_is)
      case d_gcd =>
        refine' K42.def_mk KX G (K42.b2 fun _ _ _ _ _ _ _ _ => rfl) ?a_gcd ?l_gcd ?c_gcd ?k_gcd
        (case a_gcd => k_is)
        (case l_gcd => k_is)
        (case c_gcd => k_is)
        (case k_gcd => k_is)
      case d_frac =>
        refine' K42.def_mk KX G (K42.b2 fun _ _ _ _ _ _ _ _ => rfl) ?a_frac ?l_frac ?c_frac ?k_frac
        (case a_frac => k_is)
        (case l_frac => k_is)
        (case c_frac => k_is)
        (case k_frac => k_is)
      case d_less =>
        refine' K42.def_mk KX G (K42.b2 fun _ _ _ _ _ _ _ _ => rfl) ?a_less ?l_less ?c_less ?k_less
        (case a_less => k_is)
        (case l_less => k_is)
        (case c_less => k_is)
        (case k_less => k_is)
      case d_spins =>
        refine' K42.def_mk KX G (K42.b4 fun _ _ _ _ _ _ _ _ _ _ => rfl) ?a_spins ?l_spins ?c_spins ?k_spins
        (case a_spins => k_is)
        (case l_spins => k_is)
        (case c_spins => k_is)
        (case k_spins => k_is)
      case d_all =>
        refine' K42.def_mk KX G (K42.b3 fun _ _ _ _ _ _ _ _ _ => rfl) ?a_all ?l_all ?c_all ?k_all
        (case a_all => k_is)
        (case l_all => k_is)
        (case c_all => k_is)
        (case k_all => k_is)
    case O =>
      refine' K42.tops_mk KX G ?gc ?zA ?zL ?oA ?aC ?a1 ?i1 ?l1 ?c1 ?k1 ?pg ?hd ?po ?sa ?mk ?kc ?nF ?nE
      (case gc => k_is)
      (case zA => k_is)
      (case zL => k_is)
      (case oA => k_is)
      (case aC => k_is)
      (case a1 => k_is)
      (case i1 => k_is)
      (case l1 => k_is)
      (case c1 => k_is)
      (case k1 => k_is)
      (case pg => k_is)
      (case hd => k_is)
      (case po => k_is)
      (case sa => k_is)
      (case mk => k_is)
      (case kc => k_is)
      (case nF => k_is)
      (case nE => k_is)
    case B =>
      refine' K42.blt_mk KX G ?zb1 ?zb2 ?zb3 ?zb4 ?zb5 ?zb6 ?zb7 ?zb8 ?zb9 ?zb10 ?zb11
      (case zb1 => k_is)
      (case zb2 => k_is)
      (case zb3 => k_is)
      (case zb4 => k_is)
      (case zb5 => k_is)
      (case zb6 => k_is)
      (case zb7 => k_is)
      (case zb8 => k_is)
      (case zb9 => k_is)
      (case zb10 => k_is)
      (case zb11 => k_is)
    case Z =>
      refine' K42.consts_mk KX G ?zc1 ?zc2 ?zc3
      (case zc1 => k_is)
      (case zc2 => k_is)
      (case zc3 => k_is)
    (case a_law => k_is)
    (case l_law => k_is)
    (case c_law => k_is)
    (case k_law => k_is)
#print axioms PySem.Challenge.cw_spinfield_k42_whole_correlations_holds
