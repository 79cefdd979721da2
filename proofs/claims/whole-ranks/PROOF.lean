import PyProof.Rows.All
import Wide.All
import OpenK.AllK
import Wide.FinOn
import HandS.ForMost
import HandS.Wide
import HandS.IsInst
import HandS.Zip
import HandS.Flt
import HandS.IterVal
import PyProof.ReprRoads
import PyProof.ReprBulk
import HandS.Codes
import HandS.Conv
import HandS.NoneIn
import PySem.Challenge.RW_saidacross_k67_whole_ranks_that_are_know
set_option Elab.async false
set_option linter.all false
set_option maxRecDepth 100000
set_option maxHeartbeats 3900000
namespace RK
/-- sum over i below n -/
def S : Nat → (Nat → Int) → Int
  | 0, _ => 0
  | n + 1, f => S n f + f n
theorem S_congr {n : Nat} {f g : Nat → Int} (h : ∀ i, i < n → f i = g i) : S n f = S n g := by
  induction n with
  | zero => rfl
  | succ n ih => simp only [S]; rw [ih fun i hi => h i (by omega), h n (by omega)]
theorem S_zero {n : Nat} {f : Nat → Int} (h : ∀ i, i < n → f i = 0) : S n f = 0 := by
  induction n with
  | zero => rfl
  | succ n ih => simp only [S]; rw [ih fun i hi => h i (by omega), h n (by omega)]; rfl
theorem S_add (n : Nat) (f g : Nat → Int) : S n (fun i => f i + g i) = S n f + S n g := by
  induction n with
  | zero => rfl
  | succ n ih => simp only [S]; rw [ih]; omega
theorem S_mul (n : Nat) (a : Int) (f : Nat → Int) : S n (fun i => a * f i) = a * S n f := by
  induction n with
  | zero => simp [S]
  | succ n ih => simp only [S]; rw [ih, Int.mul_add]
theorem S_mulr (n : Nat) (a : Int) (f : Nat → Int) : S n (fun i => f i * a) = S n f * a := by
  induction n with
  | zero => simp [S]
  | succ n ih => simp only [S]; rw [ih, Int.add_mul]
theorem S_swap (n m : Nat) (f : Nat → Nat → Int) : S n (fun i => S m (fun j => f i j)) = S m (fun j => S n (fun i => f i j)) := by
  induction n with
  | zero => simp only [S]; exact (S_zero fun _ _ => rfl).symm
  | succ n ih => simp only [S]; rw [ih, S_add]
/-- one place apart -/
def sk (k i : Nat) : Nat := if i < k then i else i + 1
theorem S_skip : ∀ (n k : Nat) (f : Nat → Int), k < n + 1 → S (n + 1) f = f k + S n (fun i => f (sk k i))
  | 0, k, f, h => by
    have : k = 0 := by omega
    subst this
    simp [S]
  | n + 1, k, f, h => by
    by_cases hk : k = n + 1
    · subst hk
      have e : S (n + 1) (fun i => f (sk (n + 1) i)) = S (n + 1) f := S_congr fun i hi => by simp [sk, hi]
      rw [e]
      show S (n + 1) f + f (n + 1) = _
      omega
    · have ih := S_skip n k f (by omega)
      show S (n + 1) f + f (n + 1) = f k + (S n (fun i => f (sk k i)) + f (sk k n))
      have e : sk k n = n + 1 := by unfold sk; rw [if_neg (by omega)]
      rw [ih, e]
      omega
/-- more rows than columns: a dependency -/
theorem kernel : ∀ (f r : Nat) (C : Nat → Nat → Int), f < r → ∃ μ : Nat → Int, (∃ k, k < r ∧ μ k ≠ 0) ∧ ∀ m, m < f → S r (fun k => μ k * C k m) = 0
  | 0, r, C, h => ⟨fun _ => 1, ⟨0, h, by decide⟩, fun m hm => absurd hm (Nat.not_lt_zero _)⟩
  | f + 1, r, C, h => by
    by_cases hz : ∀ k, k < r → C k f = 0
    · obtain ⟨μ, h1, h2⟩ := kernel f r C (by omega)
      refine ⟨μ, h1, fun m hm => ?_⟩
      by_cases e : m = f
      · subst e
        exact S_zero fun k hk => by rw [hz k hk, Int.mul_zero]
      · exact h2 m (by omega)
    · obtain ⟨k0, hk0, hne⟩ : ∃ k0, k0 < r ∧ C k0 f ≠ 0 := by
        refine Classical.byContradiction fun q => hz fun k hk => Classical.byContradiction fun q2 => q ⟨k, hk, q2⟩
      obtain ⟨r', rfl⟩ : ∃ r', r = r' + 1 := ⟨r - 1, by omega⟩
      obtain ⟨μ, ⟨k1, hk1, hμ⟩, h2⟩ := kernel f r' (fun k m => C k0 f * C (sk k0 k) m - C (sk k0 k) f * C k0 m) (by omega)
      have sk_ne : ∀ i, sk k0 i ≠ k0 := fun i => by
        unfold sk
        by_cases hi : i < k0
        · rw [if_pos hi]; omega
        · rw [if_neg hi]; omega
      have us_sk : ∀ i, (if sk k0 i < k0 then sk k0 i else sk k0 i - 1) = i := fun i => by
        unfold sk
        by_cases hi : i < k0
        · rw [if_pos hi, if_pos hi]
        · rw [if_neg hi, if_neg (by omega)]; omega
      obtain ⟨ν, ν0, νs⟩ : ∃ ν : Nat → Int, ν k0 = - S r' (fun k => μ k * C (sk k0 k) f) ∧ ∀ i, ν (sk k0 i) = C k0 f * μ i :=
        ⟨fun i => if i = k0 then - S r' (fun k => μ k * C (sk k0 k) f) else C k0 f * μ (if i < k0 then i else i - 1), if_pos rfl, fun i => by
          show (if sk k0 i = k0 then _ else C k0 f * μ (if sk k0 i < k0 then sk k0 i else sk k0 i - 1)) = _
          rw [if_neg (sk_ne i), us_sk]⟩
      refine ⟨ν, ⟨sk k0 k1, ?_, ?_⟩, fun m hm => ?_⟩
      · unfold sk
        by_cases hi : k1 < k0
        · rw [if_pos hi]; omega
        · rw [if_neg hi]; omega
      · rw [νs]
        exact Int.mul_ne_zero hne hμ
      · rw [S_skip r' k0 _ hk0]
        have e1 : S r' (fun i => ν (sk k0 i) * C (sk k0 i) m) = C k0 f * S r' (fun i => μ i * C (sk k0 i) m) := by
          rw [← S_mul]
          exact S_congr fun i _ => by rw [νs, Int.mul_assoc]
        show ν k0 * C k0 m + S r' (fun i => ν (sk k0 i) * C (sk k0 i) m) = 0
        rw [ν0, e1]
        by_cases e : m = f
        · subst e
          generalize S r' (fun i => μ i * C (sk k0 i) m) = z
          rw [Int.neg_mul, Int.mul_comm z]
          omega
        · have q := h2 m (by omega)
          have e2 : S r' (fun k => μ k * (C k0 f * C (sk k0 k) m - C (sk k0 k) f * C k0 m)) = C k0 f * S r' (fun k => μ k * C (sk k0 k) m) + (- C k0 m) * S r' (fun k => μ k * C (sk k0 k) f) := by
            rw [← S_mul, ← S_mul, ← S_add]
            exact S_congr fun i _ => by grind
          rw [e2] at q
          generalize S r' (fun k => μ k * C (sk k0 k) m) = y at *
          generalize S r' (fun k => μ k * C (sk k0 k) f) = z at *
          clear e1 e2 νs ν0 us_sk sk_ne h2
          grind
/-! ### minors -/
abbrev Row := List Int
/-- expansion by one column -/
def E (c : Nat) (g : List Row → Int) : List Row → Int
  | [] => 0
  | r :: rs => r.getD c 0 * g rs - E c (fun l => g (r :: l)) rs
def D : List Nat → List Row → Int
  | [], _ => 1
  | c :: cs, rs => E c (D cs) rs
theorem E_zero (c : Nat) : ∀ (rs : List Row) (g : List Row → Int), (∀ l, g l = 0) → E c g rs = 0
  | [], _, _ => rfl
  | r :: rs, g, h => by
    show r.getD c 0 * g rs - E c (fun l => g (r :: l)) rs = 0
    rw [h, E_zero c rs _ fun l => h _]
    omega
theorem E_sub (c : Nat) : ∀ (rs : List Row) (g g' : List Row → Int), E c (fun l => g l - g' l) rs = E c g rs - E c g' rs
  | [], _, _ => rfl
  | r :: rs, g, g' => by
    show r.getD c 0 * (g rs - g' rs) - E c (fun l => g (r :: l) - g' (r :: l)) rs = (r.getD c 0 * g rs - E c (fun l => g (r :: l)) rs) - (r.getD c 0 * g' rs - E c (fun l => g' (r :: l)) rs)
    rw [E_sub c rs (fun l => g (r :: l)) (fun l => g' (r :: l)), Int.mul_sub]
    omega
theorem E_mul (c : Nat) (a : Int) : ∀ (rs : List Row) (g : List Row → Int), E c (fun l => a * g l) rs = a * E c g rs
  | [], _ => by show (0 : Int) = a * 0; omega
  | r :: rs, g => by
    show r.getD c 0 * (a * g rs) - E c (fun l => a * g (r :: l)) rs = a * (r.getD c 0 * g rs - E c (fun l => g (r :: l)) rs)
    rw [E_mul c a rs (fun l => g (r :: l)), Int.mul_sub, Int.mul_left_comm]
/-- two expansions, either way round -/
theorem E_anti (c d : Nat) : ∀ (rs : List Row) (g : List Row → Int), E c (E d g) rs = - E d (E c g) rs
  | [], _ => rfl
  | r :: rs, g => by
    show r.getD c 0 * E d g rs - E c (fun l => r.getD d 0 * g l - E d (fun k => g (r :: k)) l) rs = -(r.getD d 0 * E c g rs - E d (fun l => r.getD c 0 * g l - E c (fun k => g (r :: k)) l) rs)
    rw [E_sub c rs (fun l => r.getD d 0 * g l) (fun l => E d (fun k => g (r :: k)) l), E_sub d rs (fun l => r.getD c 0 * g l) (fun l => E c (fun k => g (r :: k)) l), E_mul, E_mul]
    have ih := E_anti c d rs (fun k => g (r :: k))
    have e1 : E c (fun l => E d (fun k => g (r :: k)) l) rs = E c (E d (fun k => g (r :: k))) rs := rfl
    have e2 : E d (fun l => E c (fun k => g (r :: k)) l) rs = E d (E c (fun k => g (r :: k))) rs := rfl
    rw [e1, e2, ih]
    omega
/-- a column twice -/
theorem D_twice : ∀ (cs : List Nat) (j : Nat) (rs : List Row), j ∈ cs → D (j :: cs) rs = 0
  | c :: cs, j, rs, h => by
    have a : E j (E c (D cs)) rs = - E c (E j (D cs)) rs := E_anti j c rs (D cs)
    show E j (E c (D cs)) rs = 0
    by_cases e : j = c
    · subst e; omega
    · have h' : j ∈ cs := by
        rcases List.mem_cons.mp h with h | h
        · exact absurd h e
        · exact h
      have z : E c (E j (D cs)) rs = 0 := E_zero c rs _ fun l => D_twice cs j l h'
      omega
/-- the sum of multiples of rows, at a column -/
def lin (μ : Nat → Int) : List Row → Nat → Int
  | [], _ => 0
  | r :: rs, j => μ 0 * r.getD j 0 + lin (fun i => μ (i + 1)) rs j
theorem lin_comb (a b : Int) : ∀ (rs : List Row) (μ ν : Nat → Int) (j : Nat), lin (fun i => a * μ i + b * ν i) rs j = a * lin μ rs j + b * lin ν rs j
  | [], _, _, _ => by simp [lin]
  | r :: rs, μ, ν, j => by
    show (a * μ 0 + b * ν 0) * r.getD j 0 + lin (fun i => a * μ (i + 1) + b * ν (i + 1)) rs j = a * (μ 0 * r.getD j 0 + lin (fun i => μ (i + 1)) rs j) + b * (ν 0 * r.getD j 0 + lin (fun i => ν (i + 1)) rs j)
    rw [lin_comb a b rs (fun i => μ (i + 1)) (fun i => ν (i + 1)) j]
    generalize lin (fun i => μ (i + 1)) rs j = y
    generalize lin (fun i => ν (i + 1)) rs j = z
    generalize r.getD j 0 = x
    generalize μ 0 = m
    generalize ν 0 = n
    grind
theorem lin_zero : ∀ (rs : List Row) (μ : Nat → Int) (j : Nat), (∀ i, i < rs.length → μ i = 0) → lin μ rs j = 0
  | [], _, _, _ => rfl
  | r :: rs, μ, j, h => by
    show μ 0 * r.getD j 0 + lin (fun i => μ (i + 1)) rs j = 0
    rw [h 0 (by simp), lin_zero rs _ j fun i hi => h (i + 1) (by simpa using hi)]
    omega
theorem lin_S : ∀ (rs : List Row) (μ : Nat → Int) (j : Nat), lin μ rs j = S rs.length (fun m => μ m * (rs.getD m []).getD j 0)
  | [], _, _ => rfl
  | r :: rs, μ, j => by
    show μ 0 * r.getD j 0 + lin (fun i => μ (i + 1)) rs j = S (rs.length + 1) _
    rw [S_skip rs.length 0 _ (by omega), lin_S rs]
    rfl
/-- an expansion is a sum of multiples of the rows, the same at each column -/
theorem E_lin : ∀ (rs : List Row) (g : List Row → Int), ∃ μ : Nat → Int, ∀ j, E j g rs = lin μ rs j
  | [], _ => ⟨fun _ => 0, fun _ => rfl⟩
  | r :: rs, g => by
    obtain ⟨μ, h⟩ := E_lin rs (fun l => g (r :: l))
    refine ⟨fun i => match i with | 0 => g rs | i + 1 => - μ i, fun j => ?_⟩
    show r.getD j 0 * g rs - E j (fun l => g (r :: l)) rs = g rs * r.getD j 0 + lin (fun i => - μ i) rs j
    have e := lin_comb (-1) 0 rs μ μ j
    have e2 : (fun i => -1 * μ i + 0 * μ i) = fun i => - μ i := by funext i; omega
    rw [e2] at e
    rw [h, e, Int.mul_comm]
    omega
theorem D_lin (cs : List Nat) (x : Row) (Rs : List Row) : ∃ μ : Nat → Int, ∀ j, D (j :: cs) (x :: Rs) = x.getD j 0 * D cs Rs + lin μ Rs j := by
  obtain ⟨μ, h⟩ := E_lin Rs (fun l => D cs (x :: l))
  refine ⟨fun i => - μ i, fun j => ?_⟩
  show x.getD j 0 * D cs Rs - E j (fun l => D cs (x :: l)) Rs = _
  have e := lin_comb (-1) 0 Rs μ μ j
  have e2 : (fun i => -1 * μ i + 0 * μ i) = fun i => - μ i := by funext i; omega
  rw [e2] at e
  rw [h, e]
  omega
/-- bounds -/
theorem E_le (c : Nat) {B : Nat} : ∀ (rs : List Row) (g : List Row → Int) (b : Nat), (∀ r, r ∈ rs → (r.getD c 0).natAbs ≤ B) → (∀ l, l.length + 1 = rs.length → (∀ r, r ∈ l → r ∈ rs) → (g l).natAbs ≤ b) → (E c g rs).natAbs ≤ rs.length * (B * b)
  | [], _, _, _, _ => by simp [E]
  | r :: rs, g, b, h1, h2 => by
    have ih := E_le c rs (fun l => g (r :: l)) b (fun q hq => h1 q (List.mem_cons_of_mem _ hq)) fun l hl hm => h2 (r :: l) (by simp [hl]) fun q hq => by
      rcases List.mem_cons.mp hq with e | hq
      · rw [e]; exact List.mem_cons_self
      · exact List.mem_cons_of_mem _ (hm q hq)
    have a := h1 r List.mem_cons_self
    have d := h2 rs (by simp) fun q hq => List.mem_cons_of_mem _ hq
    have m : (r.getD c 0 * g rs).natAbs ≤ B * b := by rw [Int.natAbs_mul]; exact Nat.mul_le_mul a d
    show (r.getD c 0 * g rs - E c (fun l => g (r :: l)) rs).natAbs ≤ (rs.length + 1) * (B * b)
    have t : (rs.length + 1) * (B * b) = rs.length * (B * b) + B * b := by rw [Nat.add_mul, Nat.one_mul]
    rw [t]
    omega
theorem D_le {B M : Nat} : ∀ (cs : List Nat) (rs : List Row), rs.length = cs.length → rs.length ≤ M → (∀ r, r ∈ rs → ∀ c, (r.getD c 0).natAbs ≤ B) → (D cs rs).natAbs ≤ (M * B) ^ cs.length
  | [], _, _, _, _ => by simp [D]
  | c :: cs, rs, hl, hM, h => by
    have q := E_le c (B := B) rs (D cs) ((M * B) ^ cs.length) (fun r hr => h r hr c) fun l hl' hm => D_le cs l (by simp at hl; omega) (by omega) fun r hr => h r (hm r hr)
    show (E c (D cs) rs).natAbs ≤ (M * B) ^ (cs.length + 1)
    refine Nat.le_trans q ?_
    rw [Nat.pow_succ, Nat.mul_comm ((M * B) ^ cs.length), Nat.mul_assoc]
    exact Nat.mul_le_mul_right _ hM
/-! ### independence -/
/-- no sum of multiples of the rows is nought at all the columns but the empty one -/
def Ind (cs : List Nat) (Rs : List Row) : Prop := ∀ μ : Nat → Int, (∀ c, c ∈ cs → lin μ Rs c = 0) → ∀ i, i < Rs.length → μ i = 0
theorem Ind.nil : Ind [] [] := fun _ _ i h => absurd h (Nat.not_lt_zero i)
theorem Ind.cons {cs : List Nat} {Rs : List Row} {r : Row} {c : Nat} (h : Ind cs Rs) (hp : D cs Rs ≠ 0) (hp' : D (c :: cs) (r :: Rs) ≠ 0) : Ind (c :: cs) (r :: Rs) := by
  intro μ hμ
  obtain ⟨ν, hν⟩ := D_lin cs r Rs
  have key : ∀ j, lin (fun i => D cs Rs * μ (i + 1) + (- μ 0) * ν i) Rs j = D cs Rs * lin μ (r :: Rs) j - μ 0 * D (j :: cs) (r :: Rs) := fun j => by
    rw [lin_comb, hν]
    show _ = D cs Rs * (μ 0 * r.getD j 0 + lin (fun i => μ (i + 1)) Rs j) - μ 0 * (r.getD j 0 * D cs Rs + lin ν Rs j)
    generalize lin (fun i => μ (i + 1)) Rs j = y
    generalize lin ν Rs j = z
    generalize r.getD j 0 = x
    generalize D cs Rs = p
    generalize μ 0 = m
    grind
  have z := h _ fun d hd => by
    rw [key, D_twice cs d _ hd, hμ d (List.mem_cons_of_mem _ hd)]
    omega
  have k := key c
  rw [lin_zero Rs _ c z, hμ c List.mem_cons_self] at k
  have m0 : μ 0 = 0 := by
    have k2 : μ 0 * D (c :: cs) (r :: Rs) = 0 := by omega
    rcases Int.mul_eq_zero.mp k2 with e | e
    · exact e
    · exact absurd e hp'
  intro i hi
  cases i with
  | zero => exact m0
  | succ i =>
    have hi' : i < Rs.length := by simpa using hi
    have q := z i hi'
    rw [m0] at q
    have q2 : D cs Rs * μ (i + 1) = 0 := by omega
    rcases Int.mul_eq_zero.mp q2 with e | e
    · exact absurd e hp
    · exact e
/-- the division of the elimination goes out even -/
theorem bareiss {cs : List Nat} {Rs : List Row} {r x : Row} {c : Nat} (h : Ind cs Rs) (hp : D cs Rs ≠ 0) (hp' : D (c :: cs) (r :: Rs) ≠ 0) (j : Nat) :
    D (j :: cs) (x :: Rs) * D (c :: cs) (r :: Rs) - D (c :: cs) (x :: Rs) * D (j :: cs) (r :: Rs) = D cs Rs * D (j :: c :: cs) (x :: r :: Rs) := by
  have h' := h.cons hp hp'
  obtain ⟨ν1, e1⟩ := D_lin (c :: cs) x (r :: Rs)
  obtain ⟨ν2, e2⟩ := D_lin cs x Rs
  obtain ⟨ν3, e3⟩ := D_lin cs r Rs
  -- the two sides' difference as a sum of multiples of r and Rs
  have key : ∀ j, lin (fun i => D cs Rs * ν1 i + (match i with | 0 => D (c :: cs) (x :: Rs) * D cs Rs | i + 1 => D (c :: cs) (x :: Rs) * ν3 i - D (c :: cs) (r :: Rs) * ν2 i)) (r :: Rs) j
      = D cs Rs * D (j :: c :: cs) (x :: r :: Rs) - (D (j :: cs) (x :: Rs) * D (c :: cs) (r :: Rs) - D (c :: cs) (x :: Rs) * D (j :: cs) (r :: Rs)) := fun j => by
    have l1 : lin (fun i => D cs Rs * ν1 i + (match i with | 0 => D (c :: cs) (x :: Rs) * D cs Rs | i + 1 => D (c :: cs) (x :: Rs) * ν3 i - D (c :: cs) (r :: Rs) * ν2 i)) (r :: Rs) j
        = D cs Rs * lin ν1 (r :: Rs) j + 1 * lin (fun i => (match i with | 0 => D (c :: cs) (x :: Rs) * D cs Rs | i + 1 => D (c :: cs) (x :: Rs) * ν3 i - D (c :: cs) (r :: Rs) * ν2 i)) (r :: Rs) j := by
      rw [← lin_comb]
      exact congrArg (fun f => lin f (r :: Rs) j) (funext fun i => congrArg (D cs Rs * ν1 i + ·) (Int.one_mul _).symm)
    have l2 : lin (fun i => (match i with | 0 => D (c :: cs) (x :: Rs) * D cs Rs | i + 1 => D (c :: cs) (x :: Rs) * ν3 i - D (c :: cs) (r :: Rs) * ν2 i)) (r :: Rs) j
        = D (c :: cs) (x :: Rs) * D cs Rs * r.getD j 0 + (D (c :: cs) (x :: Rs) * lin ν3 Rs j + (- D (c :: cs) (r :: Rs)) * lin ν2 Rs j) := by
      rw [← lin_comb]
      show D (c :: cs) (x :: Rs) * D cs Rs * r.getD j 0 + lin (fun i => D (c :: cs) (x :: Rs) * ν3 i - D (c :: cs) (r :: Rs) * ν2 i) Rs j = _
      congr 2
      funext i
      rw [Int.neg_mul]
      omega
    rw [l1, l2, e1 j, e2 j, e3 j]
    generalize lin ν1 (r :: Rs) j = y1
    generalize lin ν2 Rs j = y2
    generalize lin ν3 Rs j = y3
    generalize D (c :: cs) (x :: Rs) = d
    generalize D (c :: cs) (r :: Rs) = p'
    generalize D cs Rs = p
    generalize x.getD j 0 = a
    generalize r.getD j 0 = b
    grind
  have z := h' _ fun d hd => by
    rw [key]
    rcases List.mem_cons.mp hd with e | hd
    · subst e
      rw [D_twice (d :: cs) d _ List.mem_cons_self, Int.mul_zero]
      omega
    · rw [D_twice (c :: cs) d _ (List.mem_cons_of_mem _ hd), D_twice cs d _ hd, D_twice cs d _ hd]
      omega
  have k := key j
  rw [lin_zero _ _ j z] at k
  omega
/-! ### the elimination -/
/-- a row below the head: the new row -/
def stepRow (head : Row) (c : Nat) (last : Int) (row : Row) : Row := (row.zip head).map fun q => (q.1 * head.getD c 0 - row.getD c 0 * q.2).fdiv last
theorem stepRow_length {head row : Row} {c n : Nat} {last : Int} (h1 : row.length = n) (h2 : head.length = n) : (stepRow head c last row).length = n := by
  unfold stepRow
  rw [List.length_map, List.length_zip, h1, h2, Nat.min_self]
theorem stepRow_get {head row : Row} {c n j : Nat} {last : Int} (h1 : row.length = n) (h2 : head.length = n) (hj : j < n) : (stepRow head c last row).getD j 0 = (row.getD j 0 * head.getD c 0 - row.getD c 0 * head.getD j 0).fdiv last := by
  unfold stepRow
  rw [List.getD_eq_getElem?_getD, List.getElem?_map, List.getElem?_eq_getElem (by rw [List.length_zip]; omega), List.getElem_zip]
  rw [List.getD_eq_getElem?_getD (l := row) (i := j), List.getElem?_eq_getElem (by omega), List.getD_eq_getElem?_getD (l := head) (i := j), List.getElem?_eq_getElem (by omega)]
  rfl
def swap (i j : Nat) (R : Nat → Row) : Nat → Row := fun k => if k = j then R i else if k = i then R j else R k
/-- what holds of the rows R, when columns below c are done -/
structure BI (T : List Row) (m n c : Nat) (R : Nat → Row) (found : Nat) (last : Int) (Rs : List Row) (cs : List Nat) (X : Nat → Row) : Prop where
  lR : Rs.length = found
  lc : cs.length = found
  le : found ≤ m
  ind : Ind cs Rs
  lst : last = D cs Rs
  ne : last ≠ 0
  cols : ∀ d, d ∈ cs → d < c
  mem : ∀ r, r ∈ Rs → r ∈ T
  memX : ∀ i, found ≤ i → i < m → X i ∈ T
  all : ∀ x, x ∈ T → x ∈ Rs ∨ ∃ i, found ≤ i ∧ i < m ∧ x = X i
  len : ∀ i, found ≤ i → i < m → (R i).length = n
  val : ∀ i, found ≤ i → i < m → ∀ j, j < n → (R i).getD j 0 = D (j :: cs) (X i :: Rs)
  zero : ∀ i, found ≤ i → i < m → ∀ j, j < c → (R i).getD j 0 = 0
theorem BI.start {T : List Row} {n : Nat} (hn : ∀ r, r ∈ T → r.length = n) : BI T T.length n 0 (fun i => T.getD i []) 0 1 [] [] (fun i => T.getD i []) := by
  have g : ∀ i, i < T.length → T.getD i [] ∈ T := fun i hi => by
    rw [List.getD_eq_getElem?_getD, List.getElem?_eq_getElem (h := hi)]
    exact List.getElem_mem hi
  refine ⟨rfl, rfl, Nat.zero_le _, Ind.nil, rfl, by decide, (fun _ h => nomatch h), (fun _ h => nomatch h), fun i _ hi => g i hi, fun x hx => .inr ?_, fun i _ hi => hn _ (g i hi), fun i _ hi j hj => ?_, fun i _ _ j hj => absurd hj (Nat.not_lt_zero j)⟩
  · obtain ⟨i, hi, e⟩ := List.getElem_of_mem hx
    exact ⟨i, Nat.zero_le _, hi, by rw [List.getD_eq_getElem?_getD, List.getElem?_eq_getElem hi, ← e]; rfl⟩
  · show _ = (T.getD i []).getD j 0 * 1 - 0
    omega
section
variable {T : List Row} {m n c found : Nat} {R X : Nat → Row} {last : Int} {Rs : List Row} {cs : List Nat}
/-- nothing stands in the column -/
theorem BI.skip (h : BI T m n c R found last Rs cs X) (hz : ∀ i, found ≤ i → i < m → (R i).getD c 0 = 0) : BI T m n (c + 1) R found last Rs cs X :=
  ⟨h.lR, h.lc, h.le, h.ind, h.lst, h.ne, fun d hd => Nat.lt_succ_of_lt (h.cols d hd), h.mem, h.memX, h.all, h.len, h.val, fun i h1 h2 j hj => by
    by_cases e : j = c
    · rw [e]; exact hz i h1 h2
    · exact h.zero i h1 h2 j (by omega)⟩
theorem swap_at {i j : Nat} (R : Nat → Row) (hij : i ≤ j) : swap i j R i = R j := by
  unfold swap
  by_cases e : i = j
  · rw [if_pos e, e]
  · rw [if_neg e, if_pos rfl]
theorem swap_ge {i j k : Nat} (R : Nat → Row) {P : Row → Prop} (hij : i ≤ j) (hj : j < m) (h : ∀ k, i ≤ k → k < m → P (R k)) (hk : i ≤ k) (hkm : k < m) : P (swap i j R k) := by
  unfold swap
  by_cases e : k = j
  · rw [if_pos e]; exact h i (Nat.le_refl _) (by omega)
  · rw [if_neg e]
    by_cases e2 : k = i
    · rw [if_pos e2]; exact h j hij hj
    · rw [if_neg e2]; exact h k hk hkm
theorem BI.swapped (h : BI T m n c R found last Rs cs X) {p : Nat} (h1 : found ≤ p) (h2 : p < m) : BI T m n c (swap found p R) found last Rs cs (swap found p X) where
  lR := h.lR
  lc := h.lc
  le := h.le
  ind := h.ind
  lst := h.lst
  ne := h.ne
  cols := h.cols
  mem := h.mem
  memX := fun i a b => swap_ge X h1 h2 h.memX a b
  all := fun x hx => by
    rcases h.all x hx with q | ⟨i, a, b, e⟩
    · exact .inl q
    · refine .inr ?_
      by_cases e1 : i = found
      · exact ⟨p, h1, h2, by unfold swap; rw [if_pos rfl, e, e1]⟩
      · by_cases e2 : i = p
        · exact ⟨found, Nat.le_refl _, by omega, by rw [swap_at X h1, e, e2]⟩
        · exact ⟨i, a, b, by unfold swap; rw [if_neg e2, if_neg e1]; exact e⟩
  len := fun i a b => swap_ge R (P := fun r => r.length = n) h1 h2 h.len a b
  val := fun i a b j hj => by
    unfold swap
    by_cases e : i = p
    · rw [if_pos e, if_pos e]; exact h.val found (Nat.le_refl _) (by omega) j hj
    · rw [if_neg e, if_neg e]
      by_cases e2 : i = found
      · rw [if_pos e2, if_pos e2]; exact h.val p h1 h2 j hj
      · rw [if_neg e2, if_neg e2]; exact h.val i a b j hj
  zero := fun i a b j hj => swap_ge R (P := fun r => r.getD j 0 = 0) h1 h2 (fun k a b => h.zero k a b j hj) a b
/-- the head is in place: one column is cleared -/
theorem BI.step (h : BI T m n c R found last Rs cs X) (hc : c < n) (hm : found < m) (hp : (R found).getD c 0 ≠ 0) :
    BI T m n (c + 1) (fun i => if found < i then stepRow (R found) c last (R i) else R i) (found + 1) ((R found).getD c 0) (X found :: Rs) (c :: cs) X := by
  have v0 := h.val found (Nat.le_refl _) hm
  have lh := h.len found (Nat.le_refl _) hm
  have hp0 : D cs Rs ≠ 0 := by rw [← h.lst]; exact h.ne
  have hp' : D (c :: cs) (X found :: Rs) ≠ 0 := by rw [← v0 c hc]; exact hp
  have val' : ∀ i, found + 1 ≤ i → i < m → ∀ j, j < n → (stepRow (R found) c last (R i)).getD j 0 = D (j :: c :: cs) (X i :: X found :: Rs) := fun i a b j hj => by
    rw [stepRow_get (h.len i (by omega) b) lh hj, h.val i (by omega) b j hj, h.val i (by omega) b c hc, v0 j hj, v0 c hc, bareiss h.ind hp0 hp' j, h.lst]
    exact Int.mul_fdiv_cancel_left _ hp0
  refine ⟨by simp [h.lR], by simp [h.lc], hm, h.ind.cons hp0 hp', v0 c hc, hp, fun d hd => ?_, fun r hr => ?_, fun i a b => h.memX i (by omega) b, fun x hx => ?_, fun i a b => ?_, fun i a b j hj => ?_, fun i a b j hj => ?_⟩
  · rcases List.mem_cons.mp hd with e | hd
    · omega
    · exact Nat.lt_succ_of_lt (h.cols d hd)
  · rcases List.mem_cons.1 hr with e | hr
    · rw [e]; exact h.memX found (Nat.le_refl _) hm
    · exact h.mem r hr
  · rcases h.all x hx with q | ⟨i, a, b, e⟩
    · exact .inl (List.mem_cons_of_mem _ q)
    · by_cases e1 : i = found
      · exact .inl (by rw [e, e1]; exact List.mem_cons_self)
      · exact .inr ⟨i, by omega, b, e⟩
  · rw [if_pos (by omega)]
    exact stepRow_length (h.len i (by omega) b) lh
  · rw [if_pos (by omega)]
    exact val' i a b j hj
  · rw [if_pos (by omega)]
    by_cases e : j = c
    · rw [e, val' i a b c hc]
      exact D_twice (c :: cs) c _ List.mem_cons_self
    · have hjn : j < n := by omega
      rw [stepRow_get (h.len i (by omega) b) lh hjn, h.zero i (by omega) b j (by omega), h.zero found (Nat.le_refl _) hm j (by omega), Int.zero_mul, Int.mul_zero]
      simp
/-- how great the numbers are -/
theorem BI.bound (h : BI T m n c R found last Rs cs X) {B : Nat} (hB : ∀ r, r ∈ T → ∀ j, (r.getD j 0).natAbs ≤ B) {M : Nat} (hM : m ≤ M) : last.natAbs ≤ (M * B) ^ found ∧ ∀ i, found ≤ i → i < m → ∀ j, ((R i).getD j 0).natAbs ≤ (M * B) ^ (found + 1) := by
  refine ⟨?_, fun i a b j => ?_⟩
  · rw [h.lst, ← h.lc]
    exact D_le cs Rs (by rw [h.lR, h.lc]) (by rw [h.lR]; have := h.le; omega) fun r hr j => hB r (h.mem r hr) j
  · by_cases hj : j < n
    · rw [h.val i a b j hj, ← h.lc]
      refine D_le (j :: cs) (X i :: Rs) (by simp [h.lR, h.lc]) (by simp [h.lR]; omega) fun r hr j => ?_
      rcases List.mem_cons.mp hr with e | hr
      · rw [e]; exact hB _ (h.memX i a b) j
      · exact hB r (h.mem r hr) j
    · have e : (R i).getD j 0 = 0 := by
        rw [List.getD_eq_getElem?_getD, List.getElem?_eq_none (by rw [h.len i a b]; omega)]
        rfl
      rw [e]
      exact Nat.zero_le _
end
/-! ### the rank -/
/-- the entry -/
def ent (T : List Row) (i j : Nat) : Int := (T.getD i []).getD j 0
/-- the rank over the fractions, by a product of r columns and r rows, r rows and r columns of which nothing can be left out -/
structure Rk (M : Nat → Nat → Int) (m n r : Nat) : Prop where
  up : ∃ (d : Int) (A B : Nat → Nat → Int), d ≠ 0 ∧ ∀ i, i < m → ∀ j, j < n → d * M i j = S r (fun k => A i k * B k j)
  row : ∃ ρ : Nat → Nat, (∀ k, k < r → ρ k < m) ∧ ∀ μ : Nat → Int, (∀ j, j < n → S r (fun k => μ k * M (ρ k) j) = 0) → ∀ k, k < r → μ k = 0
  col : ∃ γ : Nat → Nat, (∀ k, k < r → γ k < n) ∧ ∀ μ : Nat → Int, (∀ i, i < m → S r (fun k => μ k * M i (γ k)) = 0) → ∀ k, k < r → μ k = 0
theorem S_single (n t : Nat) (a : Int) (f : Nat → Int) (ht : t < n) : S n (fun i => (if i = t then a else 0) * f i) = a * f t := by
  obtain ⟨n', rfl⟩ : ∃ n', n = n' + 1 := ⟨n - 1, by omega⟩
  rw [S_skip n' t _ ht, S_zero (n := n')]
  · rw [if_pos rfl]; omega
  · intro i _
    have : sk t i ≠ t := by
      unfold sk
      by_cases hi : i < t
      · rw [if_pos hi]; omega
      · rw [if_neg hi]; omega
    rw [if_neg this]; omega
theorem BI.span {T : List Row} {m n found : Nat} {R X : Nat → Row} {last : Int} {Rs : List Row} {cs : List Nat} (h : BI T m n n R found last Rs cs X) : ∀ x, x ∈ T → ∃ ν : Nat → Int, ∀ j, j < n → last * x.getD j 0 = lin ν Rs j := by
  intro x hx
  rcases h.all x hx with q | ⟨i, a, b, e⟩
  · obtain ⟨t, ht, e⟩ := List.getElem_of_mem q
    refine ⟨fun i => if i = t then last else 0, fun j _ => ?_⟩
    rw [lin_S, S_single _ t last _ ht, List.getD_eq_getElem?_getD (l := Rs), List.getElem?_eq_getElem ht, e]
    rfl
  · obtain ⟨μ, hμ⟩ := D_lin cs x Rs
    refine ⟨fun i => - μ i, fun j hj => ?_⟩
    have z := h.zero i a b j hj
    rw [h.val i a b j hj, ← e, hμ, ← h.lst] at z
    have e1 := lin_comb (-1) 0 Rs μ μ j
    have e2 : (fun i => -1 * μ i + 0 * μ i) = fun i => - μ i := by funext i; omega
    rw [e2] at e1
    rw [e1, Int.mul_comm]
    omega
theorem BI.rank {T : List Row} {n found r : Nat} {R X : Nat → Row} {last : Int} {Rs : List Row} {cs : List Nat} (h : BI T T.length n n R found last Rs cs X) (k : Rk (ent T) T.length n r) : found = r := by
  have lenR := h.lR
  by_cases h1 : r < found
  · exfalso
    obtain ⟨d, A, B, hd, up⟩ := k.up
    -- the rows of Rs stand in T
    have ix : ∀ m, m < found → ∃ i, i < T.length ∧ T.getD i [] = Rs.getD m [] := fun m hm => by
      have hm' : m < Rs.length := by omega
      have e : Rs.getD m [] = Rs[m] := by rw [List.getD_eq_getElem?_getD, List.getElem?_eq_getElem hm']; rfl
      obtain ⟨i, hi, q⟩ := List.getElem_of_mem (h.mem _ (List.getElem_mem hm'))
      exact ⟨i, hi, by rw [e, ← q, List.getD_eq_getElem?_getD, List.getElem?_eq_getElem hi]; rfl⟩
    obtain ⟨ι, hι⟩ : ∃ ι : Nat → Nat, ∀ m, m < found → ι m < T.length ∧ T.getD (ι m) [] = Rs.getD m [] :=
      ⟨fun m => if q : m < found then Classical.choose (ix m q) else 0, fun m hm => by
        simp only [dif_pos hm]
        exact Classical.choose_spec (ix m hm)⟩
    obtain ⟨μ, ⟨m0, hm0, hne⟩, z⟩ := kernel r found (fun m k => A (ι m) k) h1
    refine hne (h.ind μ (fun c hc => ?_) m0 (by omega))
    have hcn := h.cols c hc
    have e : d * lin μ Rs c = 0 := by
      rw [lin_S, lenR, ← S_mul, S_congr (g := fun m => S r (fun k => μ m * A (ι m) k * B k c)), S_swap]
      · refine S_zero fun k hk => ?_
        rw [S_mulr, z k hk, Int.zero_mul]
      · intro m hm
        obtain ⟨a1, a2⟩ := hι m hm
        have u := up (ι m) a1 c hcn
        unfold ent at u
        rw [a2] at u
        rw [Int.mul_left_comm, u, ← S_mul]
        exact S_congr fun k _ => by rw [Int.mul_assoc]
    rcases Int.mul_eq_zero.mp e with e | e
    · exact absurd e hd
    · exact e
  · by_cases h2 : found < r
    · exfalso
      obtain ⟨ρ, hρ, ind⟩ := k.row
      have sp : ∀ k, k < r → ∃ ν : Nat → Int, ∀ j, j < n → last * ent T (ρ k) j = lin ν Rs j := fun k hk => by
        have hk' := hρ k hk
        have := h.span (T.getD (ρ k) []) (by rw [List.getD_eq_getElem?_getD, List.getElem?_eq_getElem hk']; exact List.getElem_mem hk')
        exact this
      obtain ⟨Λ, hΛ⟩ : ∃ Λ : Nat → Nat → Int, ∀ k, k < r → ∀ j, j < n → last * ent T (ρ k) j = lin (Λ k) Rs j :=
        ⟨fun k => if q : k < r then Classical.choose (sp k q) else fun _ => 0, fun k hk => by
          simp only [dif_pos hk]
          exact Classical.choose_spec (sp k hk)⟩
      obtain ⟨μ, ⟨k0, hk0, hne⟩, z⟩ := kernel found r Λ h2
      refine hne (ind μ (fun j hj => ?_) k0 hk0)
      have e : last * S r (fun k => μ k * ent T (ρ k) j) = 0 := by
        rw [← S_mul, S_congr (g := fun k => S found (fun m => μ k * Λ k m * (Rs.getD m []).getD j 0)), S_swap]
        · refine S_zero fun m hm => ?_
          rw [S_mulr, z m hm, Int.zero_mul]
        · intro k hk
          rw [Int.mul_left_comm, hΛ k hk j hj, lin_S, lenR, ← S_mul]
          exact S_congr fun m _ => by rw [Int.mul_assoc]
      rcases Int.mul_eq_zero.mp e with e | e
      · exact absurd e h.ne
      · exact e
    · omega
/-! ### what leaves the rank as it is -/
theorem Rk.turn {M : Nat → Nat → Int} {m n r : Nat} (k : Rk M m n r) : Rk (fun i j => M j i) n m r := by
  obtain ⟨d, A, B, hd, up⟩ := k.up
  exact ⟨⟨d, fun i k => B k i, fun k j => A j k, hd, fun i hi j hj => by rw [up j hj i hi]; exact S_congr fun k _ => Int.mul_comm _ _⟩, k.col, k.row⟩
theorem Rk.congr {M M' : Nat → Nat → Int} {m n r : Nat} (k : Rk M m n r) (h : ∀ i, i < m → ∀ j, j < n → M' i j = M i j) : Rk M' m n r := by
  obtain ⟨d, A, B, hd, up⟩ := k.up
  obtain ⟨ρ, h1, h2⟩ := k.row
  obtain ⟨γ, h3, h4⟩ := k.col
  refine ⟨⟨d, A, B, hd, fun i hi j hj => by rw [h i hi j hj, up i hi j hj]⟩, ⟨ρ, h1, fun μ z => h2 μ fun j hj => ?_⟩, ⟨γ, h3, fun μ z => h4 μ fun i hi => ?_⟩⟩
  · rw [← z j hj]
    exact S_congr fun k hk => by rw [h _ (h1 k hk) j hj]
  · rw [← z i hi]
    exact S_congr fun k hk => by rw [h i hi _ (h3 k hk)]
/-- each new row is a row and a multiple of one; each old row stands -/
theorem Rk.rows {M M' : Nat → Nat → Int} {m m' n r : Nat} (k : Rk M m n r) (h1 : ∀ i, i < m' → ∃ (i1 i2 : Nat) (s : Int), i1 < m ∧ i2 < m ∧ ∀ j, j < n → M' i j = M i1 j + s * M i2 j)
    (h2 : ∀ i, i < m → ∃ i', i' < m' ∧ ∀ j, j < n → M i j = M' i' j) : Rk M' m' n r := by
  obtain ⟨d, A, B, hd, up⟩ := k.up
  obtain ⟨ρ, hρ, ir⟩ := k.row
  obtain ⟨γ, hγ, ic⟩ := k.col
  have cA : ∀ i, ∃ a : Nat → Int, i < m' → ∀ j, j < n → d * M' i j = S r (fun k => a k * B k j) := fun i => by
    by_cases hi : i < m'
    · obtain ⟨i1, i2, s, a1, a2, e⟩ := h1 i hi
      refine ⟨fun k => A i1 k + s * A i2 k, fun _ j hj => ?_⟩
      rw [e j hj, Int.mul_add, Int.mul_left_comm, up i1 a1 j hj, up i2 a2 j hj, ← S_mul, ← S_add]
      exact S_congr fun k _ => by rw [Int.add_mul, Int.mul_assoc]
    · exact ⟨fun _ => 0, fun z => absurd z hi⟩
  have cρ : ∀ k, ∃ i', k < r → i' < m' ∧ ∀ j, j < n → M (ρ k) j = M' i' j := fun k => by
    by_cases hk : k < r
    · obtain ⟨i', a, b⟩ := h2 _ (hρ k hk)
      exact ⟨i', fun _ => ⟨a, b⟩⟩
    · exact ⟨0, fun z => absurd z hk⟩
  refine ⟨⟨d, fun i => Classical.choose (cA i), B, hd, fun i hi => Classical.choose_spec (cA i) hi⟩, ⟨fun k => Classical.choose (cρ k), fun k hk => (Classical.choose_spec (cρ k) hk).1, fun μ z => ir μ fun j hj => ?_⟩,
    ⟨γ, hγ, fun μ z => ic μ fun i hi => ?_⟩⟩
  · rw [← z j hj]
    exact S_congr fun k hk => by rw [(Classical.choose_spec (cρ k) hk).2 j hj]
  · obtain ⟨i', a, b⟩ := h2 i hi
    rw [← z i' a]
    exact S_congr fun k hk => by rw [b _ (hγ k hk)]
/-! ### tables whose rank is known -/
theorem tri_fwd {r : Nat} {v : Nat → Int} {R : Nat → Nat → Int} (h0 : ∀ t l, t < r → l < r → t < l → R t l = 0) (h1 : ∀ t, t < r → R t t ≠ 0) (h : ∀ t, t < r → S r (fun l => v l * R t l) = 0) : ∀ t, t < r → v t = 0 := by
  intro t
  induction t using Nat.strongRecOn with
  | _ t ih =>
    intro ht
    have e := h t ht
    have q : S r (fun l => v l * R t l) = v t * R t t := by
      rw [S_congr (g := fun l => (if l = t then v t else 0) * R t l) fun l hl => ?_, S_single r t (v t) _ ht]
      by_cases a : l = t
      · rw [if_pos a, a]
      · rw [if_neg a]
        by_cases b : l < t
        · rw [ih l b hl]
        · rw [h0 t l ht hl (by omega), Int.mul_zero, Int.mul_zero]
    rw [q] at e
    rcases Int.mul_eq_zero.mp e with e | e
    · exact e
    · exact absurd e (h1 t ht)
theorem tri_bwd {r : Nat} {μ : Nat → Int} {L : Nat → Nat → Int} (h0 : ∀ k l, k < r → l < r → k < l → L k l = 0) (h1 : ∀ k, k < r → L k k ≠ 0) (h : ∀ l, l < r → S r (fun k => μ k * L k l) = 0) : ∀ k, k < r → μ k = 0 := by
  have go : ∀ d k, k < r → r - k = d → μ k = 0 := by
    intro d
    induction d using Nat.strongRecOn with
    | _ d ih =>
      intro k hk hd
      have e := h k hk
      have q : S r (fun i => μ i * L i k) = μ k * L k k := by
        rw [S_congr (g := fun i => (if i = k then μ k else 0) * L i k) fun i hi => ?_, S_single r k (μ k) (fun i => L i k) hk]
        by_cases a : i = k
        · rw [if_pos a, a]
        · rw [if_neg a]
          by_cases b : k < i
          · rw [ih (r - i) (by omega) i hi rfl]
          · rw [h0 i k hi hk (by omega), Int.mul_zero, Int.mul_zero]
      rw [q] at e
      rcases Int.mul_eq_zero.mp e with e | e
      · exact e
      · exact absurd e (h1 k hk)
  exact fun k hk => go _ k hk rfl
/-- L times R turned, both with r drawn rows in steps -/
theorem Rk.product {L R : Nat → Nat → Int} {m n r : Nat} {σ τ : Nat → Nat} (hσ : ∀ k, k < r → σ k < m) (hτ : ∀ k, k < r → τ k < n)
    (L0 : ∀ k l, k < r → l < r → k < l → L (σ k) l = 0) (L1 : ∀ k, k < r → L (σ k) k ≠ 0) (R0 : ∀ k l, k < r → l < r → k < l → R (τ k) l = 0) (R1 : ∀ k, k < r → R (τ k) k ≠ 0) :
    Rk (fun i j => S r (fun k => L i k * R j k)) m n r := by
  have half : ∀ {L R : Nat → Nat → Int} {n : Nat} {σ τ : Nat → Nat}, (∀ k, k < r → τ k < n) → (∀ k l, k < r → l < r → k < l → L (σ k) l = 0) → (∀ k, k < r → L (σ k) k ≠ 0) → (∀ k l, k < r → l < r → k < l → R (τ k) l = 0) → (∀ k, k < r → R (τ k) k ≠ 0) →
      ∀ μ : Nat → Int, (∀ j, j < n → S r (fun k => μ k * S r (fun l => L (σ k) l * R j l)) = 0) → ∀ k, k < r → μ k = 0 := by
    intro L R n σ τ hτ L0 L1 R0 R1 μ z
    have v := tri_fwd (r := r) (v := fun l => S r (fun k => μ k * L (σ k) l)) (R := fun t l => R (τ t) l) R0 R1 fun t ht => by
      rw [← z (τ t) (hτ t ht), S_congr (f := fun k => μ k * S r (fun l => L (σ k) l * R (τ t) l)) (g := fun k => S r (fun l => μ k * L (σ k) l * R (τ t) l)) fun k _ => by
        rw [← S_mul]
        exact S_congr fun l _ => by rw [Int.mul_assoc]]
      rw [S_swap r r]
      exact S_congr fun l _ => (S_mulr r _ _).symm
    exact tri_bwd (L := fun k l => L (σ k) l) L0 L1 v
  refine ⟨⟨1, L, fun k j => R j k, by decide, fun i _ j _ => Int.one_mul _⟩, ⟨σ, hσ, half hτ L0 L1 R0 R1⟩, ⟨τ, hτ, fun μ z => half (L := R) (R := L) (σ := τ) (τ := σ) hσ R0 R1 L0 L1 μ fun i hi => ?_⟩⟩
  rw [← z i hi]
  exact S_congr fun k _ => congrArg (μ k * ·) (S_congr fun l _ => Int.mul_comm _ _)
/-- a square table with no dependency either way -/
theorem Rk.square {M : Nat → Nat → Int} {n : Nat} (h1 : ∀ μ : Nat → Int, (∀ j, j < n → S n (fun k => μ k * M k j) = 0) → ∀ k, k < n → μ k = 0) (h2 : ∀ μ : Nat → Int, (∀ i, i < n → S n (fun k => μ k * M i k) = 0) → ∀ k, k < n → μ k = 0) : Rk M n n n :=
  ⟨⟨1, fun i k => if k = i then 1 else 0, M, by decide, fun i hi j _ => by rw [S_single n i 1 (fun k => M k j) hi]⟩, ⟨fun k => k, fun _ h => h, h1⟩, ⟨fun k => k, fun _ h => h, h2⟩⟩
/-! ### two rows of two -/
theorem S2 (f : Nat → Int) : S 2 f = f 0 + f 1 := by simp [S]
theorem S1 (f : Nat → Int) : S 1 f = f 0 := by simp [S]
def two (a b c d : Int) : Nat → Nat → Int := fun i j => if i = 0 then (if j = 0 then a else b) else (if j = 0 then c else d)
theorem det2 {a b c d x y : Int} (h : a * d - b * c ≠ 0) (h1 : x * a + y * c = 0) (h2 : x * b + y * d = 0) : x = 0 ∧ y = 0 := by
  have e1 : x * (a * d - b * c) = 0 := by grind
  have e2 : y * (a * d - b * c) = 0 := by grind
  constructor
  · rcases Int.mul_eq_zero.mp e1 with e | e
    · exact e
    · exact absurd e h
  · rcases Int.mul_eq_zero.mp e2 with e | e
    · exact e
    · exact absurd e h
theorem Rk.two {a b c d : Int} (h : a * d - b * c ≠ 0) : Rk (two a b c d) 2 2 2 := by
  refine Rk.square (fun μ z => ?_) (fun μ z => ?_)
  · have z0 := z 0 (by omega)
    have z1 := z 1 (by omega)
    rw [S2] at z0 z1
    have q := det2 (x := μ 0) (y := μ 1) h z0 z1
    intro k hk
    rcases (show k = 0 ∨ k = 1 by omega) with e | e
    · rw [e]; exact q.1
    · rw [e]; exact q.2
  · have z0 := z 0 (by omega)
    have z1 := z 1 (by omega)
    rw [S2] at z0 z1
    have q := det2 (x := μ 0) (y := μ 1) (a := a) (b := c) (c := b) (d := d) (by rw [Int.mul_comm c b]; exact h) z0 z1
    intro k hk
    rcases (show k = 0 ∨ k = 1 by omega) with e | e
    · rw [e]; exact q.1
    · rw [e]; exact q.2
theorem Rk.one {n j : Nat} {f : Nat → Int} (hj : j < n) (h : f j ≠ 0) : Rk (fun _ k => f k) 1 n 1 := by
  refine ⟨⟨1, fun _ _ => 1, fun _ j => f j, by decide, fun i _ j _ => by rw [S1]⟩, ⟨fun _ => 0, fun _ _ => Nat.zero_lt_one, fun μ z k hk => ?_⟩, ⟨fun _ => j, fun _ _ => hj, fun μ z k hk => ?_⟩⟩
  · have e := z j hj
    rw [S1] at e
    have hk0 : k = 0 := by omega
    rw [hk0]
    rcases Int.mul_eq_zero.mp e with e | e
    · exact e
    · exact absurd e h
  · have e := z 0 (by omega)
    rw [S1] at e
    have hk0 : k = 0 := by omega
    rw [hk0]
    rcases Int.mul_eq_zero.mp e with e | e
    · exact e
    · exact absurd e h
theorem Rk.multiple {a b p : Int} (h : a ≠ 0 ∨ b ≠ 0) : Rk (RK.two a b (p * a) (p * b)) 2 2 1 := by
  have base : Rk (fun _ k => if k = 0 then a else b) 1 2 1 := by
    rcases h with h | h
    · exact Rk.one (j := 0) (by omega) h
    · exact Rk.one (j := 1) (by omega) h
  refine base.rows (fun i hi => ⟨0, 0, if i = 0 then 0 else p - 1, by omega, by omega, fun j hj => ?_⟩) fun i hi => ⟨0, by omega, fun j _ => rfl⟩
  rcases (show i = 0 ∨ i = 1 by omega) with e | e <;> subst e
  · simp [RK.two]
  · rcases (show j = 0 ∨ j = 1 by omega) with e | e <;> subst e
    · simp [RK.two]; grind
    · simp [RK.two]; grind
/-- a column of noughts in the middle -/
theorem Rk.midcol {M M' : Nat → Nat → Int} {m r : Nat} (k : Rk M m 2 r) (h0 : ∀ i, i < m → M' i 0 = M i 0) (h1 : ∀ i, i < m → M' i 1 = 0) (h2 : ∀ i, i < m → M' i 2 = M i 1) : Rk M' m 3 r := by
  have q : Rk (fun j i => M' i j) 3 m r := by
    refine k.turn.rows (fun j hj => ?_) (fun j hj => ?_)
    · rcases (show j = 0 ∨ j = 1 ∨ j = 2 by omega) with e | e | e
      · exact ⟨0, 0, 0, by omega, by omega, fun i hi => by rw [e, h0 i hi]; omega⟩
      · exact ⟨0, 0, -1, by omega, by omega, fun i hi => by rw [e, h1 i hi]; omega⟩
      · exact ⟨1, 1, 0, by omega, by omega, fun i hi => by rw [e, h2 i hi]; omega⟩
    · rcases (show j = 0 ∨ j = 1 by omega) with e | e
      · exact ⟨0, by omega, fun i hi => by rw [e, h0 i hi]⟩
      · exact ⟨2, by omega, fun i hi => by rw [e, h2 i hi]⟩
  exact q.turn
/-! ### a determinant by its figures -/
def figs (B : Int) (a : Nat → Int) : Nat → Nat → Int := fun i j => if i = 0 then a j else if j + 1 = i then -B else if j = i then 1 else 0
theorem S_at {n t : Nat} {c : Int} {μ : Nat → Int} : S n (fun k => μ k * (if k = t then c else 0)) = if t < n then μ t * c else 0 := by
  by_cases h : t < n
  · rw [if_pos h]
    have e := S_single n t c μ h
    rw [Int.mul_comm, ← e]
    exact S_congr fun i _ => Int.mul_comm _ _
  · rw [if_neg h]
    exact S_zero fun i hi => by rw [if_neg (by omega), Int.mul_zero]
theorem Rk.figs {B : Int} {a : Nat → Int} {n : Nat} (hn : 0 < n) (hB : B ≠ 0) (hV : S n (fun j => a j * B ^ j) ≠ 0) : Rk (RK.figs B a) n n n := by
  have pB : ∀ t : Nat, B ^ t ≠ 0 := fun t => Int.pow_ne_zero hB
  obtain ⟨n', rfl⟩ : ∃ n', n = n' + 1 := ⟨n - 1, by omega⟩
  refine Rk.square (fun μ z => ?_) (fun μ z => ?_)
  · -- a sum of multiples of the rows
    have col : ∀ j, j < n' + 1 → μ 0 * a j + (if j = 0 then 0 else μ j) + (if j < n' then μ (j + 1) * -B else 0) = 0 := fun j hj => by
      have e := z j hj
      rw [S_skip n' 0 _ (by omega)] at e
      have e1 : S n' (fun i => μ (sk 0 i) * RK.figs B a (sk 0 i) j) = S n' (fun i => μ (i + 1) * (if i = j then -B else 0)) + S n' (fun i => μ (i + 1) * (if i + 1 = j then 1 else 0)) := by
        rw [← S_add]
        refine S_congr fun i _ => ?_
        have s0 : sk 0 i = i + 1 := by unfold sk; rw [if_neg (by omega)]
        rw [s0]
        unfold RK.figs
        rw [if_neg (by omega)]
        by_cases e1 : j = i
        · rw [if_pos (by omega), if_pos (by omega), if_neg (by omega)]; omega
        · rw [if_neg (by omega), if_neg (c := i = j) (by omega)]
          by_cases e2 : j = i + 1
          · rw [if_pos e2, if_pos e2.symm]; omega
          · rw [if_neg e2, if_neg (fun q => e2 q.symm)]; omega
      rw [e1, S_at] at e
      have e2 : S n' (fun i => μ (i + 1) * (if i + 1 = j then 1 else 0)) = if j = 0 then 0 else μ j := by
        cases j with
        | zero => rw [if_pos rfl]; exact S_zero fun i _ => by rw [if_neg (by omega), Int.mul_zero]
        | succ j =>
          rw [if_neg (by omega), S_congr (g := fun i => μ (i + 1) * (if i = j then 1 else 0)) fun i _ => by simp [Nat.add_right_cancel_iff], S_at (μ := fun i => μ (i + 1)), if_pos (by omega)]
          omega
      rw [e2] at e
      have e3 : RK.figs B a 0 j = a j := if_pos rfl
      rw [e3] at e
      omega
    have tel : ∀ t, t ≤ n' → μ 0 * S t (fun j => a j * B ^ j) = B ^ t * (if t = 0 then 0 else μ t) := by
      intro t
      induction t with
      | zero => intro _; simp [S]
      | succ t ih =>
        intro ht
        have e := col t (by omega)
        rw [if_pos (show t < n' by omega)] at e
        show μ 0 * (S t (fun j => a j * B ^ j) + a t * B ^ t) = _
        rw [Int.mul_add, ih (by omega), if_neg (show ¬ t + 1 = 0 by omega), Int.pow_succ]
        generalize (if t = 0 then 0 else μ t) = w at e ⊢
        generalize B ^ t = b
        generalize μ (t + 1) = y at e ⊢
        generalize μ 0 = m at e ⊢
        generalize a t = c at e ⊢
        have e' : w = y * B - m * c := by grind
        rw [e']
        grind
    have last := col n' (by omega)
    rw [if_neg (show ¬ n' < n' by omega)] at last
    have m0 : μ 0 = 0 := by
      have e : μ 0 * S (n' + 1) (fun j => a j * B ^ j) = 0 := by
        show μ 0 * (S n' (fun j => a j * B ^ j) + a n' * B ^ n') = 0
        rw [Int.mul_add, tel n' (Nat.le_refl _)]
        generalize (if n' = 0 then 0 else μ n') = w at last ⊢
        have : w = - (μ 0 * a n') := by omega
        rw [this]
        grind
      rcases Int.mul_eq_zero.mp e with e | e
      · exact e
      · exact absurd e hV
    intro k hk
    by_cases hk0 : k = 0
    · rw [hk0]; exact m0
    · have e := tel k (by omega)
      rw [m0, if_neg hk0, Int.zero_mul] at e
      rcases Int.mul_eq_zero.mp e.symm with e | e
      · exact absurd e (pB k)
      · exact e
  · have up : ∀ t, t < n' → μ (t + 1) = B * μ t := fun t ht => by
      have e := z (t + 1) (by omega)
      have e1 : S (n' + 1) (fun k => μ k * RK.figs B a (t + 1) k) = S (n' + 1) (fun k => μ k * (if k = t then -B else 0)) + S (n' + 1) (fun k => μ k * (if k = t + 1 then 1 else 0)) := by
        rw [← S_add]
        refine S_congr fun k _ => ?_
        unfold RK.figs
        rw [if_neg (by omega)]
        by_cases e1 : k = t
        · rw [if_pos (by omega), if_pos e1, if_neg (by omega)]; omega
        · rw [if_neg (by omega), if_neg e1]; omega
      rw [e1, S_at, S_at, if_pos (by omega), if_pos (by omega)] at e
      rw [Int.mul_comm B]
      rw [Int.mul_neg] at e
      omega
    have pw : ∀ t, t < n' + 1 → μ t = B ^ t * μ 0 := by
      intro t
      induction t with
      | zero => intro _; rw [Int.pow_zero]; omega
      | succ t ih => intro ht; rw [up t (by omega), ih (by omega), Int.pow_succ, Int.mul_comm (B ^ t) B, Int.mul_assoc]
    have e := z 0 (by omega)
    have e1 : S (n' + 1) (fun k => μ k * RK.figs B a 0 k) = μ 0 * S (n' + 1) (fun j => a j * B ^ j) := by
      rw [← S_mul]
      refine S_congr fun k hk => ?_
      have e3 : RK.figs B a 0 k = a k := if_pos rfl
      rw [e3, pw k hk]
      grind
    rw [e1] at e
    have m0 : μ 0 = 0 := by
      rcases Int.mul_eq_zero.mp e with e | e
      · exact e
      · exact absurd e hV
    intro k hk
    rw [pw k hk, m0, Int.mul_zero]
end RK
/-! ### the text by places -/
namespace Sa
open PySem PyProof.Rows L2
def topS (i : Nat) : Stmt := PySem.Challenge.pw_saidacross_k67_whole_ranks_that_are_know.main.body.getD i (.Pass ⟨0, 0, 0, 0⟩)
abbrev sInt : Stmt := topS 4
abbrev sTab : Stmt := topS 8
abbrev sRank : Stmt := topS 9
abbrev sRankOf : Stmt := topS 10
abbrev sHand : Stmt := topS 12
abbrev sDraw : Stmt := topS 13
abbrev sShuf : Stmt := topS 14
abbrev sSign : Stmt := topS 15
abbrev sHeads : Stmt := topS 16
abbrev sProd : Stmt := topS 17
abbrev sNear : Stmt := topS 18
abbrev sGreat : Stmt := topS 19
abbrev sDet : Stmt := topS 20
abbrev sTurn : Stmt := topS 21
abbrev sMix : Stmt := topS 22
abbrev sLong : Stmt := topS 23
abbrev sIs : Stmt := topS 24
abbrev sLaw : Stmt := topS 25
theorem scInt : FnScope ["thing"] ["thing"] (defScope sInt) := ⟨rfl, rfl, rfl, by decide +kernel, rfl, by decide +kernel, by decide +kernel⟩
theorem scTab : FnScope ["thing", "row", "number"] ["thing"] (defScope sTab) := ⟨rfl, rfl, rfl, by decide +kernel, rfl, by decide +kernel, by decide +kernel⟩
theorem scRank : FnScope ["table"] ["table"] (defScope sRank) := ⟨rfl, rfl, rfl, by decide +kernel, rfl, by decide +kernel, by decide +kernel⟩
theorem scRankOf : FnScope ["table", "row", "rows", "found", "last", "column", "at", "places", "head", "pairs", "number", "other"] ["table"] (defScope sRankOf) := ⟨rfl, rfl, rfl, by decide +kernel, rfl, by decide +kernel, by decide +kernel⟩
theorem scHand : FnScope ["_law_script", "_law_cells", "_law_cell"] ["_law_script"] (defScope sHand) := ⟨rfl, rfl, rfl, by decide +kernel, rfl, by decide +kernel, by decide +kernel⟩
theorem scDraw : FnScope ["_law_hand_here", "_law_many", "_law_cell", "_law_digit", "_law_number"] ["_law_hand_here", "_law_many"] (defScope sDraw) := ⟨rfl, rfl, rfl, by decide +kernel, rfl, by decide +kernel, by decide +kernel⟩
theorem scShuf : FnScope ["_law_hand_here", "_law_things", "_law_rest", "_law_found", "_law_turn"] ["_law_hand_here", "_law_things"] (defScope sShuf) := ⟨rfl, rfl, rfl, by decide +kernel, rfl, by decide +kernel, by decide +kernel⟩
theorem scSign : FnScope ["_law_hand_here", "_law_most", "_law_number"] ["_law_hand_here", "_law_most"] (defScope sSign) := ⟨rfl, rfl, rfl, by decide +kernel, rfl, by decide +kernel, by decide +kernel⟩
theorem scHeads : FnScope ["_law_hand_here", "_law_many", "_law_size", "_law_most", "_law_order", "_law_row", "_law_k", "_law_rows", "_law_at"] ["_law_hand_here", "_law_many", "_law_size", "_law_most"] (defScope sHeads) := ⟨rfl, rfl, rfl, by decide +kernel, rfl, by decide +kernel, by decide +kernel⟩
theorem scProd : FnScope ["_law_left", "_law_right", "_law_size", "_law_table", "_law_one", "_law_other", "_law_k"] ["_law_left", "_law_right", "_law_size"] (defScope sProd) := ⟨rfl, rfl, rfl, by decide +kernel, rfl, by decide +kernel, by decide +kernel⟩
theorem scNear : FnScope ["_law_hand_here", "_law_rows", "_law_turn", "_law_part", "_law_later"] ["_law_hand_here"] (defScope sNear) := ⟨rfl, rfl, rfl, by decide +kernel, rfl, by decide +kernel, by decide +kernel⟩
theorem scGreat : FnScope ["_law_hand_here", "_law_one", "_law_other", "_law_due", "_law_part", "_law_rows", "_law_number", "_law_k", "_law_row"] ["_law_hand_here"] (defScope sGreat) := ⟨rfl, rfl, rfl, by decide +kernel, rfl, by decide +kernel, by decide +kernel⟩
theorem scDet : FnScope ["_law_hand_here", "_law_primes", "_law_way", "_law_number", "_law_turn", "_law_rows", "_law_size", "_law_at"] ["_law_hand_here"] (defScope sDet) := ⟨rfl, rfl, rfl, by decide +kernel, rfl, by decide +kernel, by decide +kernel⟩
theorem scTurn : FnScope ["_law_table", "_law_k", "_law_row"] ["_law_table"] (defScope sTurn) := ⟨rfl, rfl, rfl, by decide +kernel, rfl, by decide +kernel, by decide +kernel⟩
theorem scMix : FnScope ["_law_hand_here", "_law_table", "_law_rows"] ["_law_hand_here", "_law_table"] (defScope sMix) := ⟨rfl, rfl, rfl, by decide +kernel, rfl, by decide +kernel, by decide +kernel⟩
theorem scLong : FnScope ["_law_hand_here", "_law_table", "_law_one", "_law_other", "_law_sign", "_law_row", "_law_at", "_law_k", "_law_number"] ["_law_hand_here", "_law_table"] (defScope sLong) := ⟨rfl, rfl, rfl, by decide +kernel, rfl, by decide +kernel, by decide +kernel⟩
theorem scIs : FnScope ["_law_table", "_law_due", "_law_shown", "_law_found"] ["_law_table", "_law_due"] (defScope sIs) := ⟨rfl, rfl, rfl, by decide +kernel, rfl, by decide +kernel, by decide +kernel⟩
theorem scLaw : FnScope ["_law_script", "_law_hand_here", "_law_way", "_law_many", "_law_wide", "_law_due", "_law_most", "_law_table", "_law_mixed_here", "_law_longer_here", "_law_wider", "_law_rows", "_law_k"] ["_law_script"] (defScope sLaw) := ⟨rfl, rfl, rfl, by decide +kernel, rfl, by decide +kernel, by decide +kernel⟩
/-! ### what the top has left -/
/-- a def of the text, where it stands -/
structure DefAt (K : PySem.W.Frag) (mg : Str → Option Value) (name : Str) (st : Stmt) where
  f : Addr
  fd : FuncData
  F : Fun K name name st f fd
  g : mg name = some (.ref f)
/-- the names that are still the built-in ones, the constants -/
structure Bt (mg : Str → Option Value) : Prop where
  isinstance : mg "isinstance" = none
  int : mg "int" = none
  bool : mg "bool" = none
  list : mg "list" = none
  len : mg "len" = none
  all : mg "all" = none
  abs : mg "abs" = none
  range : mg "range" = none
  zip : mg "zip" = none
  repr : mg "repr" = none
  sum : mg "sum" = none
  max : mg "max" = none
  min : mg "min" = none
  lines : ∃ t, mg "MOST_LINES" = some (.int 128 t)
  number : ∃ t, mg "MOST_NUMBER" = some (.int 1000000000 t)
/-! ### heaps -/
theorem same_upd {H : Hp} {p : Addr} {o : HO} (free : H p = none) : Same H (upd H p o) := fun b x e => by
  rw [upd_ne (ne_of_none e free)]
  exact e
theorem same_put {H H' : Hp} {D : Addr} {o : HO} (s : Same H H') (n : H D = none) : Same H (upd H' D o) := fun b x e => by
  rw [upd_ne (ne_of_none e n)]
  exact s b x e
/-- all but the list at h is as it was -/
def SmX (h : Addr) (H H' : Hp) : Prop := ∀ b o, b ≠ h → H b = some o → H' b = some o
theorem SmX.refl (h : Addr) (H : Hp) : SmX h H H := fun _ _ _ e => e
theorem SmX.trans {h : Addr} {H H1 H2 : Hp} (a : SmX h H H1) (b : SmX h H1 H2) : SmX h H H2 := fun c o n e => b c o n (a c o n e)
theorem SmX.of {h : Addr} {H H' : Hp} (a : Same H H') : SmX h H H' := fun c o _ e => a c o e
theorem SmX.own {h : Addr} {H : Hp} {o : HO} : SmX h H (upd H h o) := fun b o n e => by rw [upd_ne n]; exact e
theorem SmX.free {h : Addr} {H H' : Hp} (e : SmX h H H') {l : Addr} (hh : l ≠ h) (q : H' l = none) : H l = none := by
  cases z : H l with
  | none => rfl
  | some o =>
    rw [e l o hh z] at q
    cases q
theorem SmX.put {h : Addr} {H H' : Hp} {D : Addr} {o : HO} (s : SmX h H H') (n : H D = none) : SmX h H (upd H' D o) := fun b x hb e => by
  rw [upd_ne (ne_of_none e n)]
  exact s b x hb e
/-- the hand of draws stands at h: a list of the cells' list, at c, and four ints -/
def Hand (H : Hp) (h c : Addr) : Prop := c ≠ h ∧ (∃ i v st n : Int, 0 ≤ i ∧ H h = some (.lst [.ref c, .int i, .int v, .int st, .int n])) ∧ ∃ cs : List Int, H c = some (.lst (cs.map V.int))
theorem Hand.same {H H' : Hp} {h c : Addr} (k : Hand H h c) (s : Same H H') : Hand H' h c := by
  obtain ⟨a, ⟨i, v, st, n, b, e⟩, cs, f⟩ := k
  exact ⟨a, ⟨i, v, st, n, b, s _ _ e⟩, cs, s _ _ f⟩
theorem Hand.ne {H : Hp} {h c p : Addr} (k : Hand H h c) (e : H p = none) : p ≠ h ∧ p ≠ c := by
  obtain ⟨a, ⟨i, v, st, n, b, e1⟩, cs, f⟩ := k
  refine And.intro (fun z => ?_) fun z => ?_
  · rw [z, e1] at e
    cases e
  · rw [z, f] at e
    cases e
theorem Hand.off {H : Hp} {h c p : Addr} {o : HO} (k : Hand H h c) (h1 : p ≠ h) (h2 : p ≠ c) : Hand (upd H p o) h c := by
  obtain ⟨a, ⟨i, v, st, n, b, e⟩, cs, f⟩ := k
  exact ⟨a, ⟨i, v, st, n, b, by rw [upd_ne (Ne.symm h1)]; exact e⟩, cs, by rw [upd_ne (Ne.symm h2)]; exact f⟩
theorem Hand.new {H : Hp} {h c p : Addr} {o : HO} (k : Hand H h c) (hp : H p = none) : Hand (upd H p o) h c := k.off (k.ne hp).1 (k.ne hp).2
/-- lists of ints at the addresses -/
def Rows (H : Hp) (rs : List Addr) (T : List (List Int)) : Prop := Paired (fun (a : Addr) (r : List Int) => H a = some (.lst (r.map V.int))) rs T
theorem Rows.length {H : Hp} {rs : List Addr} {T : List (List Int)} (h : Rows H rs T) : rs.length = T.length := Paired.length h
theorem Rows.same {H H' : Hp} {rs : List Addr} {T : List (List Int)} (h : Rows H rs T) (s : Same H H') : Rows H' rs T := Paired.mapP h fun _ _ e => s _ _ e
theorem Rows.imp {H H' : Hp} : ∀ {rs : List Addr} {T : List (List Int)}, Rows H rs T → (∀ a, a ∈ rs → ∀ o, H a = some o → H' a = some o) → Rows H' rs T
  | _, _, .nil, _ => .nil
  | a :: rs, r :: T, .cons e t, s => .cons (s a List.mem_cons_self _ e) (Rows.imp t fun b hb => s b (List.mem_cons_of_mem _ hb))
theorem Rows.at {H : Hp} : ∀ {rs : List Addr} {T : List (List Int)} {i : Nat}, Rows H rs T → i < T.length → ∃ a, rs[i]? = some a ∧ H a = some (.lst ((T.getD i []).map V.int))
  | _, _, _, .nil, h => absurd h (Nat.not_lt_zero _)
  | a :: rs, r :: T, 0, .cons e t, _ => ⟨a, rfl, e⟩
  | a :: rs, r :: T, i + 1, .cons e t, h => by
    obtain ⟨b, h1, h2⟩ := Rows.at (i := i) t (by simpa using h)
    exact ⟨b, h1, h2⟩
theorem Rows.append {H : Hp} : ∀ {rs qs : List Addr} {T U : List (List Int)}, Rows H rs T → Rows H qs U → Rows H (rs ++ qs) (T ++ U)
  | _, _, _, _, .nil, s => s
  | _, _, _, _, .cons e t, s => .cons e (Rows.append t s)
theorem Rows.mem {H : Hp} : ∀ {rs : List Addr} {T : List (List Int)} {a : Addr}, Rows H rs T → a ∈ rs → ∃ r, r ∈ T ∧ H a = some (.lst (r.map V.int))
  | _, _, _, .nil, h => nomatch h
  | b :: rs, r :: T, a, .cons e t, h => by
    rcases List.mem_cons.mp h with z | h
    · exact ⟨r, List.mem_cons_self, by rw [z]; exact e⟩
    · obtain ⟨q, h1, h2⟩ := Rows.mem t h
      exact ⟨q, List.mem_cons_of_mem _ h1, h2⟩
theorem Rows.take {H : Hp} : ∀ {rs : List Addr} {T : List (List Int)} (n : Nat), Rows H rs T → Rows H (rs.take n) (T.take n)
  | _, _, 0, _ => .nil
  | _, _, _ + 1, .nil => .nil
  | _, _, n + 1, .cons e t => .cons e (Rows.take n t)
theorem Rows.drop {H : Hp} : ∀ {rs : List Addr} {T : List (List Int)} (n : Nat), Rows H rs T → Rows H (rs.drop n) (T.drop n)
  | _, _, 0, h => h
  | _, _, _ + 1, .nil => .nil
  | _, _, n + 1, .cons e t => Rows.drop n t
/-- a table at t: a list of lists of ints, none of them at h -/
def Tab (h : Addr) (H : Hp) (t : Addr) (T : List (List Int)) : Prop := ∃ rs : List Addr, H t = some (.lst (rs.map V.ref)) ∧ Rows H rs T ∧ t ≠ h ∧ ∀ a, a ∈ rs → a ≠ h
theorem Tab.keep {h t : Addr} {H H' : Hp} {T : List (List Int)} (k : Tab h H t T) (s : SmX h H H') : Tab h H' t T := by
  obtain ⟨rs, a, b, c, d⟩ := k
  exact ⟨rs, s _ _ c a, b.imp fun x hx o e => s x o (d x hx) e, c, d⟩
/-- a table, of a def that knows no hand -/
def Tab0 (H : Hp) (t : Addr) (T : List (List Int)) : Prop := ∃ rs : List Addr, H t = some (.lst (rs.map V.ref)) ∧ Rows H rs T
theorem Tab.tab0 {h t : Addr} {H : Hp} {T : List (List Int)} (k : Tab h H t T) : Tab0 H t T := by
  obtain ⟨rs, a, b, _⟩ := k
  exact ⟨rs, a, b⟩
theorem Tab0.same {t : Addr} {H H' : Hp} {T : List (List Int)} (k : Tab0 H t T) (s : Same H H') : Tab0 H' t T := by
  obtain ⟨rs, a, b⟩ := k
  exact ⟨rs, s _ _ a, b.same s⟩
end Sa
namespace Sa
open PySem PyProof.Rows L2
section
variable {base : Heap} {mg : Str → Option Value} {w : World} {P : Program} {K : PySem.W.Frag}
/-! ### _law_draw -/
def spDraw : Sp := fun vs H Q _ => ∃ (h c : Addr) (m : Int), vs = [.ref h, .int m] ∧ Hand H h c ∧ 0 < m ∧ m < 1073741824 ∧ ∀ (d : Int) (H' : Hp), 0 ≤ d → d < m → SmX h H H' → Hand H' h c → Q (.int d) H'
theorem ok_draw (d : DefAt K mg "_law_draw" sDraw) (T : Bt mg) : FnOk P w K mg base CX0 1 d.f d.fd ["_law_hand_here", "_law_many"] spDraw := by
  refine d.F.ok scDraw (fun vs H Q E h => ?_) (fun cdv A outer s H vs Q E hr h => ?_)
  · obtain ⟨h, c, m, rfl, _⟩ := h
    rfl
  · obtain ⟨h, c, m, rfl, ⟨hc, ⟨i, v, st, n, hi, e0⟩, cs, e1⟩, hm, hm2, k⟩ := h
    refine ⟨_, C8.pss_cut (ps_if (PW.pt (pw_and (pt_cmpR op_eq (pe_ix ix_list (pv 0) pe_int (fun _ _ => rfl)) pe_int (nomark _))
          (pw_and1 (pt_cmpR op_lt (pe_ix ix_list (pv 0) pe_int (fun _ _ => rfl)) (pe_callB call_len_seq (by rfl) T.len PySem.boot_len (pa_cons (pe_ix ix_list (pv 0) pe_int (fun _ _ => rfl)) pa_nil)) (nomark _)))))
        (pss_cons (ps_set (i := 2) scDraw.nd rfl (Or.inl rfl) (pe_ix ix_list (pe_ix ix_list (pv 0) pe_int (fun _ _ => rfl)) (pe_ix ix_list (pv 0) pe_int (fun _ _ => rfl)) (fun _ _ => rfl)))
        (pss_cons (ps_asg (pe_op op_add (pe_ix ix_list (pv 0) pe_int (fun _ _ => rfl)) pe_int) (pg_sub (pv 0) pe_int set_list))
        (pss_cons (ps_asg (pe_op op_mod (pe_callTy call_int1 (by rfl) T.int (by decide +kernel) (pa_cons (pe_op op_add (pe_op op_add (pe_op op_mul (pe_ix ix_list (pv 0) pe_int (fun _ _ => rfl)) pe_int) (pv 2)) pe_int) pa_nil)) pe_int) (pg_sub (pv 0) pe_int set_list))
        (pss_one (ps_if (pt_cmpR op_ge (pv 2) (pe_op op_pow pe_int pe_int) (nomark _)) (pss_one (ps_asg (pv 2) (pg_sub (pv 0) pe_int set_list))) pss_nil)))))
        pss_nil)
      (pss_cons (ps_if (pt_cmpR op_gt (pe_ix ix_list (pv 0) pe_int (fun _ _ => rfl)) pe_int (nomark _))
        (pss_cons (ps_set (i := 3) scDraw.nd rfl (Or.inl rfl) (pe_op op_mod (pe_callTy call_int1 (by rfl) T.int (by decide +kernel) (pa_cons (pe_ix ix_list (pv 0) pe_int (fun _ _ => rfl)) pa_nil)) (pv 1)))
        (pss_cons (ps_asg (pe_op op_fdiv (pe_ix ix_list (pv 0) pe_int (fun _ _ => rfl)) (pv 1)) (pg_sub (pv 0) pe_int set_list))
        (pss_one (ps_ret (pv 3))))) pss_nil)
      (pss_cons (ps_asg (pe_op op_add (pe_ix ix_list (pv 0) pe_int (fun _ _ => rfl)) pe_int) (pg_sub (pv 0) pe_int set_list))
      (pss_cons (ps_set (i := 4) scDraw.nd rfl (Or.inl rfl) (pe_op op_mod (pe_callTy call_int1 (by rfl) T.int (by decide +kernel) (pa_cons (pe_op op_mul (pe_callTy call_int1 (by rfl) T.int (by decide +kernel) (pa_cons (pe_op op_add (pe_ix ix_list (pv 0) pe_int (fun _ _ => rfl)) (pe_op op_mul pe_int (pe_ix ix_list (pv 0) pe_int (fun _ _ => rfl)))) pa_nil)) pe_int) pa_nil)) pe_int))
      (pss_cons (ps_set (i := 4) scDraw.nd rfl (Or.inl rfl) (pe_op op_mod (pe_callTy call_int1 (by rfl) T.int (by decide +kernel) (pa_cons (pe_op op_mul (pv 4) (pe_op op_add (pe_op op_fdiv (pv 4) pe_int) pe_int)) pa_nil)) pe_int))
      (pss_cons (ps_set (i := 4) scDraw.nd rfl (Or.inl rfl) (pe_op op_mod (pe_callTy call_int1 (by rfl) T.int (by decide +kernel) (pa_cons (pe_op op_mul (pv 4) (pe_op op_add (pe_op op_fdiv (pv 4) pe_int) pe_int)) pa_nil)) pe_int))
      (pss_one (ps_ret (pe_op op_mod (pe_callTy call_int1 (by rfl) T.int (by decide +kernel) (pa_cons (pe_op op_fdiv (pv 4) pe_int) pa_nil)) (pv 1))))))))), ?_⟩
    refine ⟨fun σ' H' => ∃ (c4 : Option V) (i v st : Int), σ' = [some (.ref h), some (.int m), c4, none, none] ∧ 0 ≤ i ∧ SmX h H H' ∧ H' h = some (.lst [.ref c, .int i, .int v, .int st, .int n]), ?_, ?_⟩
    · -- the first if
      refine ⟨_, rfl, h, _, 2, _, rfl, rfl, SqL.of e0, rfl, rfl, _, rfl, ite2 (fun _ => ?_) (fun _ => ?_)⟩
      · refine ⟨_, rfl, h, _, 1, _, rfl, rfl, SqL.of e0, rfl, _, rfl, h, _, 0, _, rfl, rfl, SqL.of e0, rfl, c, _, rfl, .inl (SqL.of e1), _, _, rfl, rfl, _, rfl, ite2 (fun hlt => ?_) (fun _ => ?_)⟩
        · have hlt' : i < ((cs.map V.int).length : Nat) := of_decide_eq_true hlt
          rw [List.length_map] at hlt'
          have hz : i.toNat < cs.length := by omega
          refine ⟨_, rfl, h, _, 0, _, rfl, rfl, SqL.of e0, rfl, _, rfl, h, _, 1, _, rfl, rfl, SqL.of e0, rfl, c, _, i, .int cs[i.toNat], rfl, rfl, SqL.of e1, at_of (j := i.toNat) (by omega) (by rw [List.getElem?_map, List.getElem?_eq_getElem hz]; rfl), ?_⟩
          refine ⟨_, rfl, h, _, 1, _, rfl, rfl, SqL.of e0, rfl, _, _, rfl, rfl, _, rfl, h, _, 1, 1, rfl, rfl, e0, rfl, ?_⟩
          refine ⟨_, rfl, h, _, 3, _, rfl, rfl, SqL.of upd_same, rfl, _, _, rfl, rfl, .inr ⟨by decide, by decide⟩, _, rfl, _, _, rfl, rfl, _, _, rfl, rfl, .inl ⟨_, rfl, _, _, rfl, rfl, (by decide : (0 : Int) < 2147483629), _, rfl, h, _, 3, 3, rfl, rfl, upd_same, rfl, ?_⟩⟩
          refine ⟨_, rfl, _, _, rfl, rfl, ⟨by decide, by decide, by decide⟩, _, _, rfl, rfl, _, rfl, ite2 (fun _ => ?_) (fun _ => ?_)⟩
          · refine ⟨_, rfl, _, rfl, h, _, 2, 2, rfl, rfl, upd_same, rfl, ?_⟩
            exact ⟨_, i + 1, _, _, rfl, by omega, (SmX.own.trans SmX.own).trans SmX.own, upd_same⟩
          · exact ⟨_, i + 1, _, _, rfl, by omega, SmX.own.trans SmX.own, upd_same⟩
        · exact ⟨none, i, v, st, rfl, hi, SmX.refl _ _, e0⟩
      · exact iteF ⟨none, i, v, st, rfl, hi, SmX.refl _ _, e0⟩
    · rintro σ' H' ⟨c4, i', v', st', rfl, hi', sm, f0⟩
      have f1 := sm c _ hc e1
      have fin : ∀ (xs : Int) (ys : Int) (H2 : Hp), SmX h H' H2 → H2 h = some (.lst [.ref c, .int i', .int xs, .int st', .int ys]) → Hand H2 h c := fun xs ys H2 s2 e => ⟨hc, ⟨i', xs, st', ys, hi', e⟩, cs, s2 c _ hc f1⟩
      refine ⟨_, rfl, h, _, 2, _, rfl, rfl, SqL.of f0, rfl, _, _, rfl, rfl, _, rfl, ite2 (fun _ => ?_) (fun _ => ?_)⟩
      · refine ⟨_, rfl, h, _, 2, _, rfl, rfl, SqL.of f0, rfl, .inl ⟨_, rfl, _, rfl, _, _, rfl, rfl, hm, ?_⟩⟩
        refine ⟨_, rfl, h, _, 2, _, rfl, rfl, SqL.of f0, rfl, _, rfl, _, _, rfl, rfl, ⟨hm, hm2⟩, _, rfl, h, _, 2, 2, rfl, rfl, f0, rfl, ?_⟩
        refine ⟨_, rfl, k _ _ (Int.emod_nonneg _ (by omega)) (Int.emod_lt_of_pos _ hm) (sm.trans SmX.own) (fin _ n _ SmX.own upd_same)⟩
      · refine ⟨_, rfl, h, _, 4, _, rfl, rfl, SqL.of f0, rfl, _, _, rfl, rfl, _, rfl, h, _, 4, 4, rfl, rfl, f0, rfl, ?_⟩
        refine ⟨_, rfl, h, _, 3, _, rfl, rfl, SqL.of upd_same, rfl, _, rfl, h, _, 4, _, rfl, rfl, SqL.of upd_same, rfl, _, _, rfl, rfl, .inl ⟨by decide, by decide⟩, _, _, rfl, rfl, .inl ⟨_, rfl, _, _, rfl, rfl, .inr ⟨by decide, by decide⟩, .inl ⟨_, rfl, _, _, rfl, rfl, (by decide : (0 : Int) < 2147483647), ?_⟩⟩⟩
        have rng : ∀ z : Int, -(2 ^ 64) < z % 2147483647 ∧ z % 2147483647 < 2 ^ 64 := fun z => by
          have h1 := Int.emod_nonneg z (show (2147483647 : Int) ≠ 0 by decide)
          have h2 := Int.emod_lt_of_pos z (show (0 : Int) < 2147483647 by decide)
          constructor <;> omega
        refine ⟨_, rfl, _, rfl, _, _, rfl, rfl, ⟨by decide, by decide⟩, _, _, rfl, rfl, _, _, rfl, rfl, .inl (rng _), .inl ⟨_, rfl, _, _, rfl, rfl, (by decide : (0 : Int) < 2147483647), ?_⟩⟩
        refine ⟨_, rfl, _, rfl, _, _, rfl, rfl, ⟨by decide, by decide⟩, _, _, rfl, rfl, _, _, rfl, rfl, .inl (rng _), .inl ⟨_, rfl, _, _, rfl, rfl, (by decide : (0 : Int) < 2147483399), ?_⟩⟩
        refine ⟨_, rfl, _, _, rfl, rfl, ⟨by decide, by decide⟩, .inl ⟨_, rfl, _, rfl, _, _, rfl, rfl, hm, ?_⟩⟩
        exact k _ _ (Int.emod_nonneg _ (by omega)) (Int.emod_lt_of_pos _ hm) (sm.trans SmX.own) (fin v' (n + 1) _ SmX.own upd_same)
end
end Sa
namespace Sa
open PySem PyProof.Rows L2
section
variable {base : Heap} {mg : Str → Option Value} {w : World} {P : Program} {K : PySem.W.Frag}
/-! ### small facts -/
theorem perm_erase {α : Type} : ∀ {l : List α} {k : Nat} {y : α}, l[k]? = some y → (y :: l.eraseIdx k).Perm l
  | [], k, y, h => by simp at h
  | a :: r, 0, y, h => by
    have e : a = y := Option.some.inj h
    rw [e]
    exact .refl _
  | a :: r, k + 1, y, h => by
    have ih := perm_erase (l := r) (k := k) (y := y) h
    show (y :: a :: r.eraseIdx k).Perm (a :: r)
    exact (List.Perm.swap a y _).trans (ih.cons a)
/-! ### _law_hand -/
def spHand (K : PySem.W.Frag) : Sp := fun vs H Q _ => ∃ (a : Addr) (ns : List Int), vs = [.ref a] ∧ SqL K H a (ns.map V.int) ∧ ns.length ≤ 63 ∧ ∀ (h : Addr) (H' : Hp), Same H H' → H h = none → (∃ c, Hand H' h c) → Q (.ref h) H'
theorem ok_hand (d : DefAt K mg "_law_hand" sHand) (T : Bt mg) : FnOk P w K mg base CX0 1 d.f d.fd ["_law_script"] (spHand K) := by
  refine d.F.ok scHand (fun vs H Q E h => ?_) (fun cdv A outer s H vs Q E hr h => ?_)
  · obtain ⟨a, ns, rfl, _⟩ := h
    rfl
  · obtain ⟨a, ns, rfl, scr, few, k⟩ := h
    refine ⟨_, pss_cons (ps_setLc (i := 1) (own := [("_law_cell", 2)]) (g := gName 2) (tt := tYes) rfl scHand.nd rfl rfl (sw_true rfl rfl rfl (by decide +kernel)) (pi_list (pe_slice sl_list (pv 0) po_none (po_some pe_int)))
        (blkOk_by (N := ["_law_script", "_law_cells", "_law_cell"]) (sc := defScope sHand) (own := [("_law_cell", 2)]) (by decide +kernel)) (fun _ _ _ _ _ => pg_name (i := 2) scHand.nd rfl (Or.inl rfl)) (fun _ _ _ _ _ => pts_nil)
        (fun _ _ _ _ _ => (pe_callB call_abs (by rfl) T.abs (by decide +kernel) (pa_cons (pe_callTy call_int1 (by rfl) T.int (by decide +kernel) (pa_cons (pv 2) pa_nil)) pa_nil))))
      (pss_one (ps_ret (pe_lst (pa_cons (pv 1) (pa_cons pe_int (pa_cons pe_int (pa_cons (pe_op op_add pe_int (pe_callB call_len_seq (by rfl) T.len PySem.boot_len (pa_cons (pv 1) pa_nil))) (pa_cons pe_int pa_nil)))))))), ?_⟩
    refine ⟨_, rfl, _, rfl, a, _, rfl, scr, fun p np => ⟨p, rfl, ⟨_, SqL.of upd_same⟩, fun D hD => ?_⟩⟩
    have s1 : Same H (upd H p (.lst (cutV (ns.map V.int) none (some 63)))) := same_upd np
    have cut : ∃ cs : List Int, cutV (ns.map V.int) none (some 63) = cs.map V.int ∧ cs.length ≤ 63 := by
      unfold cutV
      refine ⟨(ns.drop (HT.sIx (ns.map V.int).length 0 none)).take _, by rw [List.map_take, List.map_drop], ?_⟩
      simp only [List.length_take, List.length_drop]
      omega
    obtain ⟨cs, ecs, lcs⟩ := cut
    rw [ecs] at hD ⊢
    rw [ecs] at s1
    have pD : p ≠ D := ne_of_none upd_same hD
    refine lc_list (K := K) (a := p) (xs := cs.map V.int) (fun i H' => Same (upd H p (.lst (cs.map V.int))) H' ∧ ∃ zs : List Int, zs.length = i ∧ H' D = some (.lst (zs.map V.int))) ⟨same_upd hD, [], rfl, upd_same⟩ (fun i H' _ q => SqL.of (q.1 _ _ upd_same)) ?_ ?_
    · rintro i x H' hi ⟨sm, zs, hz, eD⟩
      have hlt : i < cs.length := by
        have q := (List.getElem?_eq_some_iff.1 hi).1
        rw [List.length_map] at q
        exact q
      have ex : x = V.int cs[i] := by
        rw [List.getElem?_map, List.getElem?_eq_getElem hlt] at hi
        exact (Option.some.inj hi).symm
      subst ex
      refine ⟨rfl, _, rfl, .inl ⟨_, rfl, _, rfl, _, eD, small1000 (by rw [List.length_map]; omega), same_put sm hD, zs ++ [if cs[i] < 0 then - cs[i] else cs[i]], by rw [List.length_append, hz]; rfl, ?_⟩⟩
      rw [upd_same, List.map_append]
      rfl
    · rintro H' ⟨sm, zs, hz, eD⟩
      refine ⟨_, rfl, _, rfl, D, _, rfl, .inl (SqL.of eD), _, _, rfl, rfl, (by show 5 ≤ sizeLine; decide), fun h nh => ?_⟩
      have nhD : D ≠ h := ne_of_none eD nh
      exact k h _ (same_put (s1.trans sm) ((s1.trans sm).free nh)) ((s1.trans sm).free nh) ⟨D, nhD, ⟨0, 0, _, 0, Int.le_refl 0, upd_same⟩, zs, by rw [upd_ne nhD]; exact eD⟩
/-! ### _law_shuffled -/
def spShuf : Sp := fun vs H Q _ => ∃ (h c t : Addr) (xs : List V), vs = [.ref h, .ref t] ∧ Hand H h c ∧ H t = some (.lst xs) ∧ t ≠ h ∧ xs.length ≤ 1000 ∧ ∀ (p : Addr) (H' : Hp) (ys : List V), SmX h H H' → Hand H' h c → H p = none → H' p = some (.lst ys) → ys.Perm xs → Q (.ref p) H'
theorem ok_shuf (d : DefAt K mg "_law_shuffled" sShuf) (dD : DefAt K mg "_law_draw" sDraw) (T : Bt mg) : FnOk P w K mg base CX0 2 d.f d.fd ["_law_hand_here", "_law_things"] spShuf := by
  have GD : FnOk P w K mg base CX0 1 dD.f dD.fd _ spDraw := ok_draw dD T
  have bD : Binds K dD.fd ["_law_hand_here", "_law_many"] [] := dD.F.binds fun _ _ _ _ _ _ us hl => match us, hl with | [_, _], _ => rfl
  refine d.F.ok scShuf (fun vs H Q E h => ?_) (fun cdv A outer s H vs Q E hr h => ?_)
  · obtain ⟨h, c, t, xs, rfl, _⟩ := h
    rfl
  · obtain ⟨h, c, t, xs, rfl, hh, ht, hth, hlen, k⟩ := h
    have hr1 : Room 1 _ := hr
    refine ⟨_, (pss_cons (ps_set (i := 2) scShuf.nd rfl (Or.inl rfl) (pe_callTy call_list_of (by rfl) T.list (by decide +kernel) (pa_cons (pv 1) pa_nil))) (pss_cons (ps_set (i := 3) scShuf.nd rfl (Or.inl rfl) (pe_lst pa_nil)) (pss_cons (ps_for PassesOwn.never rfl (pi_range1 (by rfl) T.range (pa_cons (pe_callB call_len_seq (by rfl) T.len PySem.boot_len (pa_cons (pv 1) pa_nil)) pa_nil)) (pg_name (i := 4) scShuf.nd rfl (Or.inl rfl)) (pss_one (ps_expr (pe_bm PySem.F.plainAttrs_list PySem.F.slot_list_append PySem.F.type_list_append mt_append (pv 3) (pa_cons (pe_bm PySem.F.plainAttrs_list PySem.F.slot_list_pop PySem.F.type_list_pop mt_popAt (pv 2) (pa_cons (pe_call GD hr1 (by rfl) dD.g dD.F.kp bD .nil pass0 (pa_cons (pv 0) (pa_cons (pe_callB call_len_seq (by rfl) T.len PySem.boot_len (pa_cons (pv 2) pa_nil)) pa_nil))) pa_nil)) pa_nil))))) (pss_one (ps_ret (pv 3)))))), ?_⟩
    refine ⟨_, rfl, t, _, rfl, .inl (SqL.of ht), fun r nr => ⟨Nat.zero_le _, fun f nf => ?_⟩⟩
    have rf : r ≠ f := ne_of_none upd_same nf
    have s1 : Same H (upd H r (.lst xs)) := same_upd nr
    have s2 : Same H (upd (upd H r (.lst xs)) f (.lst [])) := s1.trans (same_upd nf)
    have nf0 : H f = none := s1.free nf
    obtain ⟨rh, rc⟩ := hh.ne nr
    obtain ⟨fh, fc⟩ := hh.ne nf0
    refine ⟨_, rfl, t, _, rfl, .inl (SqL.of (s2 _ _ ht)), (xs.length : Int), rfl, by omega, by omega, for_range (lo := 0) (n := xs.length) (fun i σ H' => ∃ (v4 : Option V) (rest found : List V), σ = [some (.ref h), some (.ref t), some (.ref r), some (.ref f), v4] ∧ SmX h H H' ∧ Hand H' h c ∧ H' r = some (.lst rest) ∧ H' f = some (.lst found) ∧ found.length = i ∧ (found ++ rest).Perm xs)
      ⟨none, xs, [], rfl, .of s2, hh.same s2, by rw [upd_ne rf]; exact upd_same, upd_same, rfl, .refl _⟩ ?_ ?_⟩
    · rintro i σ H' hi ⟨v4, rest, found, rfl, sm, hh', er, ef, hl, pm⟩
      have tot := pm.length_eq
      rw [List.length_append] at tot
      refine ⟨_, rfl, .inl ⟨rfl, _, SqL.of ef⟩, _, rfl, .inl ⟨rfl, _, SqL.of er⟩, _, rfl, _, rfl, r, _, rfl, .inl (SqL.of er), h, c, _, rfl, hh', by omega, by omega, fun d H2 d0 d1 sm2 hh2 => ?_⟩
      have er2 := sm2 r _ rh er
      have ef2 := sm2 f _ fh ef
      have hd : d.toNat < rest.length := by omega
      refine ⟨r, rest, d, d.toNat, rest[d.toNat], rfl, rfl, er2, by omega, by omega, seqIndex_of d0 d1, List.getElem?_eq_getElem hd, ?_⟩
      refine ⟨f, found, rest[d.toNat], rfl, rfl, (by rw [upd_ne (Ne.symm rf)]; exact ef2), small1000 (by omega), ?_⟩
      refine ⟨_, rest.eraseIdx d.toNat, found ++ [rest[d.toNat]], rfl, ((sm.trans sm2).put nr).put nf0, (hh2.off rh rc).off fh fc, by rw [upd_ne rf]; exact upd_same, upd_same, by rw [List.length_append, hl]; rfl, ?_⟩
      rw [List.append_assoc]
      exact ((perm_erase (List.getElem?_eq_getElem hd)).append_left found).trans pm
    · rintro σ H' ⟨v4, rest, found, rfl, sm, hh', er, ef, hl, pm⟩
      have tot := pm.length_eq
      rw [List.length_append] at tot
      have e0 : rest = [] := List.length_eq_zero_iff.mp (by omega)
      subst e0
      rw [List.append_nil] at pm
      exact ⟨_, rfl, k f H' found sm hh' nf0 ef pm⟩
end
end Sa
namespace Sa
open PySem PyProof.Rows L2
section
variable {base : Heap} {mg : Str → Option Value} {w : World} {P : Program} {K : PySem.W.Frag}
/-! ### a table under way: its list stands at D, its rows are new since H0 -/
def Grow (H0 H' : Hp) (D : Addr) (T : List (List Int)) : Prop := ∃ rs : List Addr, H' D = some (.lst (rs.map V.ref)) ∧ Rows H' rs T ∧ rs.Nodup ∧ ∀ a, a ∈ rs → H0 a = none ∧ a ≠ D
theorem Grow.nil {H0 H' : Hp} {D : Addr} (e : H' D = some (.lst [])) : Grow H0 H' D [] := ⟨[], e, .nil, .nil, fun _ h => (nomatch h)⟩
theorem Grow.by {H0 H' H'' : Hp} {D : Addr} {T : List (List Int)} (k : Grow H0 H' D T) (s : ∀ b o, (b = D ∨ H0 b = none) → H' b = some o → H'' b = some o) : Grow H0 H'' D T := by
  obtain ⟨rs, a, b, c, d⟩ := k
  exact ⟨rs, s _ _ (.inl rfl) a, b.imp fun x hx o e => s x o (.inr (d x hx).1) e, c, d⟩
theorem Grow.keepX {H0 H' H'' : Hp} {D h : Addr} {T : List (List Int)} (k : Grow H0 H' D T) (n : ∃ o, H0 h = some o) (hD : D ≠ h) (s : SmX h H' H'') : Grow H0 H'' D T := k.by fun b o hb e => s b o (by
  rcases hb with z | z
  · rw [z]; exact hD
  · intro q
    obtain ⟨o', n⟩ := n
    rw [q, n] at z
    cases z) e
theorem Grow.keepS {H0 H' H'' : Hp} {D : Addr} {T : List (List Int)} (k : Grow H0 H' D T) (s : Same H' H'') : Grow H0 H'' D T := k.by fun b o _ e => s b o e
/-- a new row p, of which nothing stood in H1 -/
theorem Grow.push {H0 H1 H2 : Hp} {D p : Addr} {T : List (List Int)} {r : List Int} (k1 : Grow H0 H1 D T) (n0 : H0 p = none) (n1 : H1 p = none) (k : Grow H0 H2 D T) (same : ∀ rs : List Addr, H1 D = some (.lst (rs.map V.ref)) → H2 D = some (.lst (rs.map V.ref))) (e : H2 p = some (.lst (r.map V.int))) :
    ∃ acc, H2 D = some (.lst acc) ∧ acc.length = T.length ∧ Grow H0 (upd H2 D (.lst (acc ++ [.ref p]))) D (T ++ [r]) := by
  obtain ⟨rs1, a1, b1, _, _⟩ := k1
  obtain ⟨rs, a, b, c, d⟩ := k
  have e2 := same _ a1
  rw [a] at e2
  have er : rs = rs1 := by
    have q := HO.lst.inj (Option.some.inj e2)
    exact (List.map_inj_right (fun x y z => V.ref.inj z)).mp q
  have pD : p ≠ D := fun z => by rw [z, a1] at n1; cases n1
  have pr : p ∉ rs := fun z => by
    rw [er] at z
    obtain ⟨r', _, q⟩ := b1.mem z
    rw [n1] at q
    cases q
  refine ⟨rs.map V.ref, a, by rw [List.length_map, b.length], rs ++ [p], by rw [upd_same, List.map_append]; rfl, (b.imp fun x hx o q => by rw [upd_ne (d x hx).2]; exact q).append (.cons (by rw [upd_ne pD]; exact e) .nil), ?_, fun x hx => ?_⟩
  · rw [List.nodup_append]
    exact ⟨c, by simp, fun x hx y hy z => by
      rw [List.mem_singleton.1 hy] at z
      exact pr (z ▸ hx)⟩
  · rcases List.mem_append.1 hx with hx | hx
    · exact d x hx
    · rw [List.mem_singleton.1 hx]
      exact ⟨n0, pD⟩
theorem Grow.tab0 {H0 H' : Hp} {D : Addr} {T : List (List Int)} (k : Grow H0 H' D T) : Tab0 H' D T := by
  obtain ⟨rs, a, b, _⟩ := k
  exact ⟨rs, a, b⟩
theorem Grow.tab {H0 H' : Hp} {D h : Addr} {T : List (List Int)} (k : Grow H0 H' D T) (n : ∃ o, H0 h = some o) (hD : D ≠ h) : Tab h H' D T := by
  obtain ⟨rs, a, b, _, d⟩ := k
  obtain ⟨o, n⟩ := n
  exact ⟨rs, a, b, hD, fun x hx z => by
    have q := (d x hx).1
    rw [z, n] at q
    cases q⟩
theorem Hand.some {H : Hp} {h c : Addr} (k : Hand H h c) : ∃ o, H h = Option.some o := by
  obtain ⟨_, ⟨_, _, _, _, _, e⟩, _⟩ := k
  exact ⟨_, e⟩
/-! ### _law_signed -/
def spSign : Sp := fun vs H Q _ => ∃ (h c : Addr) (m : Int), vs = [.ref h, .int m] ∧ Hand H h c ∧ 0 ≤ m ∧ m + 1 < 1073741824 ∧ ∀ (z : Int) (H' : Hp), -m ≤ z → z ≤ m → SmX h H H' → Hand H' h c → Q (.int z) H'
theorem ok_sign (d : DefAt K mg "_law_signed" sSign) (dD : DefAt K mg "_law_draw" sDraw) (T : Bt mg) : FnOk P w K mg base CX0 2 d.f d.fd ["_law_hand_here", "_law_most"] spSign := by
  have GD : FnOk P w K mg base CX0 1 dD.f dD.fd _ spDraw := ok_draw dD T
  have bD : Binds K dD.fd ["_law_hand_here", "_law_many"] [] := dD.F.binds fun _ _ _ _ _ _ us hl => match us, hl with | [_, _], _ => rfl
  refine d.F.ok scSign (fun vs H Q E h => ?_) (fun cdv A outer s H vs Q E hr h => ?_)
  · obtain ⟨h, c, m, rfl, _⟩ := h
    rfl
  · obtain ⟨h, c, m, rfl, hh, m0, m1, k⟩ := h
    have hr1 : Room 1 _ := hr
    refine ⟨_, (pss_cons (ps_set (i := 2) scSign.nd rfl (Or.inl rfl) (pe_call GD hr1 (by rfl) dD.g dD.F.kp bD .nil pass0 (pa_cons (pv 0) (pa_cons (pe_op op_add (pv 1) pe_int) pa_nil)))) (pss_cons (ps_if (pt_cmpR op_eq (pe_call GD hr1 (by rfl) dD.g dD.F.kp bD .nil pass0 (pa_cons (pv 0) (pa_cons pe_int pa_nil))) pe_int (nomark _)) (pss_one (ps_ret (pe_un un_neg (pv 2)))) pss_nil) (pss_one (ps_ret (pv 2))))), ?_⟩
    refine ⟨_, rfl, _, rfl, _, _, rfl, rfl, h, c, _, rfl, hh, by omega, m1, fun z H1 z0 z1 sm1 hh1 => ?_⟩
    refine ⟨_, rfl, h, c, _, rfl, hh1, by decide, by decide, fun b H2 _ _ sm2 hh2 => ⟨rfl, _, rfl, ite2 (fun _ => ?_) (fun _ => ?_)⟩⟩
    · exact ⟨_, rfl, _, rfl, k _ _ (by omega) (by omega) (sm1.trans sm2) hh2⟩
    · exact ⟨_, rfl, k _ _ (by omega) (by omega) (sm1.trans sm2) hh2⟩
end
end Sa
namespace Sa
open PySem PyProof.Rows L2
section
variable {base : Heap} {mg : Str → Option Value} {w : World} {P : Program} {K : PySem.W.Frag}
def asgE : Stmt → Expr
  | .Assign _ e _ => e
  | _ => .Constant .none 0 ⟨0, 0, 0, 0⟩
def lcSc : Expr → Scope
  | .ListComp _ _ sc _ => sc
  | _ => { names := [], kind := .function, isCoroutine := false, isGenerator := false }
def stAt (b : List Stmt) (i : Nat) : Stmt := b.getD i (.Pass ⟨0, 0, 0, 0⟩)
theorem ixN_of {n j : Nat} {z : Int} (e : z = (j : Int)) (h : j < n) : ixN n z = some j := by
  rw [e]
  unfold ixN
  rw [if_pos (by omega), if_pos (by omega), Int.toNat_natCast]
theorem Rows.set {H H' : Hp} {r : List Int} : ∀ {rs : List Addr} {T : List (List Int)} {j : Nat} {a : Addr}, Rows H rs T → rs.Nodup → rs[j]? = some a → SmX a H H' → H' a = some (.lst (r.map V.int)) → Rows H' rs (T.set j r)
  | _, _, _, _, .nil, _, h, _, _ => by simp at h
  | b :: rs, _ :: T, 0, a, .cons e t, nd, h, s, q => by
    have z : b = a := Option.some.inj h
    have nb := (List.nodup_cons.mp nd).1
    exact .cons (by rw [z]; exact q) (Rows.imp t fun x hx o e => s x o (fun y => nb (by rw [z, ← y]; exact hx)) e)
  | b :: rs, _ :: T, j + 1, a, .cons e t, nd, h, s, q => by
    have h' : rs[j]? = some a := by simpa using h
    have nb := (List.nodup_cons.mp nd).1
    exact .cons (s b _ (fun y => nb (by rw [y]; exact List.mem_of_getElem? h')) e) (Rows.set t (List.nodup_cons.mp nd).2 h' s q)
theorem ent_set {T : List (List Int)} {j i l : Nat} {r : List Int} (hj : j < T.length) : RK.ent (T.set j r) i l = if i = j then r.getD l 0 else RK.ent T i l := by
  unfold RK.ent
  by_cases e : i = j
  · rw [if_pos e, e, List.getD_eq_getElem?_getD (l := T.set j r), List.getElem?_set_self hj]
    rfl
  · rw [if_neg e, List.getD_eq_getElem?_getD (l := T.set j r), List.getElem?_set_ne (Ne.symm e), ← List.getD_eq_getElem?_getD]
theorem getD_set {r : List Int} {j l : Nat} {z : Int} (hj : j < r.length) : (r.set j z).getD l 0 = if l = j then z else r.getD l 0 := by
  by_cases e : l = j
  · rw [if_pos e, e, List.getD_eq_getElem?_getD, List.getElem?_set_self hj]
    rfl
  · rw [if_neg e, List.getD_eq_getElem?_getD, List.getElem?_set_ne (Ne.symm e), ← List.getD_eq_getElem?_getD]
/-- all numbers lie within q -/
def Within (q : Int) (r : List Int) : Prop := ∀ z, z ∈ r → -q ≤ z ∧ z ≤ q
theorem Within.set {q : Int} {r : List Int} {j : Nat} {z : Int} (h : Within q r) (a : -q ≤ z) (b : z ≤ q) : Within q (r.set j z) := fun y hy => by
  rcases List.mem_or_eq_of_mem_set hy with y' | e
  · exact h y y'
  · rw [e]; exact ⟨a, b⟩
/-- m rows of r numbers within q -/
structure Dims (T : List (List Int)) (m r : Nat) (q : Int) : Prop where
  m : T.length = m
  r : ∀ x, x ∈ T → x.length = r
  q : ∀ x, x ∈ T → Within q x
theorem Dims.set {T : List (List Int)} {m r j : Nat} {q : Int} {x : List Int} (h : Dims T m r q) (a : x.length = r) (b : Within q x) : Dims (T.set j x) m r q :=
  ⟨by rw [List.length_set]; exact h.m, fun y hy => by
    rcases List.mem_or_eq_of_mem_set hy with y' | e
    · exact h.r y y'
    · rw [e]; exact a, fun y hy => by
    rcases List.mem_or_eq_of_mem_set hy with y' | e
    · exact h.q y y'
    · rw [e]; exact b⟩
theorem Dims.nil {r : Nat} {q : Int} : Dims [] 0 r q := ⟨rfl, fun _ h => (nomatch h), fun _ h => (nomatch h)⟩
theorem Dims.push {T : List (List Int)} {m r : Nat} {q : Int} {x : List Int} (h : Dims T m r q) (a : x.length = r) (b : Within q x) : Dims (T ++ [x]) (m + 1) r q :=
  ⟨by rw [List.length_append, h.m]; rfl, fun y hy => by
    rcases List.mem_append.1 hy with y' | e
    · exact h.r y y'
    · rw [List.mem_singleton.1 e]; exact a, fun y hy => by
    rcases List.mem_append.1 hy with y' | e
    · exact h.q y y'
    · rw [List.mem_singleton.1 e]; exact b⟩
theorem Dims.get {T : List (List Int)} {m r i : Nat} {q : Int} (h : Dims T m r q) (hi : i < m) : (T.getD i []).length = r ∧ Within q (T.getD i []) := by
  have e : T.getD i [] ∈ T := by
    rw [List.getD_eq_getElem?_getD, List.getElem?_eq_getElem (by rw [h.m]; exact hi)]
    exact List.getElem_mem _
  exact ⟨h.r _ e, h.q _ e⟩
/-- r of the rows are in steps -/
def Stepped (T : List (List Int)) (m r : Nat) : Prop := ∃ σ : Nat → Nat, (∀ k, k < r → σ k < m) ∧ ∀ k, k < r → 1 ≤ RK.ent T (σ k) k ∧ ∀ l, l < r → k < l → RK.ent T (σ k) l = 0
theorem perm_ix {m : Nat} {ys : List V} (p : ys.Perm (rgV 0 (m : Int))) : ∃ π : Nat → Nat, (∀ k, k < m → ys[k]? = some (V.int (π k)) ∧ π k < m) ∧ ∀ k l, k < m → l < m → π k = π l → k = l := by
  have hl : ys.length = m := by
    rw [p.length_eq, rgV_length]
    omega
  have er : rgV 0 (m : Int) = (List.range m).map fun i => V.int ((i : Nat) : Int) := by
    unfold rgV
    rw [show ((m : Int) - 0).toNat = m by omega]
    exact List.map_congr_left fun i _ => by rw [Int.zero_add]
  rw [er] at p
  have nd : ys.Nodup := by
    refine p.nodup_iff.mpr ?_
    have nr := List.nodup_range (n := m)
    refine (List.pairwise_map.mpr ?_)
    exact nr.imp fun hab e => hab (by have := V.int.inj e; omega)
  have ex : ∀ k, ∃ j : Nat, k < m → ys[k]? = some (V.int j) ∧ j < m := fun k => by
    by_cases hk : k < m
    · have hk' : k < ys.length := by omega
      have q := p.mem_iff.mp (List.getElem_mem hk')
      obtain ⟨j, hj, e⟩ := List.mem_map.mp q
      exact ⟨j, fun _ => ⟨by rw [List.getElem?_eq_getElem hk', ← e], List.mem_range.mp hj⟩⟩
    · exact ⟨0, fun z => absurd z hk⟩
  refine ⟨fun k => Classical.choose (ex k), fun k hk => Classical.choose_spec (ex k) hk, fun k l hk hl' e => ?_⟩
  have a := (Classical.choose_spec (ex k) hk).1
  have b := (Classical.choose_spec (ex l) hl').1
  have e' : Classical.choose (ex k) = Classical.choose (ex l) := e
  rw [← e'] at b
  exact nd_ix nd a b
/-! ### _law_heads -/
def spHeads : Sp := fun vs H Q _ => ∃ (h c : Addr) (m r : Nat) (q : Int), vs = [.ref h, .int m, .int r, .int q] ∧ Hand H h c ∧ m ≤ 1000 ∧ r ≤ m ∧ 1 ≤ q ∧ q ≤ 10000 ∧
  ∀ (t : Addr) (H' : Hp) (T : List (List Int)), SmX h H H' → Hand H' h c → Tab h H' t T → Dims T m r q → Stepped T m r → Q (.ref t) H'
theorem ok_heads (d : DefAt K mg "_law_heads" sHeads) (dS : DefAt K mg "_law_shuffled" sShuf) (dN : DefAt K mg "_law_signed" sSign) (dD : DefAt K mg "_law_draw" sDraw) (T : Bt mg) : FnOk P w K mg base CX0 3 d.f d.fd ["_law_hand_here", "_law_many", "_law_size", "_law_most"] spHeads := by
  have GD : FnOk P w K mg base CX0 1 dD.f dD.fd _ spDraw := ok_draw dD T
  have bD : Binds K dD.fd ["_law_hand_here", "_law_many"] [] := dD.F.binds fun _ _ _ _ _ _ us hl => match us, hl with | [_, _], _ => rfl
  have GS : FnOk P w K mg base CX0 2 dS.f dS.fd _ spShuf := ok_shuf dS dD T
  have bS : Binds K dS.fd ["_law_hand_here", "_law_things"] [] := dS.F.binds fun _ _ _ _ _ _ us hl => match us, hl with | [_, _], _ => rfl
  have GN : FnOk P w K mg base CX0 2 dN.f dN.fd _ spSign := ok_sign dN dD T
  have bN : Binds K dN.fd ["_law_hand_here", "_law_most"] [] := dN.F.binds fun _ _ _ _ _ _ us hl => match us, hl with | [_, _], _ => rfl
  refine d.F.ok scHeads (fun vs H Q E h => ?_) (fun cdv A outer s H vs Q E hr h => ?_)
  · obtain ⟨h, c, m, r, q, rfl, _⟩ := h
    rfl
  · obtain ⟨h, c, m, r, q, rfl, hh, hm, hrm, q1, q2, k⟩ := h
    have hr2 : Room 2 _ := hr
    have hr1 : Room 1 _ := Room.mono hr (by decide)
    refine ⟨_, (pss_cons (ps_set (i := 4) scHeads.nd rfl (Or.inl rfl) (pe_call GS hr2 (by rfl) dS.g dS.F.kp bS .nil pass0 (pa_cons (pv 0) (pa_cons (pe_listRg rfl (by rfl) T.list (prg_1 (by rfl) T.range (pv 1))) pa_nil)))) (pss_cons (ps_setLc (i := 7) (own := [("_law_row", 5)]) (g := gName 5) (tt := tYes) rfl scHeads.nd rfl rfl (sw_true rfl rfl rfl (by decide +kernel)) (pi_range1 (by rfl) T.range (pa_cons (pv 1) pa_nil)) (blkOk_by (N := ["_law_hand_here", "_law_many", "_law_size", "_law_most", "_law_order", "_law_row", "_law_k", "_law_rows", "_law_at"]) (sc := defScope sHeads) (own := [("_law_row", 5)]) (by decide +kernel)) (fun _ _ _ _ _ => pg_name (i := 5) scHeads.nd rfl (Or.inl rfl)) (fun _ _ _ _ _ => pts_nil) (fun _ _ _ _ _ => (pe_lc (own := [("_law_k", 6)]) (g := gName 6) (tt := tYes) rfl scHeads.nd (pi_range1 (by rfl) T.range (pa_cons (pv 2) pa_nil)) (blkOk_by (N := ["_law_hand_here", "_law_many", "_law_size", "_law_most", "_law_order", "_law_row", "_law_k", "_law_rows", "_law_at"]) (sc := relS (lcSc (asgE (stAt (defBody sHeads) 1))) (defScope sHeads)) (own := [("_law_k", 6)]) (by decide +kernel)) (fun _ _ _ _ _ => pg_name (i := 6) scHeads.nd rfl (Or.inl rfl)) (fun _ _ _ _ _ => pts_nil) (fun _ _ _ _ _ => (pe_call GN hr2 (by rfl) dN.g dN.F.kp bN .nil pass0 (pa_cons (pv 0) (pa_cons (pv 3) pa_nil))))))) (pss_cons (ps_for PassesOwn.never rfl (pi_range1 (by rfl) T.range (pa_cons (pv 2) pa_nil)) (pg_name (i := 8) scHeads.nd rfl (Or.inl rfl)) (pss_cons (ps_set (i := 5) scHeads.nd rfl (Or.inl rfl) (pe_ix ix_list (pv 7) (pe_ix ix_list (pv 4) (pv 8) (fun _ _ => rfl)) (fun _ _ => rfl))) (pss_cons (ps_asg (pe_op op_add pe_int (pe_call GD hr1 (by rfl) dD.g dD.F.kp bD .nil pass0 (pa_cons (pv 0) (pa_cons (pv 3) pa_nil)))) (pg_sub (pv 5) (pv 8) set_list)) (pss_one (ps_for PassesOwn.never rfl (pi_range2 (by rfl) T.range (pa_cons (pe_op op_add (pv 8) pe_int) (pa_cons (pv 2) pa_nil))) (pg_name (i := 6) scHeads.nd rfl (Or.inl rfl)) (pss_one (ps_asg pe_int (pg_sub (pv 5) (pv 6) set_list)))))))) (pss_one (ps_ret (pv 7)))))), ?_⟩
    -- _law_order
    refine ⟨_, rfl, _, rfl, _, rfl, RgOk.of_le (Int.le_refl 0) (by omega) (by decide) (by omega), fun g ng => ?_⟩
    refine ⟨h, c, g, rgV 0 (m : Int), rfl, hh.new ng, upd_same, (hh.ne ng).1, by rw [rgV_length]; omega, fun o H1 ys sm1 hh1 no eo pm => ?_⟩
    have s0 : Same H (upd H g (.lst (rgV 0 (m : Int)))) := same_upd ng
    have sm1' : SmX h H H1 := (SmX.of s0).trans sm1
    have no0 : H o = none := s0.free no
    obtain ⟨oh, oc⟩ := hh.ne no0
    obtain ⟨π, hπ, inj⟩ := perm_ix pm
    -- _law_rows
    refine ⟨_, rfl, (m : Int), rfl, by omega, by omega, fun t nt => ?_⟩
    obtain ⟨th, tc⟩ := hh1.ne nt
    have ot : o ≠ t := ne_of_none eo nt
    refine lc_range (lo := 0) (n := m) (fun i H' => SmX h H1 H' ∧ Hand H' h c ∧ ∃ T, Grow H1 H' t T ∧ Dims T i r q) ⟨.of (same_upd nt), hh1.new nt, [], .nil upd_same, .nil⟩ ?_ ?_
    · rintro i H' hi ⟨sm, hh', T, gr, dm⟩
      refine ⟨rfl, _, rfl, (r : Int), rfl, by omega, by omega, fun p np => ?_⟩
      obtain ⟨ph, pc⟩ := hh'.ne np
      have np1 : H1 p = none := sm.free ph np
      refine lc_range (lo := 0) (n := r) (fun j H2 => SmX h H' H2 ∧ Hand H2 h c ∧ ∃ zs : List Int, H2 p = some (.lst (zs.map V.int)) ∧ zs.length = j ∧ Within q zs) ⟨.of (same_upd np), hh'.new np, [], upd_same, rfl, fun _ h => (nomatch h)⟩ ?_ ?_
      · rintro j H2 hj ⟨sm2, hh2, zs, ep, lz, wz⟩
        refine ⟨rfl, _, rfl, _, rfl, h, c, _, rfl, hh2, by omega, by omega, fun z H3 z0 z1 sm3 hh3 => ⟨_, sm3 p _ ph ep, small1000 (by rw [List.length_map]; omega), (sm2.trans sm3).put np, hh3.off ph pc, zs ++ [z], ?_, by rw [List.length_append, lz]; rfl, fun y hy => ?_⟩⟩
        · rw [upd_same, List.map_append]
          rfl
        · rcases List.mem_append.1 hy with y' | e
          · exact wz y y'
          · rw [List.mem_singleton.1 e]
            exact ⟨z0, z1⟩
      · rintro H2 ⟨sm2, hh2, zs, ep, lz, wz⟩
        obtain ⟨acc, ea, la, gr2⟩ := gr.push np1 np (gr.keepX hh1.some th sm2) (fun rs e => sm2 t _ th e) ep
        exact ⟨acc, ea, small1000 (by rw [la, dm.m]; omega), (sm.trans sm2).put nt, hh2.off th tc, _, gr2, dm.push lz wz⟩
    · rintro H2 ⟨sm2, hh2, T0, ⟨rs, et, rows, nd, fr⟩, dm0⟩
      have rsh : ∀ a, a ∈ rs → a ≠ h ∧ a ≠ c := fun a ha => hh1.ne (fr a ha).1
      have rso : ∀ a, a ∈ rs → a ≠ o := fun a ha z => by
        have := (fr a ha).1
        rw [z, eo] at this
        cases this
      -- the steps
      refine ⟨_, rfl, (r : Int), rfl, by omega, by omega, for_range (lo := 0) (n := r) (fun i σ H' => ∃ (v5 v6 v8 : Option V) (T : List (List Int)), σ = [some (.ref h), some (.int m), some (.int r), some (.int q), some (.ref o), v5, v6, some (.ref t), v8] ∧
          SmX h H H' ∧ Hand H' h c ∧ H' o = some (.lst ys) ∧ H' t = some (.lst (rs.map V.ref)) ∧ Rows H' rs T ∧ Dims T m r q ∧ ∀ k, k < i → 1 ≤ RK.ent T (π k) k ∧ ∀ l, l < r → k < l → RK.ent T (π k) l = 0)
        ⟨none, none, none, T0, rfl, sm1'.trans sm2, hh2, sm2 o _ oh eo, et, rows, dm0, fun k hk => absurd hk (Nat.not_lt_zero k)⟩ ?_ ?_⟩
      · rintro i σ H' hi ⟨v5, v6, v8, T, rfl, sm, hh', eo', et', rows', dm, st⟩
        obtain ⟨p1, p2⟩ := hπ i (by omega)
        obtain ⟨a, ra, ea⟩ := rows'.at (i := π i) (by rw [dm.m]; exact p2)
        have ha : a ∈ rs := List.mem_of_getElem? ra
        obtain ⟨ah, ac⟩ := rsh a ha
        have ao := rso a ha
        have at_ := (fr a ha).2
        obtain ⟨len, wi⟩ := dm.get p2
        have zi : (0 : Int) + (i : Int) = (i : Int) := by omega
        refine ⟨_, rfl, _, rfl, _, rfl, o, ys, _, _, rfl, rfl, SqL.of eo', at_of (j := i) zi p1, t, _, _, V.ref a, rfl, rfl, SqL.of et', at_of (j := π i) rfl (by rw [List.getElem?_map, ra]; rfl), ?_⟩
        refine ⟨_, rfl, _, rfl, h, c, _, rfl, hh', by omega, by omega, fun dd H3 d0 d1 sm3 hh3 => ?_⟩
        have ea3 := sm3 a _ ah ea
        refine ⟨_, _, rfl, rfl, _, rfl, _, rfl, a, _, _, i, rfl, rfl, ea3, ixN_of zi (by rw [List.length_map, len]; exact hi), ?_⟩
        rw [show ((T.getD (π i) []).map V.int).set i (V.int (1 + dd)) = ((T.getD (π i) []).set i (1 + dd)).map V.int by rw [List.map_set]]
        generalize hrow : (T.getD (π i) []).set i (1 + dd) = row
        have lrow : row.length = r := by rw [← hrow, List.length_set]; exact len
        have wrow : Within q row := by rw [← hrow]; exact wi.set (by omega) (by omega)
        have drow : 1 ≤ row.getD i 0 := by rw [← hrow, getD_set (by rw [len]; exact hi), if_pos rfl]; omega
        generalize hH4 : upd H3 a (.lst (row.map V.int)) = H4
        have e4 : H4 a = some (.lst (row.map V.int)) := by rw [← hH4]; exact upd_same
        have s4 : SmX a H3 H4 := by rw [← hH4]; exact SmX.own
        refine ⟨_, rfl, _, _, rfl, rfl, _, rfl, (0 : Int) + (i : Int) + 1, (r : Int), rfl, ⟨by omega, by omega, by omega, by omega⟩, for_range (lo := (0 : Int) + (i : Int) + 1) (n := ((r : Int) - ((0 : Int) + (i : Int) + 1)).toNat) (fun j σ H' => ∃ (v6 : Option V) (row : List Int), σ = [some (.ref h), some (.int m), some (.int r), some (.int q), some (.ref o), some (.ref a), v6, some (.ref t), some (.int ((0 : Int) + (i : Int)))] ∧
          SmX a H4 H' ∧ H' a = some (.lst (row.map V.int)) ∧ row.length = r ∧ Within q row ∧ 1 ≤ row.getD i 0 ∧ ∀ l, i < l → l < i + 1 + j → row.getD l 0 = 0) ⟨_, row, rfl, .refl _ _, e4, lrow, wrow, drow, fun l a b => by omega⟩ ?_ ?_⟩
        · rintro j σ H5 hj ⟨v6', row5, rfl, s5, e5, l5, w5, d5, z5⟩
          have hlt : i + 1 + j < r := by omega
          refine ⟨_, rfl, _, rfl, a, _, _, i + 1 + j, rfl, rfl, e5, ixN_of (by omega) (by rw [List.length_map, l5]; exact hlt), ?_⟩
          refine ⟨_, row5.set (i + 1 + j) 0, rfl, s5.trans SmX.own, by rw [upd_same, List.map_set], by rw [List.length_set]; exact l5, w5.set (by omega) (by omega), ?_, fun l a b => ?_⟩
          · rw [getD_set (by rw [l5]; exact hlt), if_neg (by omega)]
            exact d5
          · rw [getD_set (by rw [l5]; exact hlt)]
            by_cases e : l = i + 1 + j
            · rw [if_pos e]
            · rw [if_neg e]
              exact z5 l a (by omega)
        · rintro σ H5 ⟨v6', row5, rfl, s5, e5, l5, w5, d5, z5⟩
          have s35 : SmX a H3 H5 := s4.trans s5
          have sHh : SmX h H H3 := sm.trans sm3
          refine ⟨_, _, _, T.set (π i) row5, rfl, fun b ob hb e => s35 b ob (fun z => ?_) (sHh b ob hb e), ?_, s35 o _ (Ne.symm ao) (sm3 o _ oh eo'), s35 t _ (Ne.symm at_) (sm3 t _ th et'), (rows'.imp fun x hx ox e => sm3 x ox (rsh x hx).1 e).set nd ra s35 e5, dm.set l5 w5, fun k hk => ?_⟩
          · rw [z, sm1'.free ah (fr a ha).1] at e
            cases e
          · obtain ⟨x1, ⟨x2, x3, x4, x5, x6, x7⟩, x8, x9⟩ := hh3
            exact ⟨x1, ⟨x2, x3, x4, x5, x6, s35 h _ (Ne.symm ah) x7⟩, x8, s35 c _ (Ne.symm ac) x9⟩
          · have hTl : π i < T.length := by rw [dm.m]; exact p2
            by_cases e : k = i
            · rw [e]
              refine ⟨by rw [ent_set hTl, if_pos rfl]; exact d5, fun l hl hil => ?_⟩
              rw [ent_set hTl, if_pos rfl]
              exact z5 l hil (by omega)
            · have ne : π k ≠ π i := fun z => e (inj k i (by omega) (by omega) z)
              obtain ⟨y1, y2⟩ := st k (by omega)
              exact ⟨by rw [ent_set hTl, if_neg ne]; exact y1, fun l hl hkl => by rw [ent_set hTl, if_neg ne]; exact y2 l hl hkl⟩
      · rintro σ H' ⟨v5, v6, v8, T, rfl, sm, hh', eo', et', rows', dm, st⟩
        exact ⟨_, rfl, k t H' T sm hh' ⟨rs, et', rows', th, fun a ha => (rsh a ha).1⟩ dm ⟨π, fun k hk => (hπ k (by omega)).2, st⟩⟩
end
end Sa
namespace Sa
open PySem PyProof.Rows L2
section
variable {base : Heap} {mg : Str → Option Value} {w : World} {P : Program} {K : PySem.W.Frag}
def forBody : Stmt → List Stmt
  | .For _ _ b _ _ => b
  | _ => []
def exE : Stmt → Expr
  | .Expr e _ => e
  | .Return (some e) _ => e
  | _ => .Constant .none 0 ⟨0, 0, 0, 0⟩
def arg0 : Expr → Expr
  | .Call _ (e :: _) _ _ => e
  | _ => .Constant .none 0 ⟨0, 0, 0, 0⟩
theorem getV {l : List Int} {k : Nat} (h : k < l.length) : (l.map V.int)[k]? = some (V.int (l.getD k 0)) := by
  rw [List.getElem?_map, List.getD_eq_getElem?_getD, List.getElem?_eq_getElem h]
  rfl
theorem Rows.ref {H : Hp} {rs : List Addr} {T : List (List Int)} {i : Nat} {x : V} (h : Rows H rs T) (e : (rs.map V.ref)[i]? = some x) : ∃ a, x = V.ref a ∧ rs[i]? = some a ∧ i < T.length ∧ H a = some (.lst ((T.getD i []).map V.int)) := by
  have hi : i < T.length := by
    have q := (List.getElem?_eq_some_iff.mp e).1
    rw [List.length_map, h.length] at q
    exact q
  obtain ⟨a, h1, h2⟩ := h.at hi
  rw [List.getElem?_map, h1] at e
  exact ⟨a, (Option.some.inj e).symm, h1, hi, h2⟩
theorem take_map {α β : Type} {f : α → β} {l : List α} {i : Nat} {x : α} (h : l[i]? = some x) : (l.take (i + 1)).map f = (l.take i).map f ++ [f x] := by
  rw [List.take_add_one, h, List.map_append]
  rfl
theorem range_map {β : Type} (f : Nat → β) (i : Nat) : (List.range (i + 1)).map f = (List.range i).map f ++ [f i] := by
  rw [List.range_succ, List.map_append]
  rfl
theorem getD_some {T : List (List Int)} {i : Nat} (h : i < T.length) : T[i]? = some (T.getD i []) := by
  rw [List.getD_eq_getElem?_getD, List.getElem?_eq_getElem h]
  rfl
theorem Within.get {q : Int} {r : List Int} {k : Nat} (h : Within q r) (hk : k < r.length) : -q ≤ r.getD k 0 ∧ r.getD k 0 ≤ q := by
  refine h _ ?_
  rw [List.getD_eq_getElem?_getD, List.getElem?_eq_getElem hk]
  exact List.getElem_mem _
/-! ### _law_product -/
def dot (r : Nat) (l o : List Int) : Int := ((List.range r).map fun k => l.getD k 0 * o.getD k 0).sum
def prodT (r : Nat) (L R : List (List Int)) : List (List Int) := L.map fun l => R.map fun o => dot r l o
def spProd : Sp := fun vs H Q _ => ∃ (a b : Addr) (r m n : Nat) (q : Int) (L R : List (List Int)), vs = [.ref a, .ref b, .int r] ∧ Tab0 H a L ∧ Tab0 H b R ∧ Dims L m r q ∧ Dims R n r q ∧ m ≤ 1000 ∧ n ≤ 1000 ∧ r ≤ 1000 ∧ q ≤ 10000 ∧
  ∀ (t : Addr) (H' : Hp), Same H H' → H t = none → Grow H H' t (prodT r L R) → Q (.ref t) H'
theorem ok_prod (d : DefAt K mg "_law_product" sProd) (T : Bt mg) : FnOk P w K mg base CX0 1 d.f d.fd ["_law_left", "_law_right", "_law_size"] spProd := by
  refine d.F.ok scProd (fun vs H Q E h => ?_) (fun cdv A outer s H vs Q E hr h => ?_)
  · obtain ⟨a, b, r, m, n, q, L, R, rfl, _⟩ := h
    rfl
  · obtain ⟨a, b, r, m, n, q, L, R, rfl, ⟨ra, ea, rowsL⟩, ⟨rb, eb, rowsR⟩, dL, dR, hm, hn, hrr, hq, k⟩ := h
    refine ⟨_, (pss_cons (ps_set (i := 3) scProd.nd rfl (Or.inl rfl) (pe_lst pa_nil)) (pss_cons (ps_for PassesOwn.never rfl (pi_list (pv 0)) (pg_name (i := 4) scProd.nd rfl (Or.inr rfl)) (pss_one (ps_expr (pe_bm PySem.F.plainAttrs_list PySem.F.slot_list_append PySem.F.type_list_append mt_append (pv 3) (pa_cons (pe_lc  (own := [("_law_other", 5)]) (g := gName 5) (tt := tYes) rfl scProd.nd (pi_list (pv 1)) (blkOk_by (N := ["_law_left", "_law_right", "_law_size", "_law_table", "_law_one", "_law_other", "_law_k"]) (sc := defScope sProd) (own := [("_law_other", 5)]) (by decide +kernel)) (fun _ _ _ _ _ => pg_name (i := 5) scProd.nd rfl (Or.inr rfl)) (fun _ _ _ _ _ => pts_nil) (fun _ _ _ _ _ => (pe_callB (id := "sum") (r := rSum K) (cr_sum rfl) (by rfl) T.sum (by decide +kernel) (pa_cons (pe_lc  (own := [("_law_k", 6)]) (g := gName 6) (tt := tYes) rfl scProd.nd (pi_range1 (by rfl) T.range (pa_cons (pv 2) pa_nil)) (blkOk_by (N := ["_law_left", "_law_right", "_law_size", "_law_table", "_law_one", "_law_other", "_law_k"]) (sc := relS (lcSc (arg0 (exE (stAt (forBody (stAt (defBody sProd) 1)) 0)))) (defScope sProd)) (own := [("_law_k", 6)]) (by decide +kernel)) (fun _ _ _ _ _ => pg_name (i := 6) scProd.nd rfl (Or.inl rfl)) (fun _ _ _ _ _ => pts_nil) (fun _ _ _ _ _ => (pe_op op_mul (pe_ix (r := rIxL K) ix_list (pv 4) (pv 6) (fun _ _ => rfl)) (pe_ix (r := rIxL K) ix_list (pv 5) (pv 6) (fun _ _ => rfl))))) pa_nil)))) pa_nil))))) (pss_one (ps_ret (pv 3))))), ?_⟩
    refine ⟨Nat.zero_le _, fun t nt => ?_⟩
    have s0 : Same H (upd H t (.lst [])) := same_upd nt
    refine ⟨_, rfl, a, rfl, ⟨_, SqL.of (s0 _ _ ea)⟩, for_list (K := K) (a := a) (xs := ra.map V.ref) (fun i σ H' => ∃ v4, σ = [some (.ref a), some (.ref b), some (.int r), some (.ref t), v4, none, none] ∧ Same H H' ∧ Grow H H' t ((L.take i).map fun l => R.map fun o => dot r l o))
      ⟨none, rfl, s0, .nil upd_same⟩ (fun i σ H' _ ⟨_, _, sm, _⟩ => SqL.of (sm _ _ ea)) ?_ ?_⟩
    · rintro i x σ H' hx ⟨v4, rfl, sm, gr⟩
      obtain ⟨la, rfl, hla, hi, ela⟩ := (rowsL.same sm).ref hx
      obtain ⟨len, wl⟩ := dL.get (i := i) (by rw [← dL.m]; exact hi)
      generalize hl : L.getD i [] = l at ela len wl
      have hLi : L[i]? = some l := by rw [← hl]; exact getD_some hi
      have et := gr
      obtain ⟨rs, et, _⟩ := et
      refine ⟨_, rfl, .inl ⟨rfl, _, SqL.of et⟩, _, rfl, b, rfl, ⟨_, SqL.of (sm _ _ eb)⟩, fun p np => ?_⟩
      have np0 : H p = none := sm.free np
      refine lc_list (K := K) (a := b) (xs := rb.map V.ref) (fun j H2 => Same H' H2 ∧ H2 p = some (.lst (((R.take j).map fun o => dot r l o).map V.int))) ⟨same_upd np, upd_same⟩ (fun j H2 _ z => SqL.of (z.1 _ _ (sm _ _ eb))) ?_ ?_
      · rintro j y H2 hy ⟨sm2, ep⟩
        obtain ⟨lb, rfl, hlb, hj, elb⟩ := ((rowsR.same sm).same sm2).ref hy
        obtain ⟨len2, wo⟩ := dR.get (i := j) (by rw [← dR.m]; exact hj)
        generalize ho : R.getD j [] = o at elb len2 wo
        have hRj : R[j]? = some o := by rw [← ho]; exact getD_some hj
        refine ⟨rfl, _, rfl, (r : Int), rfl, by omega, by omega, fun g ng => ?_⟩
        refine lc_range (lo := 0) (n := r) (fun k H3 => Same H2 H3 ∧ H3 g = some (.lst (((List.range k).map fun k => l.getD k 0 * o.getD k 0).map V.int))) ⟨same_upd ng, upd_same⟩ ?_ ?_
        · rintro k' H3 hk ⟨sm3, eg⟩
          have ela3 := sm3 _ _ (sm2 _ _ ela)
          have elb3 := sm3 _ _ elb
          obtain ⟨c1, c2⟩ := wl.get (k := k') (by omega)
          refine ⟨rfl, _, rfl, _, rfl, la, _, _, _, rfl, rfl, SqL.of ela3, at_of (j := k') (by omega) (getV (by omega)), _, rfl, _, rfl, lb, _, _, _, rfl, rfl, SqL.of elb3, at_of (j := k') (by omega) (getV (by omega)), _, _, rfl, rfl, .inl ⟨by omega, by omega⟩, _, eg, small1000 (by rw [List.length_map, List.length_map, List.length_range]; omega), same_put sm3 ng, ?_⟩
          rw [upd_same, range_map, List.map_append]
          rfl
        · rintro H3 ⟨sm3, eg⟩
          refine ⟨g, _, rfl, SqL.of eg, _, sm3 _ _ ep, small1000 (by rw [List.length_map, List.length_map, List.length_take, dR.m]; omega), same_put (sm2.trans sm3) np, ?_⟩
          rw [upd_same, take_map hRj, List.map_append]
          rfl
      · rintro H2 ⟨sm2, ep⟩
        rw [List.length_map, rowsR.length, List.take_of_length_le (Nat.le_refl _)] at ep
        obtain ⟨acc, eacc, lacc, gr2⟩ := gr.push np0 np (gr.keepS sm2) (fun rs e => sm2 _ _ e) ep
        refine ⟨t, acc, .ref p, rfl, rfl, eacc, small1000 (by rw [lacc, List.length_map, List.length_take, dL.m]; omega), ?_⟩
        refine ⟨_, rfl, same_put (sm.trans sm2) nt, ?_⟩
        rw [take_map hLi]
        exact gr2
    · rintro σ H' ⟨v4, rfl, sm, gr⟩
      rw [List.length_map, rowsL.length, List.take_of_length_le (Nat.le_refl _)] at gr
      exact ⟨_, rfl, k t H' sm nt gr⟩
/-! ### _law_turned -/
def turnT (n : Nat) (T : List (List Int)) : List (List Int) := (List.range n).map fun k => T.map fun r => r.getD k 0
def spTurn : Sp := fun vs H Q _ => ∃ (a : Addr) (m n : Nat) (q : Int) (T : List (List Int)), vs = [.ref a] ∧ Tab0 H a T ∧ Dims T m n q ∧ 0 < m ∧ m ≤ 1000 ∧ n ≤ 1000 ∧ ∀ (t : Addr) (H' : Hp), Same H H' → H t = none → Grow H H' t (turnT n T) → Q (.ref t) H'
theorem ok_turn (d : DefAt K mg "_law_turned" sTurn) (B : Bt mg) : FnOk P w K mg base CX0 1 d.f d.fd ["_law_table"] spTurn := by
  have T := B
  refine d.F.ok scTurn (fun vs H Q E h => ?_) (fun cdv A outer s H vs Q E hr h => ?_)
  · obtain ⟨a, m, n, q, T, rfl, _⟩ := h
    rfl
  · obtain ⟨a, m, n, q, U, rfl, ⟨ra, ea, rows⟩, dm, m0, m1, n1, k⟩ := h
    refine ⟨_, (pss_one (ps_ret (pe_lc  (own := [("_law_k", 1)]) (g := gName 1) (tt := tYes) rfl scTurn.nd (pi_range1 (by rfl) T.range (pa_cons (pe_callB call_len_seq (by rfl) T.len PySem.boot_len (pa_cons (pe_ix ix_list (pv 0) pe_int (fun _ _ => rfl)) pa_nil)) pa_nil)) (blkOk_by (N := ["_law_table", "_law_k", "_law_row"]) (sc := defScope sTurn) (own := [("_law_k", 1)]) (by decide +kernel)) (fun _ _ _ _ _ => pg_name (i := 1) scTurn.nd rfl (Or.inr rfl)) (fun _ _ _ _ _ => pts_nil) (fun _ _ _ _ _ => (pe_lc (wi := iList K (tVar 0)) (own := [("_law_row", 2)]) (g := gName 2) (tt := tYes) rfl scTurn.nd (pi_list (pv 0)) (blkOk_by (N := ["_law_table", "_law_k", "_law_row"]) (sc := relS (lcSc (exE (stAt (defBody sTurn) 0))) (defScope sTurn)) (own := [("_law_row", 2)]) (by decide +kernel)) (fun _ _ _ _ _ => pg_name (i := 2) scTurn.nd rfl (Or.inl rfl)) (fun _ _ _ _ _ => pts_nil) (fun _ _ _ _ _ => (pe_ix (r := rIxL K) ix_list (pv 2) (pv 1) (fun _ _ => rfl)))))))), ?_⟩
    obtain ⟨a0, h0, e0⟩ := rows.at (i := 0) (by rw [dm.m]; exact m0)
    obtain ⟨l0, _⟩ := dm.get m0
    refine ⟨_, rfl, a, _, 0, V.ref a0, rfl, rfl, SqL.of ea, atI_nat (j := 0) (by rw [List.getElem?_map, h0]; rfl), a0, _, rfl, .inl (SqL.of e0), ((((U.getD 0 []).map V.int).length : Nat) : Int), rfl, by omega, by rw [List.length_map, l0]; omega, fun t nt => ?_⟩
    rw [show ((((U.getD 0 []).map V.int).length : Nat) : Int).toNat = n by rw [List.length_map, l0]; omega]
    refine lc_range (lo := 0) (n := n) (fun i H' => Same H H' ∧ Grow H H' t ((List.range i).map fun k => U.map fun r => r.getD k 0)) ⟨same_upd nt, .nil upd_same⟩ ?_ ?_
    · rintro i H' hi ⟨sm, gr⟩
      refine ⟨rfl, _, rfl, a, rfl, ⟨_, SqL.of (sm _ _ ea)⟩, fun p np => ?_⟩
      have np0 : H p = none := sm.free np
      refine lc_list (K := K) (a := a) (xs := ra.map V.ref) (fun j H2 => Same H' H2 ∧ H2 p = some (.lst (((U.take j).map fun r => r.getD i 0).map V.int))) ⟨same_upd np, upd_same⟩ (fun j H2 _ z => SqL.of (z.1 _ _ (sm _ _ ea))) ?_ ?_
      · rintro j y H2 hy ⟨sm2, ep⟩
        obtain ⟨lb, rfl, hlb, hj, elb⟩ := ((rows.same sm).same sm2).ref hy
        obtain ⟨len2, wo⟩ := dm.get (i := j) (by rw [← dm.m]; exact hj)
        refine ⟨rfl, _, rfl, _, rfl, lb, _, _, _, rfl, rfl, SqL.of elb, at_of (j := i) (by omega) (getV (by omega)), _, ep, small1000 (by rw [List.length_map, List.length_map, List.length_take, dm.m]; omega), same_put sm2 np, ?_⟩
        rw [upd_same, take_map (getD_some hj), List.map_append]
        rfl
      · rintro H2 ⟨sm2, ep⟩
        rw [List.length_map, rows.length, List.take_of_length_le (Nat.le_refl _)] at ep
        obtain ⟨acc, eacc, lacc, gr2⟩ := gr.push np0 np (gr.keepS sm2) (fun rs e => sm2 _ _ e) ep
        refine ⟨acc, eacc, small1000 (by rw [lacc, List.length_map, List.length_range]; omega), same_put (sm.trans sm2) nt, ?_⟩
        rw [range_map]
        exact gr2
    · rintro H' ⟨sm, gr⟩
      exact k t H' sm nt gr
end
end Sa
namespace Sa
open PySem PyProof.Rows L2
section
variable {base : Heap} {mg : Str → Option Value} {w : World} {P : Program} {K : PySem.W.Frag}
/-! ### what leaves the rank -/
theorem ent_turn {T : List (List Int)} {m n k i : Nat} (hm : T.length = m) (hk : k < n) (hi : i < m) : RK.ent (turnT n T) k i = RK.ent T i k := by
  unfold RK.ent turnT
  rw [List.getD_eq_getElem?_getD (l := List.map _ _) (i := k), List.getElem?_map, List.getElem?_eq_getElem (by rw [List.length_range]; exact hk), List.getElem_range]
  show ((T.map fun r => r.getD k 0).getD i 0) = _
  rw [List.getD_eq_getElem?_getD (i := i), List.getElem?_map, List.getD_eq_getElem?_getD (l := T) (i := i), List.getElem?_eq_getElem (by omega)]
  rfl
theorem rk_turn {T : List (List Int)} {m n r : Nat} (hm : T.length = m) (h : RK.Rk (RK.ent T) m n r) : RK.Rk (RK.ent (turnT n T)) n m r :=
  h.turn.congr fun _ hk _ hi => ent_turn hm hk hi
theorem dims_turn {T : List (List Int)} {m n : Nat} {q : Int} (h : Dims T m n q) : Dims (turnT n T) n m q := by
  refine ⟨by unfold turnT; rw [List.length_map, List.length_range], fun x hx => ?_, fun x hx => ?_⟩
  · obtain ⟨k, _, rfl⟩ := List.mem_map.mp hx
    rw [List.length_map]
    exact h.m
  · obtain ⟨k, hk, rfl⟩ := List.mem_map.mp hx
    intro z hz
    obtain ⟨r, hr, rfl⟩ := List.mem_map.mp hz
    exact (h.q r hr).get (by rw [h.r r hr]; exact List.mem_range.mp hk)
theorem mem_ix {T : List (List Int)} {x : List Int} (h : x ∈ T) : ∃ i, i < T.length ∧ T.getD i [] = x := by
  obtain ⟨i, hi, e⟩ := List.getElem_of_mem h
  exact ⟨i, hi, by rw [List.getD_eq_getElem?_getD, List.getElem?_eq_getElem hi, ← e]; rfl⟩
theorem ix_mem {T : List (List Int)} {i : Nat} (h : i < T.length) : T.getD i [] ∈ T := by
  rw [List.getD_eq_getElem?_getD, List.getElem?_eq_getElem h]
  exact List.getElem_mem h
theorem rk_sub {T U : List (List Int)} {n r : Nat} (h : RK.Rk (RK.ent T) T.length n r) (h1 : ∀ x, x ∈ U → ∃ i1 i2 s, i1 < T.length ∧ i2 < T.length ∧ ∀ l, l < n → x.getD l 0 = RK.ent T i1 l + s * RK.ent T i2 l) (h2 : ∀ x, x ∈ T → x ∈ U) : RK.Rk (RK.ent U) U.length n r := by
  refine h.rows (fun i hi => h1 _ (ix_mem hi)) fun i hi => ?_
  obtain ⟨j, hj, e⟩ := mem_ix (h2 _ (ix_mem hi))
  exact ⟨j, hj, fun l _ => by unfold RK.ent; rw [e]⟩
theorem mem_one {T : List (List Int)} {x : List Int} {n : Nat} (h : x ∈ T) : ∃ i1 i2 s, i1 < T.length ∧ i2 < T.length ∧ ∀ l, l < n → x.getD l 0 = RK.ent T i1 l + s * RK.ent T i2 l := by
  obtain ⟨i, hi, e⟩ := mem_ix h
  exact ⟨i, i, 0, hi, hi, fun l _ => by unfold RK.ent; rw [e]; omega⟩
theorem rk_perm {T U : List (List Int)} {m n r : Nat} (p : U.Perm T) (hm : T.length = m) (h : RK.Rk (RK.ent T) m n r) : RK.Rk (RK.ent U) m n r := by
  subst hm
  rw [← p.length_eq]
  rw [← p.length_eq] at h
  exact rk_sub (T := T) (by rw [← p.length_eq]; exact h) (fun x hx => mem_one (p.mem_iff.mp hx)) fun x hx => p.mem_iff.mpr hx
theorem dims_perm {T U : List (List Int)} {m n : Nat} {q : Int} (p : U.Perm T) (h : Dims T m n q) : Dims U m n q := ⟨by rw [p.length_eq]; exact h.m, fun x hx => h.r x (p.mem_iff.mp hx), fun x hx => h.q x (p.mem_iff.mp hx)⟩
/-! ### an arrangement of the rows -/
theorem perm_map_inv {α β : Type} {f : α → β} : ∀ {ys zs : List β}, ys.Perm zs → ∀ l : List α, zs = l.map f → ∃ l' : List α, l'.Perm l ∧ ys = l'.map f := by
  intro ys zs p
  induction p with
  | nil => intro l e; exact ⟨l, .refl _, e⟩
  | cons x _ ih =>
    intro l e
    cases l with
    | nil => cases e
    | cons a l =>
      rw [List.map_cons] at e
      obtain ⟨e1, e2⟩ := List.cons.inj e
      obtain ⟨l', p', e'⟩ := ih l e2
      exact ⟨a :: l', p'.cons a, by rw [List.map_cons, ← e1, ← e']⟩
  | swap x y l0 =>
    intro l e
    match l, e with
    | [], e => cases e
    | [_], e => simp at e
    | a :: b :: l, e =>
      simp only [List.map_cons] at e
      obtain ⟨e1, e2⟩ := List.cons.inj e
      obtain ⟨e3, e4⟩ := List.cons.inj e2
      exact ⟨b :: a :: l, .swap a b l, by simp only [List.map_cons]; rw [← e1, ← e3, ← e4]⟩
  | trans _ _ ih1 ih2 =>
    intro l e
    obtain ⟨l1, p1, e1⟩ := ih2 l e
    obtain ⟨l2, p2, e2⟩ := ih1 l1 e1
    exact ⟨l2, p2.trans p1, e2⟩
theorem rows_zip {H : Hp} : ∀ {rs : List Addr} {T : List (List Int)}, Rows H rs T → ∃ zs : List (Addr × List Int), rs = zs.map (·.1) ∧ T = zs.map (·.2) ∧ ∀ z, z ∈ zs → H z.1 = some (.lst (z.2.map V.int))
  | _, _, .nil => ⟨[], rfl, rfl, fun _ h => (nomatch h)⟩
  | a :: _, r :: _, .cons e t => by
    obtain ⟨zs, h1, h2, h3⟩ := rows_zip t
    exact ⟨(a, r) :: zs, by rw [h1]; rfl, by rw [h2]; rfl, fun z hz => by
      rcases List.mem_cons.mp hz with q | q
      · rw [q]; exact e
      · exact h3 z q⟩
theorem zip_rows {H : Hp} : ∀ (zs : List (Addr × List Int)), (∀ z, z ∈ zs → H z.1 = some (.lst (z.2.map V.int))) → Rows H (zs.map (·.1)) (zs.map (·.2))
  | [], _ => .nil
  | z :: zs, h => .cons (h z List.mem_cons_self) (zip_rows zs fun y hy => h y (List.mem_cons_of_mem _ hy))
theorem perm_rows {H : Hp} {rs : List Addr} {T : List (List Int)} {ys : List V} (h : Rows H rs T) (p : ys.Perm (rs.map V.ref)) : ∃ rs' T', ys = rs'.map V.ref ∧ Rows H rs' T' ∧ T'.Perm T ∧ ∀ a, a ∈ rs' → a ∈ rs := by
  obtain ⟨zs, e1, e2, e3⟩ := rows_zip h
  obtain ⟨zs', pz, ez⟩ := perm_map_inv p (l := zs) (f := fun z => V.ref z.1) (by rw [e1, List.map_map]; rfl)
  refine ⟨zs'.map (·.1), zs'.map (·.2), by rw [ez, List.map_map]; rfl, zip_rows zs' fun z hz => e3 z (pz.mem_iff.mp hz), by rw [e2]; exact pz.map _, fun a ha => ?_⟩
  rw [e1]
  exact (pz.map _).mem_iff.mp ha
theorem Tab.of {h t : Addr} {H H' : Hp} {rs : List Addr} {T : List (List Int)} (k : Rows H rs T) (a : ∀ x, x ∈ rs → x ≠ h) (s : SmX h H H') (e : H' t = some (.lst (rs.map V.ref))) (n : t ≠ h) : Tab h H' t T := ⟨rs, e, k.imp fun x hx o z => s x o (a x hx) z, n, a⟩
/-! ### _law_mixed -/
def spMix : Sp := fun vs H Q _ => ∃ (h c a : Addr) (m n : Nat) (q : Int) (T : List (List Int)), vs = [.ref h, .ref a] ∧ Hand H h c ∧ Tab h H a T ∧ Dims T m n q ∧ 0 < m ∧ 0 < n ∧ m ≤ 1000 ∧ n ≤ 1000 ∧
  ∀ (t : Addr) (H' : Hp) (U : List (List Int)), SmX h H H' → Hand H' h c → Tab h H' t U → Dims U m n q → (∀ r, RK.Rk (RK.ent T) m n r → RK.Rk (RK.ent U) m n r) → Q (.ref t) H'
theorem ok_mix (d : DefAt K mg "_law_mixed" sMix) (dS : DefAt K mg "_law_shuffled" sShuf) (dT : DefAt K mg "_law_turned" sTurn) (dD : DefAt K mg "_law_draw" sDraw) (T : Bt mg) : FnOk P w K mg base CX0 3 d.f d.fd ["_law_hand_here", "_law_table"] spMix := by
  have GS : FnOk P w K mg base CX0 2 dS.f dS.fd _ spShuf := ok_shuf dS dD T
  have bS : Binds K dS.fd ["_law_hand_here", "_law_things"] [] := dS.F.binds fun _ _ _ _ _ _ us hl => match us, hl with | [_, _], _ => rfl
  have GT : FnOk P w K mg base CX0 1 dT.f dT.fd _ spTurn := ok_turn dT T
  have bT : Binds K dT.fd ["_law_table"] [] := dT.F.binds fun _ _ _ _ _ _ us hl => match us, hl with | [_], _ => rfl
  refine d.F.ok scMix (fun vs H Q E h => ?_) (fun cdv A outer s H vs Q E hr h => ?_)
  · obtain ⟨h, c, a, m, n, q, T, rfl, _⟩ := h
    rfl
  · obtain ⟨h, c, a, m, n, q, T, rfl, hh, ⟨rs, ea, rows, ah, rsh⟩, dm, m0, n0, m1, n1, k⟩ := h
    have hr2 : Room 2 _ := hr
    have hr1 : Room 1 _ := Room.mono hr (by decide)
    refine ⟨_, (pss_cons (ps_set (i := 2) scMix.nd rfl (Or.inl rfl) (pe_call GS hr2 (by rfl) dS.g dS.F.kp bS .nil pass0 (pa_cons (pv 0) (pa_cons (pv 1) pa_nil)))) (pss_one (ps_ret (pe_call GT hr1 (by rfl) dT.g dT.F.kp bT .nil pass0 (pa_cons (pe_call GS hr2 (by rfl) dS.g dS.F.kp bS .nil pass0 (pa_cons (pv 0) (pa_cons (pe_call GT hr1 (by rfl) dT.g dT.F.kp bT .nil pass0 (pa_cons (pv 2) pa_nil)) pa_nil))) pa_nil))))), ?_⟩
    refine ⟨_, rfl, _, rfl, h, c, a, _, rfl, hh, ea, ah, by rw [List.length_map, rows.length, dm.m]; exact m1, fun p H1 ys sm1 hh1 np e1 pm => ?_⟩
    obtain ⟨rs1, T1, rfl, rows1, pT, sub⟩ := perm_rows rows pm
    have d1 := dims_perm pT dm
    have ph : p ≠ h := (hh.ne np).1
    have t1 : Tab h H1 p T1 := .of rows1 (fun x hx => rsh x (sub x hx)) sm1 e1 ph
    refine ⟨_, rfl, _, rfl, p, m, n, q, T1, rfl, t1.tab0, d1, m0, m1, n1, fun u H2 sm2 nu gr2 => ?_⟩
    have hh2 := hh1.same sm2
    have uh : u ≠ h := (hh1.ne nu).1
    have d2 := dims_turn d1
    obtain ⟨rs2, e2, rows2, _, rsh2⟩ := gr2.tab hh1.some uh
    refine ⟨h, c, u, _, rfl, hh2, e2, uh, by rw [List.length_map, rows2.length, d2.m]; exact n1, fun v H3 zs sm3 hh3 nv e3 pm3 => ?_⟩
    obtain ⟨rs3, T3, rfl, rows3, pT3, sub3⟩ := perm_rows rows2 pm3
    have d3 := dims_perm pT3 d2
    have vh : v ≠ h := (hh2.ne nv).1
    have t3 : Tab h H3 v T3 := .of rows3 (fun x hx => rsh2 x (sub3 x hx)) sm3 e3 vh
    refine ⟨v, n, m, q, T3, rfl, t3.tab0, d3, n0, n1, m1, fun t H4 sm4 nt gr4 => ?_⟩
    refine k t H4 _ ((sm1.trans (.of sm2)).trans (sm3.trans (.of sm4))) (hh3.same sm4) (gr4.tab hh3.some (hh3.ne nt).1) (dims_turn d3) fun r hk => ?_
    exact rk_turn d3.m (rk_perm pT3 d2.m (rk_turn d1.m (rk_perm pT dm.m hk)))
/-! ### _law_longer -/
theorem cut_lo {xs : List V} {d : Nat} (h : d ≤ xs.length) : cutV xs none (some (d : Int)) = xs.take d := by
  unfold cutV
  rw [HT.sIx_nat, HT.sIx_none, Nat.min_eq_left h]
  rfl
theorem cut_hi {xs : List V} {d : Nat} (h : d ≤ xs.length) : cutV xs (some (d : Int)) none = xs.drop d := by
  unfold cutV
  rw [HT.sIx_nat, HT.sIx_none, Nat.min_eq_left h]
  exact List.take_of_length_le (by rw [List.length_drop]; exact Nat.le_refl _)
theorem within_get {q : Int} {r : List Int} (h : ∀ k, k < r.length → -q ≤ r.getD k 0 ∧ r.getD k 0 ≤ q) : Within q r := fun z hz => by
  obtain ⟨i, hi, e⟩ := List.getElem_of_mem hz
  have q := h i hi
  rw [List.getD_eq_getElem?_getD, List.getElem?_eq_getElem hi, e] at q
  exact q
abbrev ten9 : Int := 1000000000
def spLong : Sp := fun vs H Q _ => ∃ (h c a : Addr) (m n : Nat) (T : List (List Int)), vs = [.ref h, .ref a] ∧ Hand H h c ∧ Tab h H a T ∧ Dims T m n ten9 ∧ 0 < m ∧ 0 < n ∧ m ≤ 1000 ∧ n ≤ 1000 ∧
  ∀ (t : Addr) (H' : Hp) (U : List (List Int)), SmX h H H' → Hand H' h c → Tab h H' t U → Dims U (m + 1) n ten9 → (∀ r, RK.Rk (RK.ent T) m n r → RK.Rk (RK.ent U) (m + 1) n r) → Q (.ref t) H'
theorem ok_long (d : DefAt K mg "_law_longer" sLong) (dD : DefAt K mg "_law_draw" sDraw) (T : Bt mg) : FnOk P w K mg base CX0 2 d.f d.fd ["_law_hand_here", "_law_table"] spLong := by
  have GD : FnOk P w K mg base CX0 1 dD.f dD.fd _ spDraw := ok_draw dD T
  have bD : Binds K dD.fd ["_law_hand_here", "_law_many"] [] := dD.F.binds fun _ _ _ _ _ _ us hl => match us, hl with | [_, _], _ => rfl
  refine d.F.ok scLong (fun vs H Q E h => ?_) (fun cdv A outer s H vs Q E hr h => ?_)
  · obtain ⟨h, c, a, m, n, T, rfl, _⟩ := h
    rfl
  · obtain ⟨h, c, a, m, n, U, rfl, hh, ⟨rs, ea, rows, ah, rsh⟩, dm, m0, n0, m1, n1, k⟩ := h
    have hr1 : Room 1 _ := hr
    refine ⟨_, (pss_cons (ps_set (i := 2) scLong.nd rfl (Or.inr rfl) (pe_ix ix_list (pv 1) (pe_call GD hr1 (by rfl) dD.g dD.F.kp bD .nil pass0 (pa_cons (pv 0) (pa_cons (pe_callB call_len_seq (by rfl) T.len PySem.boot_len (pa_cons (pv 1) pa_nil)) pa_nil))) (fun _ _ => rfl))) (pss_cons (ps_set (i := 3) scLong.nd rfl (Or.inr rfl) (pe_ix ix_list (pv 1) (pe_call GD hr1 (by rfl) dD.g dD.F.kp bD .nil pass0 (pa_cons (pv 0) (pa_cons (pe_callB call_len_seq (by rfl) T.len PySem.boot_len (pa_cons (pv 1) pa_nil)) pa_nil))) (fun _ _ => rfl))) (pss_cons (ps_set (i := 4) scLong.nd rfl (Or.inr rfl) (pe_op op_sub pe_int (pe_op op_mul pe_int (pe_call GD hr1 (by rfl) dD.g dD.F.kp bD .nil pass0 (pa_cons (pv 0) (pa_cons pe_int pa_nil)))))) (pss_cons (ps_setLc (i := 5) (own := [("_law_k", 7)]) (g := gName 7) (tt := tYes) rfl scLong.nd rfl rfl (sw_true rfl rfl rfl (by decide +kernel)) (pi_range1 (by rfl) T.range (pa_cons (pe_callB call_len_seq (by rfl) T.len PySem.boot_len (pa_cons (pv 2) pa_nil)) pa_nil)) (blkOk_by (N := ["_law_hand_here", "_law_table", "_law_one", "_law_other", "_law_sign", "_law_row", "_law_at", "_law_k", "_law_number"]) (sc := defScope sLong) (own := [("_law_k", 7)]) (by decide +kernel)) (fun _ _ _ _ _ => pg_name (i := 7) scLong.nd rfl (Or.inl rfl)) (fun _ _ _ _ _ => pts_nil) (fun _ _ _ _ _ => (pe_op op_add (pe_ix (r := rIxL K) ix_list (pv 2) (pv 7) (fun _ _ => rfl)) (pe_op op_mul (pv 4) (pe_ix (r := rIxL K) ix_list (pv 3) (pv 7) (fun _ _ => rfl)))))) (C8.pss_cut (ps_if (pt_cmpR op_gt (pe_callB (id := "max") (cr_max rfl) (by rfl) T.max (by decide +kernel) (pa_cons (pe_lc  (own := [("_law_number", 8)]) (g := gName 8) (tt := tYes) rfl scLong.nd (pi_list (pv 5)) (blkOk_by (N := ["_law_hand_here", "_law_table", "_law_one", "_law_other", "_law_sign", "_law_row", "_law_at", "_law_k", "_law_number"]) (sc := defScope sLong) (own := [("_law_number", 8)]) (by decide +kernel)) (fun _ _ _ _ _ => pg_name (i := 8) scLong.nd rfl (Or.inl rfl)) (fun _ _ _ _ _ => pts_nil) (fun _ _ _ _ _ => (pe_callB call_abs (by rfl) T.abs (by decide +kernel) (pa_cons (pv 8) pa_nil)))) pa_nil)) (pe_op op_pow pe_int pe_int) (nomark _)) (pss_one (ps_set (i := 5) scLong.nd rfl (Or.inl rfl) (pe_callTy call_list_of (by rfl) T.list (by decide +kernel) (pa_cons (pv 2) pa_nil)))) pss_nil) (pss_cons (ps_set (i := 6) scLong.nd rfl (Or.inl rfl) (pe_call GD hr1 (by rfl) dD.g dD.F.kp bD .nil pass0 (pa_cons (pv 0) (pa_cons (pe_op op_add (pe_callB call_len_seq (by rfl) T.len PySem.boot_len (pa_cons (pv 1) pa_nil)) pe_int) pa_nil)))) (pss_one (ps_ret (pe_op op_cat (pe_op op_cat (pe_slice sl_list (pv 1) po_none (po_some (pv 6))) (pe_lst (pa_cons (pv 5) pa_nil))) (pe_slice sl_list (pv 1) (po_some (pv 6)) po_none)))))))))), ?_⟩
    have lrs : (rs.map V.ref).length = m := by rw [List.length_map, rows.length, dm.m]
    -- the two rows
    refine ⟨_, rfl, _, rfl, _, rfl, a, _, rfl, .inl (SqL.of ea), h, c, _, rfl, hh, by omega, by omega, fun d1 H1 d10 d11 sm1 hh1 => ?_⟩
    rw [lrs] at d11
    obtain ⟨a1, ra1, e1⟩ := rows.at (i := d1.toNat) (by rw [dm.m]; omega)
    refine ⟨a, _, d1, V.ref a1, rfl, rfl, SqL.of (sm1 _ _ ah ea), at_of (j := d1.toNat) (by omega) (by rw [List.getElem?_map, ra1]; rfl), ?_⟩
    refine ⟨_, rfl, _, rfl, _, rfl, a, _, rfl, .inl (SqL.of (sm1 _ _ ah ea)), h, c, _, rfl, hh1, by omega, by omega, fun d2 H2 d20 d21 sm2 hh2 => ?_⟩
    rw [lrs] at d21
    obtain ⟨a2, ra2, e2⟩ := rows.at (i := d2.toNat) (by rw [dm.m]; omega)
    have s2 := sm1.trans sm2
    refine ⟨a, _, d2, V.ref a2, rfl, rfl, SqL.of (s2 _ _ ah ea), at_of (j := d2.toNat) (by omega) (by rw [List.getElem?_map, ra2]; rfl), ?_⟩
    have ah1 := rsh a1 (List.mem_of_getElem? ra1)
    have ah2 := rsh a2 (List.mem_of_getElem? ra2)
    obtain ⟨l1, w1⟩ := dm.get (i := d1.toNat) (by omega)
    obtain ⟨l2, w2⟩ := dm.get (i := d2.toNat) (by omega)
    -- the sign
    refine ⟨_, rfl, h, c, _, rfl, hh2, by decide, by decide, fun b H3 b0 b1 sm3 hh3 => ⟨_, _, rfl, rfl, .inl ⟨by decide, by decide⟩, _, _, rfl, rfl, ?_⟩⟩
    have s3 := s2.trans sm3
    have e13 := s3 _ _ ah1 e1
    have e23 := s3 _ _ ah2 e2
    -- the row
    refine ⟨_, rfl, a1, _, rfl, .inl (SqL.of e13), ((((U.getD d1.toNat []).map V.int).length : Nat) : Int), rfl, by omega, by rw [List.length_map, l1]; omega, fun p np => ?_⟩
    rw [show ((((U.getD d1.toNat []).map V.int).length : Nat) : Int).toNat = n by rw [List.length_map, l1]; omega]
    obtain ⟨ph, pc⟩ := hh3.ne np
    refine lc_range (lo := 0) (n := n) (fun k' H4 => Same H3 H4 ∧ H4 p = some (.lst (((List.range k').map fun l => RK.ent U d1.toNat l + (1 - 2 * b) * RK.ent U d2.toNat l).map V.int))) ⟨same_upd np, upd_same⟩ ?_ ?_
    · rintro k' H4 hk ⟨sm4, ep⟩
      refine ⟨rfl, _, rfl, _, rfl, a1, _, _, _, rfl, rfl, SqL.of (sm4 _ _ e13), at_of (j := k') (by omega) (getV (by omega)), _, rfl, _, rfl, _, rfl, a2, _, _, _, rfl, rfl, SqL.of (sm4 _ _ e23), at_of (j := k') (by omega) (getV (by omega)), _, _, rfl, rfl, .inl ⟨by omega, by omega⟩, _, _, rfl, rfl, _, ep, small1000 (by rw [List.length_map, List.length_map, List.length_range]; omega), same_put sm4 np, ?_⟩
      rw [upd_same, range_map, List.map_append]
      rfl
    rintro H4 ⟨sm4, ep⟩
    have hh4 := hh3.same sm4
    have s4 := s3.trans (.of sm4)
    generalize hx : ((List.range n).map fun l => RK.ent U d1.toNat l + (1 - 2 * b) * RK.ent U d2.toNat l) = x at ep
    have lx : x.length = n := by rw [← hx, List.length_map, List.length_range]
    have gx : ∀ l, l < n → x.getD l 0 = RK.ent U d1.toNat l + (1 - 2 * b) * RK.ent U d2.toNat l := fun l hl => by
      rw [← hx, List.getD_eq_getElem?_getD (i := l), List.getElem?_map, List.getElem?_eq_getElem (by rw [List.length_range]; exact hl), List.getElem_range]
      rfl
    -- too great: one of the two
    refine ⟨fun σ H5 => ∃ (p5 : Addr) (y : List Int) (s : Int), σ = [some (.ref h), some (.ref a), some (.ref a1), some (.ref a2), some (.int (1 - 2 * b)), some (.ref p5), none, none, none] ∧ SmX h H H5 ∧ Hand H5 h c ∧ p5 ≠ h ∧ H5 p5 = some (.lst (y.map V.int)) ∧ y.length = n ∧ Within ten9 y ∧ ∀ l, l < n → y.getD l 0 = RK.ent U d1.toNat l + s * RK.ent U d2.toNat l, ?_, ?_⟩
    · refine ⟨_, rfl, p, rfl, ⟨_, SqL.of ep⟩, fun g ng => ?_⟩
      refine lc_list (K := K) (a := p) (xs := x.map V.int) (fun i H5 => Same H4 H5 ∧ H5 g = some (.lst (((x.take i).map fun z => if z < 0 then -z else z).map V.int))) ⟨same_upd ng, upd_same⟩ (fun i H5 _ z => SqL.of (z.1 _ _ ep)) ?_ ?_
      · rintro i y H5 hy ⟨sm5, eg⟩
        have hi : i < x.length := by
          have q := (List.getElem?_eq_some_iff.mp hy).1
          rw [List.length_map] at q
          exact q
        have ey : y = V.int x[i] := by
          rw [List.getElem?_map, List.getElem?_eq_getElem hi] at hy
          exact (Option.some.inj hy).symm
        subst ey
        refine ⟨rfl, _, rfl, _, rfl, _, eg, small1000 (by rw [List.length_map, List.length_map, List.length_take]; omega), same_put sm5 ng, ?_⟩
        rw [upd_same, take_map (List.getElem?_eq_getElem hi), List.map_append]
        rfl
      · rintro H5 ⟨sm5, eg⟩
        rw [List.length_map, List.take_of_length_le (Nat.le_refl _)] at eg
        refine ⟨g, _, rfl, SqL.of eg, by rw [List.length_map]; omega, fun mx hmx hle => ?_⟩
        have hh5 := hh4.same sm5
        refine ⟨_, _, rfl, rfl, ⟨by decide, by decide, by decide⟩, _, _, rfl, rfl, _, rfl, ite2 (fun _ => ?_) (fun hno => ?_)⟩
        · refine ⟨_, rfl, a1, _, rfl, .inl (SqL.of (sm5 _ _ (sm4 _ _ e13))), fun p5 n5 => ?_⟩
          have q5 := hh5.ne n5
          exact ⟨p5, _, 0, rfl, (s4.trans (.of sm5)).trans (.of (same_upd n5)), hh5.new n5, q5.1, upd_same, l1, w1, fun l hl => by unfold RK.ent; omega⟩
        · have hmx9 : mx ≤ ten9 := by
            have q : ¬ ((10 : Int) ^ (9 : Int).toNat < mx) := fun z => hno (decide_eq_true z)
            have e9 : (10 : Int) ^ (9 : Int).toNat = ten9 := by decide
            omega
          refine ⟨p, x, 1 - 2 * b, rfl, s4.trans (.of sm5), hh5, ph, sm5 _ _ ep, lx, fun z hz => ?_, gx⟩
          have q := hle _ (List.mem_map.mpr ⟨z, hz, rfl⟩)
          by_cases z0 : z < 0
          · rw [if_pos z0] at q
            constructor <;> omega
          · rw [if_neg z0] at q
            constructor <;> omega
    · rintro σ H5 ⟨p5, y, sy, rfl, s5, hh5, p5h, ep5, ly, wy, gy⟩
      have ea5 := s5 _ _ ah ea
      refine ⟨_, rfl, _, rfl, a, _, rfl, .inl (SqL.of ea5), _, _, rfl, rfl, h, c, _, rfl, hh5, by omega, by omega, fun d6 H6 d60 d61 sm6 hh6 => ?_⟩
      rw [lrs] at d61
      have ea6 := sm6 _ _ ah ea5
      have ep6 := sm6 _ _ p5h ep5
      have s6 := s5.trans sm6
      obtain ⟨j, rfl⟩ : ∃ j : Nat, d6 = (j : Int) := ⟨d6.toNat, by omega⟩
      have hj : j ≤ (rs.map V.ref).length := by rw [lrs]; omega
      refine ⟨_, rfl, _, rfl, _, rfl, a, _, rfl, SqL.of ea6, fun u1 n1' => ?_⟩
      rw [cut_lo hj]
      have s61 : Same H6 (upd H6 u1 (.lst ((rs.map V.ref).take j))) := same_upd n1'
      refine ⟨_, rfl, (by show 1 ≤ sizeLine; decide), fun u2 n2' => ?_⟩
      have u12 : u1 ≠ u2 := ne_of_none upd_same n2'
      generalize hH7 : upd (upd H6 u1 (.lst ((rs.map V.ref).take j))) u2 (.lst [V.ref p5]) = H7
      have f1 : H7 u1 = some (.lst ((rs.map V.ref).take j)) := by rw [← hH7, upd_ne u12]; exact upd_same
      have f2 : H7 u2 = some (.lst [V.ref p5]) := by rw [← hH7]; exact upd_same
      have s67 : Same H6 H7 := by rw [← hH7]; exact s61.trans (same_upd n2')
      refine ⟨u1, u2, _, _, rfl, rfl, f1, f2, by rw [List.length_take, sizeLine_eq]; show min j (rs.map V.ref).length + 1 ≤ _; omega, fun u3 n3' => ?_⟩
      have f3 : Same H7 (upd H7 u3 (.lst ((rs.map V.ref).take j ++ [V.ref p5]))) := same_upd n3'
      refine ⟨_, rfl, _, rfl, _, rfl, a, _, rfl, SqL.of (f3 _ _ (s67 _ _ ea6)), fun u4 n4' => ?_⟩
      rw [cut_hi hj]
      have u34 : u3 ≠ u4 := ne_of_none upd_same n4'
      refine ⟨u3, u4, _, _, rfl, rfl, (by rw [upd_ne u34]; exact upd_same), upd_same, by rw [List.length_append, List.length_take, List.length_drop, sizeLine_eq]; show min j (rs.map V.ref).length + 1 + _ ≤ _; omega, fun t nt => ?_⟩
      have s8 := (s67.trans f3).trans (same_upd (o := .lst ((rs.map V.ref).drop j)) n4')
      have st := s8.trans (same_upd (o := .lst ((rs.map V.ref).take j ++ [V.ref p5] ++ (rs.map V.ref).drop j)) nt)
      have lU := dm.m
      have RR : Rows H (rs.take j) (U.take j) := rows.take j
      have RD : Rows H (rs.drop j) (U.drop j) := rows.drop j
      have sH := s6.trans (.of st)
      refine k t _ (U.take j ++ [y] ++ U.drop j) sH (hh6.same st) ⟨rs.take j ++ [p5] ++ rs.drop j, ?_, ?_, ?_, ?_⟩ ?_ ?_
      · rw [upd_same]
        simp only [List.map_append, List.map_take, List.map_drop, List.map_cons, List.map_nil]
      · refine ((RR.imp fun z hz o e => sH z o (rsh z (List.mem_of_mem_take hz)) e).append (.cons (st _ _ ep6) .nil)).append (RD.imp fun z hz o e => sH z o (rsh z (List.mem_of_mem_drop hz)) e)
      · exact (hh6.ne (s8.free nt)).1
      · intro z hz
        rcases List.mem_append.1 hz with hz | hz
        · rcases List.mem_append.1 hz with hz | hz
          · exact rsh z (List.mem_of_mem_take hz)
          · rw [List.mem_singleton.1 hz]; exact p5h
        · exact rsh z (List.mem_of_mem_drop hz)
      · have mem : ∀ z, z ∈ U.take j ++ [y] ++ U.drop j → z ∈ U ∨ z = y := fun z hz => by
          rcases List.mem_append.1 hz with hz | hz
          · rcases List.mem_append.1 hz with hz | hz
            · exact .inl (List.mem_of_mem_take hz)
            · exact .inr (List.mem_singleton.mp hz)
          · exact .inl (List.mem_of_mem_drop hz)
        refine Dims.mk ?_ (fun z hz => ?_) fun z hz => ?_
        · rw [List.length_append, List.length_append, List.length_take, List.length_drop, lU]
          show min j m + 1 + (m - j) = m + 1
          rw [lrs] at hj
          omega
        · rcases mem z hz with q | q
          · exact dm.r z q
          · rw [q]; exact ly
        · rcases mem z hz with q | q
          · exact dm.q z q
          · rw [q]; exact wy
      · intro r hr'
        have lenU : (U.take j ++ [y] ++ U.drop j).length = m + 1 := by
          rw [List.length_append, List.length_append, List.length_take, List.length_drop, lU]
          show min j m + 1 + (m - j) = m + 1
          rw [lrs] at hj
          omega
        rw [← lenU]
        rw [← lU] at hr'
        refine rk_sub hr' (fun z hz => ?_) fun z hz => ?_
        · rcases List.mem_append.1 hz with hz | hz
          · rcases List.mem_append.1 hz with hz | hz
            · exact mem_one (List.mem_of_mem_take hz)
            · rw [List.mem_singleton.1 hz]
              exact ⟨d1.toNat, d2.toNat, sy, by omega, by omega, gy⟩
          · exact mem_one (List.mem_of_mem_drop hz)
        · rw [← List.take_append_drop j U] at hz
          rcases List.mem_append.1 hz with hz | hz
          · exact List.mem_append_left _ (List.mem_append_left _ hz)
          · exact List.mem_append_right _ hz
end
end Sa
/-! ### a zip object that a name holds -/
namespace Sa
open PySem PyProof.Rows L2
/-- a thing that is known to its object, written by nobody -/
def ZO (o : Obj) (a : Addr) : HO := .ext fun h => h.get? a = some o
theorem zo_ok {P : Program} {w : World} {H : Hp} {h : Heap} {a : Addr} {o : Obj} (e : h.get? a = some o) : ObjOk P w H h a (ZO o a) := ⟨e, ⟨_, e⟩, fun _ _ q k => k _ q⟩
/-- things laid at once -/
def updL (H : Hp) : List (Addr × Obj) → Hp
  | [] => H
  | p :: r => upd (updL H r) p.1 (ZO p.2 p.1)
theorem updL_out {H : Hp} {b : Addr} : ∀ {l : List (Addr × Obj)}, (∀ p, p ∈ l → p.1 ≠ b) → updL H l b = H b
  | [], _ => rfl
  | p :: r, h => by
    show upd (updL H r) p.1 (ZO p.2 p.1) b = H b
    rw [upd_ne (Ne.symm (h p List.mem_cons_self))]
    exact updL_out fun q hq => h q (List.mem_cons_of_mem _ hq)
theorem updL_in {H : Hp} {b : Addr} {u : HO} : ∀ {l : List (Addr × Obj)}, updL H l b = some u → (∃ p, p ∈ l ∧ p.1 = b ∧ u = ZO p.2 p.1) ∨ H b = some u
  | [], h => .inr h
  | p :: r, h => by
    by_cases e : b = p.1
    · have h' : upd (updL H r) p.1 (ZO p.2 p.1) b = some u := h
      rw [e, upd_same] at h'
      exact .inl ⟨p, List.mem_cons_self, e.symm, (Option.some.inj h').symm⟩
    · have h' : upd (updL H r) p.1 (ZO p.2 p.1) b = some u := h
      rw [upd_ne e] at h'
      rcases updL_in h' with ⟨q, a, b', c⟩ | z
      · exact .inl ⟨q, List.mem_cons_of_mem _ a, b', c⟩
      · exact .inr z
theorem updL_mem {H : Hp} {p : Addr × Obj} {l : List (Addr × Obj)} (h : p ∈ l) : ∃ o, updL H l p.1 = some (ZO o p.1) ∧ (p.1, o) ∈ l := by
  induction l with
  | nil => cases h
  | cons q r ih =>
    by_cases e : p.1 = q.1
    · refine ⟨q.2, ?_, ?_⟩
      · show upd (updL H r) q.1 (ZO q.2 q.1) p.1 = _
        rw [e]
        exact upd_same
      · rw [e]
        exact List.mem_cons_self
    · have h' : p ∈ r := by
        rcases List.mem_cons.mp h with z | h
        · exact absurd (by rw [z]) e
        · exact h
      obtain ⟨o, h1, h2⟩ := ih h'
      refine ⟨o, ?_, List.mem_cons_of_mem _ h2⟩
      show upd (updL H r) q.1 (ZO q.2 q.1) p.1 = _
      rw [upd_ne e]
      exact h1
section
variable {X : Cx} {pins : List (Addr × Obj)} {σ : L2.St} {H : Hp} {s : Shared} {h' : Heap}
theorem laidL {l : List (Addr × Obj)} {t' : Nat} (I : Inv X pins σ H s) (k : ∀ b u, s.heap.get? b = some u → h'.get? b = some u) (hl : ∀ p, p ∈ l → s.heap.objs.size ≤ p.1 ∧ h'.get? p.1 = some p.2) : Inv X pins σ (updL H l) { s with heap := h', toks := t' } := by
  have old : ∀ b, b < s.heap.objs.size → updL H l b = H b := fun b hb => updL_out fun p hp z => by
    have q := (hl p hp).1
    rw [z] at q
    exact absurd (Nat.lt_of_lt_of_le hb q) (Nat.lt_irrefl _)
  have tr : ∀ b u, H b = some u → updL H l b = some u := fun b u e => by rw [old b (I.hok.lt e)]; exact e
  refine I.un (t' := t') ⟨fun b o e _ _ _ => k b o e, fun b o e _ _ _ => ⟨o.slots, k b o e⟩, fun b o e n _ => by rw [old b (Heap.lt_size e)]; exact n, fun b o e _ => ⟨o, k b o e⟩, fun b xs e => tr b _ e, fun b o u e => tr b _ e, fun b ps e => ⟨#[], by rw [tr b _ e]; simp⟩⟩ fun b u e => ?_
  rcases updL_in e with ⟨p, hp, rfl, rfl⟩ | z
  · exact zo_ok (hl p hp).2
  · exact (I.hok b u z).stay (fun c v _ q => k c v q) (fun c q => tr c _ q) fun c xs q => tr c _ q
def dropL (H : Hp) (l : List Addr) : Hp := fun b => if b ∈ l then none else H b
theorem dropL_out {l : List Addr} {b : Addr} (h : b ∉ l) : dropL H l b = H b := if_neg h
theorem dropL_in {l : List Addr} {b : Addr} (h : b ∈ l) : dropL H l b = none := if_pos h
theorem droppedL {l : List Addr} (I : Inv X pins σ H s) (hl : ∀ a, a ∈ l → ∃ o, H a = some (ZO o a)) : Inv X pins σ (dropL H l) s := by
  have other : ∀ b u, H b = some u → (∀ ψ, u ≠ .ext ψ) → dropL H l b = some u := fun b u e n => by
    have hb : b ∉ l := fun z => by
      obtain ⟨o, q⟩ := hl b z
      rw [e] at q
      exact n _ (Option.some.inj q)
    rw [dropL_out hb]
    exact e
  have non : ∀ b, H b = none → dropL H l b = none := fun b e => by
    unfold dropL
    split
    · rfl
    · exact e
  have hok : HOk X.prog X.w (dropL H l) s.heap := fun b u e => by
    have e' : H b = some u := by
      unfold dropL at e
      split at e
      · cases e
      · exact e
    exact (I.hok b u e').stay (fun _ _ _ z => z) (fun c z => other c _ z fun _ w => (nomatch w)) fun c xs z => other c _ z fun _ w => (nomatch w)
  exact I.un (t' := s.toks) ⟨fun _ _ e _ _ _ => e, fun _ o e _ _ _ => ⟨o.slots, e⟩, fun b _ _ z _ => non b z, fun _ o e _ => ⟨o, e⟩, fun b xs z => other b _ z fun _ w => (nomatch w),
    fun b o x z => other b _ z fun _ w => (nomatch w), fun b ps z => ⟨#[], by rw [other b _ z fun _ w => (nomatch w)]; simp⟩⟩ hok
end
/-- what the five objects of a zip of two lists say -/
def ZipSt (z TI TO i1 i2 a b : Addr) (h : Heap) : Prop := IsZip h z TI TO .none ∧ IsPair h TI (.ref i1) (.ref i2) ∧ (∃ x y, IsPair h TO x y) ∧ h.IsListIter i1 a 0 ∧ h.IsListIter i2 b 0
/-- at z a zip of the lists at a and b, not begun; H0: the heap ahead of it -/
def ZipAt (n : Nat) (H0 H : Hp) (z a b : Addr) : Prop := ∃ TI TO i1 i2 : Addr, ZipApart z TI TO i1 i2 a b ∧ (∀ c, c ∈ [z, TI, TO, i1, i2] → n ≤ c ∧ H0 c = none ∧ ∃ o, H c = some (ZO o c)) ∧
  ∀ h : Heap, (∀ c, c ∈ [z, TI, TO, i1, i2] → ∀ o, H c = some (ZO o c) → h.get? c = some o) → ZipSt z TI TO i1 i2 a b h
def rZipV (K : PySem.W.Frag) (n : Nat) : List V → Hp → VK → Prop := fun vs H Q => ∃ (a b : Addr) (xs ys : List V), vs = [.ref a, .ref b] ∧ SqL K H a xs ∧ SqL K H b ys ∧ ∀ (z : Addr) (H' : Hp), Same H H' → ZipAt n H H' z a b → Q (.ref z) H'
theorem call_zipV {X : Cx} : CallR X (.type "zip") (rZipV X.K X.s_0.heap.objs.size) := by
  intro pins s τ H vs us Q I r ⟨a, b, xs, ys, evs, hqx, hqy, q⟩
  subst evs
  cases r with
  | cons r rr =>
    cases rr with
    | cons r' rr =>
      cases rr
      cases r
      cases r'
      obtain ⟨its, rv, p1, _⟩ := I.list hqx
      obtain ⟨_, _, p2, _⟩ := I.list hqy
      refine call_zip_2 p1.isList p2.isList fun h' hz hTI hTO h1 h2 hsz hk => ?_
      have st : ZipSt (s.heap.objs.size + 4) (s.heap.objs.size + 2) (s.heap.objs.size + 3) s.heap.objs.size (s.heap.objs.size + 1) a b h' := ⟨hz, hTI, ⟨_, _, hTO⟩, h1, h2⟩
      have turn := turn_zip (P := X.prog) (w := X.w) (K := X.K) (elts := []) (kk := 0) (tpos := ⟨0, 0, 0, 0⟩) (PySem.W.ktu_apart s.heap.objs.size a b p1.lt p2.lt)
      have ob := turn.obj 0 h' st
      have mem : ∀ c, c ∈ [s.heap.objs.size + 4, s.heap.objs.size + 2, s.heap.objs.size + 3, s.heap.objs.size, s.heap.objs.size + 1] → s.heap.objs.size ≤ c := fun c hc => by
        have e' : c = s.heap.objs.size + 4 ∨ c = s.heap.objs.size + 2 ∨ c = s.heap.objs.size + 3 ∨ c = s.heap.objs.size ∨ c = s.heap.objs.size + 1 := by simpa using hc
        omega
      generalize hl : [s.heap.objs.size + 4, s.heap.objs.size + 2, s.heap.objs.size + 3, s.heap.objs.size, s.heap.objs.size + 1] = cs at mem ob
      have ex : ∀ c, ∃ o, c ∈ cs → h'.get? c = some o := fun c => by
        by_cases hc : c ∈ cs
        · obtain ⟨o, e, _⟩ := ob c hc
          exact ⟨o, fun _ => e⟩
        · exact ⟨default, fun z => absurd z hc⟩
      obtain ⟨f, hf⟩ : ∃ f : Addr → Obj, ∀ c, c ∈ cs → h'.get? c = some (f c) := ⟨fun c => Classical.choose (ex c), fun c hc => Classical.choose_spec (ex c) hc⟩
      have hfl : ∀ p, p ∈ cs.map (fun c => (c, f c)) → s.heap.objs.size ≤ p.1 ∧ h'.get? p.1 = some p.2 := fun p hp => by
        obtain ⟨c, hc, rfl⟩ := List.mem_map.mp hp
        exact ⟨mem c hc, hf c hc⟩
      have I2 : Inv X pins τ (updL H (cs.map fun c => (c, f c))) { s with heap := h' } := laidL (t' := s.toks) I hk hfl
      refine ⟨.ref (s.heap.objs.size + 4), _, I2, rfl, q _ _ (fun b o e => ?_) ⟨s.heap.objs.size + 2, s.heap.objs.size + 3, s.heap.objs.size, s.heap.objs.size + 1, PySem.W.ktu_apart s.heap.objs.size a b p1.lt p2.lt, ?_, fun h hh => ?_⟩⟩
      · rw [updL_out fun p hp z => ?_]
        · exact e
        · have lt := I.hok.lt e
          have ge := (hfl p hp).1
          rw [z] at ge
          exact absurd (Nat.lt_of_lt_of_le lt ge) (Nat.lt_irrefl _)
      · rw [hl]
        intro c hc
        refine ⟨Nat.le_trans I.sz (mem c hc), I.hok.fresh (mem c hc), ?_⟩
        obtain ⟨o, e, _⟩ := updL_mem (H := H) (l := cs.map fun c => (c, f c)) (p := (c, f c)) (List.mem_map.mpr ⟨c, hc, rfl⟩)
        exact ⟨o, e⟩
      · rw [hl] at hh
        refine turn.keep 0 h' h st fun c hc o e => ?_
        rw [hl] at hc
        obtain ⟨o', e', m⟩ := updL_mem (H := H) (l := cs.map fun c => (c, f c)) (p := (c, f c)) (List.mem_map.mpr ⟨c, hc, rfl⟩)
        have e2 := hh c hc o' e'
        have e3 := (hfl _ m).2
        rw [e] at e3
        rw [e2]
        exact e3.symm
/-- a name that holds a zip, walked; behind it the zip is forgotten -/
def iZipv (K : PySem.W.Frag) (n k : Nat) : TI := fun σ H R => ∃ (z a b : Addr) (H0 : Hp), σ[k]? = some (some (.ref z)) ∧ Same H0 H ∧ ZipAt n H0 H z a b ∧ ∀ H', Same H0 H' → R (Itz K a b) H'
theorem pi_zipv {X : Cx} {elts : List Expr} {kk k : Nat} {tpos p : Pos} {x : Str} (hN : X.N[k]? = some x) (hv : Vis X.env.scope x) (hd : (x == ("__debug__" : Str)) = false := by decide) (hcd : (x == ("__classdict__" : Str)) = false := by decide) :
    PI X (.Tuple elts kk tpos) (.Name x p) (iZipv X.K X.s_0.heap.objs.size k) := by
  refine PI.mk fun pins s σ H R I h => ?_
  obtain ⟨z, a, b, H0, hs, sm, ⟨TI, TO, i1, i2, ap, hc, st⟩, q⟩ := h
  refine thn ((pe_var (pos := p) (i := k) hN hv hd hcd).run pins s σ H (fun v H1 => v = .ref z ∧ H1 = H) I ⟨.ref z, hs, rfl, rfl⟩) fun u s1 ⟨v, H1, I1, r1, ev, eH⟩ => ?_
  subst ev
  rw [eH] at I1
  cases r1
  have hst : ZipSt z TI TO i1 i2 a b s1.heap := st s1.heap fun c _ o e => (I1.hok c _ e).1
  refine wpAny_pyIter_zip hst.1 ?_
  have ext : ∀ c, c ∈ [z, TI, TO, i1, i2] → ∃ o, H c = some (ZO o c) := fun c h => (hc c h).2.2
  refine ⟨z, [z, TI, TO, i1, i2], _, _, dropL H [z, TI, TO, i1, i2], rfl, droppedL I1 ext, turn_zip ap, hst, fun c hcm => ?_, q _ fun c o e => ?_⟩
  · obtain ⟨o, eo⟩ := ext c hcm
    exact ⟨dropL_in hcm, (ItX.inv_fp I1 eo (hc c hcm).1).2⟩
  · rw [dropL_out fun h => ?_]
    · exact sm c o e
    · rw [(hc c h).2.1] at e
      cases e
/-- one turn of a comprehension: the item is stored, the element made and put behind the list at D -/
abbrev oneTurn (g : TG) (tt : TT) (te : TE) (vs : List Nat) (σ : L2.St) (D : Addr) (x : V) (H : Hp) (Nx : Hp → Prop) : Prop :=
  g x (wipe σ vs) H fun σ2 H2 => wipe σ2 vs = wipe σ vs ∧ tt σ2 H2 fun yes H3 => if yes = true then te σ2 H3 fun new H4 => ∃ acc, H4 D = some (.lst acc) ∧ acc.length < sizeLine ∧ Nx (upd H4 D (.lst (acc ++ [new]))) else Nx H3
/-- a comprehension over a zip of two lists of one length -/
theorem lc_zip {K : PySem.W.Frag} {a b : Addr} {xs ys : List V} {g : TG} {tt : TT} {te : TE} {vs : List Nat} {σ : L2.St} {H1 : Hp} {D : Addr} {Qd : Hp → Prop} (hl : xs.length = ys.length) (Pv : Nat → Hp → Prop) (h0 : Pv 0 (upd H1 D (.lst []))) (hq : ∀ i H, Pv i H → SqL K H a xs ∧ SqL K H b ys)
    (hs : ∀ (i : Nat) (x y : V) (T : Addr) (H : Hp), xs[i]? = some x → ys[i]? = some y → Pv i H → H T = none → oneTurn g tt te vs σ D (.ref T) (upd H T (.tup [x, y])) (Pv (i + 1))) (hd : ∀ H, Pv xs.length H → Qd H) :
    ∃ W : Nat → Nat → Hp → Prop, (∃ left, W 0 left (upd H1 D (.lst []))) ∧ ∀ i left H, W i left H →
      ((Itz K a b).stop i H ∧ Qd H) ∨ ((Itz K a b).go i H ∧ ∃ Nx : Hp → Prop, (∀ H', Nx H' → ∃ less, less < left ∧ W (i + 1) less H') ∧ ∀ x H', (Itz K a b).yld i H x H' → oneTurn g tt te vs σ D x H' Nx) := by
  refine ⟨fun i left H => i ≤ xs.length ∧ left = xs.length - i ∧ Pv i H, ⟨xs.length, Nat.zero_le _, rfl, h0⟩, ?_⟩
  rintro i left H ⟨hi, rfl, p⟩
  obtain ⟨qx, qy⟩ := hq i H p
  by_cases hlt : i < xs.length
  · have hlt' : i < ys.length := by omega
    refine .inr ⟨⟨xs, ys, _, _, qx, qy, List.getElem?_eq_getElem hlt, List.getElem?_eq_getElem hlt'⟩, Pv (i + 1), fun H' p' => ⟨xs.length - (i + 1), by omega, hlt, rfl, p'⟩, fun v H' given => ?_⟩
    obtain ⟨T, u, v, rfl, new, rfl, f1, f2⟩ := given
    exact hs i u v T H (f1 xs qx) (f2 ys qy) p new
  · obtain rfl : i = xs.length := by omega
    exact .inl ⟨⟨xs, ys, qx, qy, Or.inl (Nat.le_refl _)⟩, hd H p⟩
end Sa
namespace Sa
open PySem PyProof.Rows L2
section
variable {base : Heap} {mg : Str → Option Value} {w : World} {P : Program} {K : PySem.W.Frag}
/-! ### is_integer -/
def spInt : Sp := fun vs H Q _ => ∃ z : Int, vs = [.int z] ∧ Q (.bl true) H
theorem ok_int (d : DefAt K mg "is_integer" sInt) (T : Bt mg) : FnOk P w K mg base CX0 1 d.f d.fd ["thing"] spInt := by
  refine d.F.ok scInt (fun vs H Q E h => ?_) (fun cdv A outer s H vs Q E hr h => ?_)
  · obtain ⟨z, rfl, _⟩ := h
    rfl
  · obtain ⟨z, rfl, k⟩ := h
    refine ⟨_, (pss_one (ps_ret (pe_and (pe_callB (id := "isinstance") (r := rIsi K) call_isi (by rfl) T.isinstance (by decide +kernel) (pa_cons (pv 0) (pa_cons (pe_bltn (v := .ty "int") (u := .type "int") (by rfl) T.int (by decide +kernel) rfl) pa_nil))) (pe_one (pe_not (pe_callB (id := "isinstance") (r := rIsi K) call_isi (by rfl) T.isinstance (by decide +kernel) (pa_cons (pv 0) (pa_cons (pe_bltn (v := .ty "bool") (u := .type "bool") (by rfl) T.bool (by decide +kernel) rfl) pa_nil)))))))), ?_⟩
    refine ⟨_, rfl, _, _, _, _, true, rfl, .ty _, .base (.int z), kit_ty (by decide +kernel), true, rfl, _, rfl, _, _, _, _, false, rfl, .ty _, .base (.int z), kit_ty (by decide +kernel), false, rfl, k⟩
/-! ### is_table -/
def spTab : Sp := fun vs H Q _ => ∃ (a : Addr) (m n : Nat) (U : List (List Int)), vs = [.ref a] ∧ Tab0 H a U ∧ Dims U m n ten9 ∧ 0 < m ∧ m ≤ 128 ∧ 0 < n ∧ n ≤ 128 ∧ ∀ H', Same H H' → Q (.bl true) H'
theorem ok_tab (d : DefAt K mg "is_table" sTab) (dI : DefAt K mg "is_integer" sInt) (T : Bt mg) : FnOk P w K mg base CX0 2 d.f d.fd ["thing"] spTab := by
  have GI : FnOk P w K mg base CX0 1 dI.f dI.fd _ spInt := ok_int dI T
  have bI : Binds K dI.fd ["thing"] [] := dI.F.binds fun _ _ _ _ _ _ us hl => match us, hl with | [_], _ => rfl
  obtain ⟨tl, hL⟩ := T.lines
  obtain ⟨tn, hN⟩ := T.number
  refine d.F.ok scTab (fun vs H Q E h => ?_) (fun cdv A outer s H vs Q E hr h => ?_)
  · obtain ⟨a, m, n, U, rfl, _⟩ := h
    rfl
  · obtain ⟨a, m, n, U, rfl, ⟨rs, ea, rows⟩, dm, m0, m1, n0, n1, k⟩ := h
    have hr1 : Room 1 _ := hr
    refine ⟨_, (pss_cons (ps_if (PW.pt (pw_or (pt_not (pt_val (pe_callB (id := "isinstance") (r := rIsi K) call_isi (by rfl) T.isinstance (by decide +kernel) (pa_cons (pv 0) (pa_cons (pe_bltn (v := .ty "list") (u := .type "list") (by rfl) T.list (by decide +kernel) rfl) pa_nil))))) (pw_or1 (pt_not (pt_chain op_le op_le pe_int (pe_callB call_len_seq (by rfl) T.len PySem.boot_len (pa_cons (pv 0) pa_nil)) (pe_glob (v := .int 128) (by rfl) hL ⟨_, rfl⟩)))))) (pss_one (ps_ret pe_bl)) pss_nil) (pss_cons (ps_for PassesOwn.never rfl (pi_list (pv 0)) (pg_name (i := 1) scTab.nd rfl (Or.inl rfl)) (pss_cons (ps_if (PW.pt (pw_or (pt_not (pt_val (pe_callB (id := "isinstance") (r := rIsi K) call_isi (by rfl) T.isinstance (by decide +kernel) (pa_cons (pv 1) (pa_cons (pe_bltn (v := .ty "list") (u := .type "list") (by rfl) T.list (by decide +kernel) rfl) pa_nil))))) (pw_or (pt_not (pt_chain op_le op_le pe_int (pe_callB call_len_seq (by rfl) T.len PySem.boot_len (pa_cons (pv 1) pa_nil)) (pe_glob (v := .int 128) (by rfl) hL ⟨_, rfl⟩))) (pw_or1 (pt_cmpR op_ne (pe_callB call_len_seq (by rfl) T.len PySem.boot_len (pa_cons (pv 1) pa_nil)) (pe_callB call_len_seq (by rfl) T.len PySem.boot_len (pa_cons (pe_ix ix_list (pv 0) pe_int (fun _ _ => rfl)) pa_nil)) (nomark _)))))) (pss_one (ps_ret pe_bl)) pss_nil) (pss_one (ps_if (pt_not (pt_val (pe_callB (id := "all") (r := rAll K) (cr_all rfl) (by rfl) T.all (by decide +kernel) (pa_cons (pe_lc  (own := [("number", 2)]) (g := gName 2) (tt := tYes) rfl scTab.nd (pi_list (pv 1)) (blkOk_by (N := ["thing", "row", "number"]) (sc := defScope sTab) (own := [("number", 2)]) (by decide +kernel)) (fun _ _ _ _ _ => pg_name (i := 2) scTab.nd rfl (Or.inl rfl)) (fun _ _ _ _ _ => pts_nil) (fun _ _ _ _ _ => (pe_and (pe_call GI hr1 (by rfl) dI.g dI.F.kp bI .nil pass0 (pa_cons (pv 2) pa_nil)) (pe_one (pe_cmpR op_le (pe_callB call_abs (by rfl) T.abs (by decide +kernel) (pa_cons (pv 2) pa_nil)) (pe_glob (v := .int 1000000000) (by rfl) hN ⟨_, rfl⟩) (nomark _)))))) pa_nil)))) (pss_one (ps_ret pe_bl)) pss_nil)))) (pss_one (ps_ret pe_bl)))), ?_⟩
    have lrs : (rs.map V.ref).length = m := by rw [List.length_map, rows.length, dm.m]
    refine ⟨_, rfl, _, _, _, _, true, rfl, .ty _, .base (.lst ea), kit_ty (by decide +kernel), true, rfl, _, rfl, a, _, rfl, .inl (SqL.of ea), _, _, rfl, rfl, true, congrArg V.bl (decide_eq_true (by rw [lrs]; omega)), _, _, rfl, rfl, true, congrArg V.bl (decide_eq_true (by rw [lrs]; omega)), ?_⟩
    refine ⟨_, rfl, a, rfl, ⟨_, SqL.of ea⟩, for_list (K := K) (a := a) (xs := rs.map V.ref) (fun i σ H' => ∃ v1, σ = [some (.ref a), v1, none] ∧ Same H H') ⟨_, rfl, .refl _⟩ (fun i σ H' _ ⟨_, _, sm⟩ => SqL.of (sm _ _ ea)) ?_ ?_⟩
    · rintro i x σ H' hx ⟨v1, rfl, sm⟩
      obtain ⟨ai, rfl, hai, hi, eai⟩ := (rows.same sm).ref hx
      obtain ⟨li, wi⟩ := dm.get (i := i) (by rw [← dm.m]; exact hi)
      obtain ⟨a0, h0, e0⟩ := rows.at (i := 0) (by rw [dm.m]; exact m0)
      obtain ⟨l0, _⟩ := dm.get m0
      have e0' := sm _ _ e0
      have ll : ((U.getD i []).map V.int).length = n := by rw [List.length_map]; exact li
      have ll0 : ((U.getD 0 []).map V.int).length = n := by rw [List.length_map]; exact l0
      refine ⟨_, rfl, _, _, _, _, true, rfl, .ty _, .base (.lst eai), kit_ty (by decide +kernel), true, rfl, _, rfl, ai, _, rfl, .inl (SqL.of eai), _, _, rfl, rfl, true, congrArg V.bl (decide_eq_true (by rw [ll]; omega)), _, _, rfl, rfl, true, congrArg V.bl (decide_eq_true (by rw [ll]; omega)),
        _, rfl, ai, _, rfl, .inl (SqL.of eai), _, rfl, a, _, 0, V.ref a0, rfl, rfl, SqL.of (sm _ _ ea), atI_nat (j := 0) (by rw [List.getElem?_map, h0]; rfl), a0, _, rfl, .inl (SqL.of e0'), rfl, false, ?_, ?_⟩
      · rw [ll, ll0, decide_eq_true rfl]
        rfl
      refine ⟨_, rfl, ai, rfl, ⟨_, SqL.of eai⟩, fun D hD => ?_⟩
      refine lc_list (K := K) (a := ai) (xs := (U.getD i []).map V.int) (fun j H2 => Same H' H2 ∧ H2 D = some (.lst ((List.replicate j true).map V.bl))) ⟨same_upd hD, upd_same⟩ (fun j H2 _ z => SqL.of (z.1 _ _ eai)) ?_ ?_
      · rintro j y H2 hy ⟨sm2, eD⟩
        have hj : j < (U.getD i []).length := by
          have q := (List.getElem?_eq_some_iff.mp hy).1
          rw [List.length_map] at q
          exact q
        rw [getV hj] at hy
        obtain rfl := Option.some.inj hy
        obtain ⟨w1, w2⟩ := wi.get hj
        unfold ten9 at w1 w2
        refine ⟨rfl, _, rfl, _, rfl, true, rfl, _, rfl, _, rfl, _, _, rfl, rfl, _, eD, small1000 (by rw [List.length_map, List.length_replicate]; omega), same_put sm2 hD, ?_⟩
        have e9 : decide ((if (U.getD i []).getD j 0 < 0 then -(U.getD i []).getD j 0 else (U.getD i []).getD j 0) ≤ (1000000000 : Int)) = true := decide_eq_true (by split <;> omega)
        rw [upd_same, List.replicate_succ', List.map_append]
        show some (HO.lst (_ ++ [V.bl (decide ((if (U.getD i []).getD j 0 < 0 then -(U.getD i []).getD j 0 else (U.getD i []).getD j 0) ≤ (1000000000 : Int)))])) = _
        rw [e9]
        rfl
      · rintro H2 ⟨sm2, eD⟩
        refine ⟨D, _, rfl, SqL.of eD, true, ?_, ?_⟩
        · rw [List.all_replicate]
          split <;> rfl
        · exact ⟨_, rfl, sm.trans sm2⟩
    · rintro σ H' ⟨v1, rfl, sm⟩
      exact k H' sm
end
end Sa
namespace Sa
open PySem PyProof.Rows L2
section
variable {base : Heap} {mg : Str → Option Value} {w : World} {P : Program} {K : PySem.W.Frag}
/-- // of great numbers of either sign -/
def CDivZ (_ j : Int) : Prop := j ≠ 0 ∧ j.natAbs.log2 < 9000
theorem op_fdivZ {X : Cx} : OpR X (binaryOp .FloorDiv) (rI CDivZ fun i j => .int (i.fdiv j)) := opI fun i j _ _ _ _ _ hc q => floordiv_int hc.1 q (.inl (PyProof.noPylong_of_log2 hc.2))
def rListOf (K : PySem.W.Frag) : List V → Hp → VK → Prop := fun xs H Q => ∃ p ys, xs = [.ref p] ∧ (SqL K H p ys ∨ SqT K H p ys) ∧ ∀ l, H l = none → Q (.ref l) (upd H l (.lst ys))
/-- the rows R i, i below m, by their addresses; t is none of them -/
def RowsF (t : Addr) (H : Hp) (rs : List Addr) (m : Nat) (R : Nat → List Int) : Prop := rs.length = m ∧ ∀ i, i < m → ∃ a, rs[i]? = some a ∧ a ≠ t ∧ H a = some (.lst ((R i).map V.int))
theorem RowsF.same {t : Addr} {H H' : Hp} {rs : List Addr} {m : Nat} {R : Nat → List Int} (h : RowsF t H rs m R) (s : Same H H') : RowsF t H' rs m R := ⟨h.1, fun i hi => by
  obtain ⟨a, b, c, d⟩ := h.2 i hi
  exact ⟨a, b, c, s _ _ d⟩⟩
theorem RowsF.put {t : Addr} {H : Hp} {rs : List Addr} {m : Nat} {R : Nat → List Int} {o : HO} (h : RowsF t H rs m R) : RowsF t (upd H t o) rs m R := ⟨h.1, fun i hi => by
  obtain ⟨a, b, c, d⟩ := h.2 i hi
  exact ⟨a, b, c, by rw [upd_ne c]; exact d⟩⟩
theorem RowsF.congr {t : Addr} {H : Hp} {rs : List Addr} {m : Nat} {R R' : Nat → List Int} (h : RowsF t H rs m R) (e : ∀ i, i < m → R' i = R i) : RowsF t H rs m R' := ⟨h.1, fun i hi => by
  rw [e i hi]
  exact h.2 i hi⟩
/-- row k is now the list at p -/
theorem RowsF.set {t p : Addr} {H : Hp} {rs : List Addr} {m k : Nat} {R : Nat → List Int} {r : List Int} (h : RowsF t H rs m R) (hk : k < m) (hp : p ≠ t) (e : H p = some (.lst (r.map V.int))) : RowsF t H (rs.set k p) m (fun i => if i = k then r else R i) := by
  refine ⟨by rw [List.length_set]; exact h.1, fun i hi => ?_⟩
  by_cases z : i = k
  · subst z
    exact ⟨p, by rw [List.getElem?_set_self (by rw [h.1]; exact hk)], hp, by show H p = some (.lst ((if i = i then r else R i).map V.int)); rw [if_pos rfl]; exact e⟩
  · obtain ⟨a, b, c, d⟩ := h.2 i hi
    exact ⟨a, by rw [List.getElem?_set_ne (Ne.symm z)]; exact b, c, by show H a = some (.lst ((if i = k then r else R i).map V.int)); rw [if_neg z]; exact d⟩
theorem dims_abs {U : List (List Int)} {m n : Nat} (h : Dims U m n ten9) : ∀ r, r ∈ U → ∀ j, (r.getD j 0).natAbs ≤ 1000000000 := fun r hr j => by
  by_cases hj : j < r.length
  · obtain ⟨a, b⟩ := (h.q r hr).get hj
    unfold ten9 at a b
    omega
  · rw [List.getD_eq_getElem?_getD, List.getElem?_eq_none (by omega)]
    exact Nat.zero_le _
theorem pow_small {k : Nat} {z : Int} (hk : k ≤ 128) (h : z.natAbs ≤ (128 * 1000000000) ^ k) : z.natAbs < 2 ^ 4800 := by
  refine Nat.lt_of_le_of_lt h ?_
  refine Nat.lt_of_le_of_lt (Nat.pow_le_pow_left (show 128 * 1000000000 ≤ 2 ^ 37 by decide) k) ?_
  rw [← Nat.pow_mul]
  exact Nat.pow_lt_pow_right (a := 2) (by decide) (by omega)
theorem div_small {i j : Int} (h0 : j ≠ 0) (h : j.natAbs < 2 ^ 4800) : CDivZ i j := ⟨h0, Nat.lt_trans (PySem.Flt.log2_lt_of (by decide) h) (by decide)⟩
/-! ### rank_of -/
def spRankOf : Sp := fun vs H Q _ => ∃ (a : Addr) (n : Nat) (U : List (List Int)), vs = [.ref a] ∧ Tab0 H a U ∧ Dims U U.length n ten9 ∧ 0 < U.length ∧ U.length ≤ 128 ∧ n ≤ 128 ∧ ∀ (f : Nat) (H' : Hp), Same H H' → (∀ r, RK.Rk (RK.ent U) U.length n r → f = r) → Q (.int f) H'
theorem ok_rankOf (d : DefAt K mg "rank_of" sRankOf) (T : Bt mg) : FnOk P w K mg base CX0 1 d.f d.fd ["table"] spRankOf := by
  refine d.F.ok scRankOf (fun vs H Q E h => ?_) (fun cdv A outer s H vs Q E hr h => ?_)
  · obtain ⟨a, n, U, rfl, _⟩ := h
    rfl
  · obtain ⟨a, n, U, rfl, ⟨ra, ea, rowsU⟩, dm, m0, m1, n1, k⟩ := h
    refine ⟨_, (pss_cons (ps_set (i := 2) scRankOf.nd rfl (Or.inr rfl) (pe_lc  (own := [("row", 1)]) (g := gName 1) (tt := tYes) rfl scRankOf.nd (pi_list (pv 0)) (blkOk_by (N := ["table", "row", "rows", "found", "last", "column", "at", "places", "head", "pairs", "number", "other"]) (sc := defScope sRankOf) (own := [("row", 1)]) (by decide +kernel)) (fun _ _ _ _ _ => pg_name (i := 1) scRankOf.nd rfl (Or.inl rfl)) (fun _ _ _ _ _ => pts_nil) (fun _ _ _ _ _ => (pe_callTy (T := "list") (r := rListOf K) call_list_of (by rfl) T.list (by decide +kernel) (pa_cons (pv 1) pa_nil))))) (pss_cons (ps_set (i := 3) scRankOf.nd rfl (Or.inl rfl) pe_int) (pss_cons (ps_set (i := 4) scRankOf.nd rfl (Or.inr rfl) pe_int) (pss_cons (ps_for PassesOwn.never rfl (pi_range1 (by rfl) T.range (pa_cons (pe_callB call_len_seq (by rfl) T.len PySem.boot_len (pa_cons (pe_ix ix_list (pv 2) pe_int (fun _ _ => rfl)) pa_nil)) pa_nil)) (pg_name (i := 5) scRankOf.nd rfl (Or.inr rfl)) (pss_cons (ps_setLc (i := 7) (own := [("at", 6)]) (g := gName 6) (tt := tTest (tOp rNe (tOp (rIxL K) (tOp (rIxL K) (tVar 2) (tVar 6)) (tVar 5)) (tC (.int 0)))) rfl scRankOf.nd rfl rfl (sw_true rfl rfl rfl (by decide +kernel)) (pi_range2 (by rfl) T.range (pa_cons (pv 3) (pa_cons (pe_callB call_len_seq (by rfl) T.len PySem.boot_len (pa_cons (pv 2) pa_nil)) pa_nil))) (blkOk_by (N := ["table", "row", "rows", "found", "last", "column", "at", "places", "head", "pairs", "number", "other"]) (sc := defScope sRankOf) (own := [("at", 6)]) (by decide +kernel)) (fun _ _ _ _ _ => pg_name (i := 6) scRankOf.nd rfl (Or.inl rfl)) (fun _ _ _ _ _ => pts_one (pt_cmpR op_ne (pe_ix (r := rIxL K) ix_list (pe_ix (r := rIxL K) ix_list (pv 2) (pv 6) (fun _ _ => rfl)) (pv 5) (fun _ _ => rfl)) pe_int (nomark _))) (fun _ _ _ _ _ => (pv 6))) (pss_one (ps_if (pt_cmpR op_gt (pe_callB call_len_seq (by rfl) T.len PySem.boot_len (pa_cons (pv 7) pa_nil)) pe_int (nomark _)) (pss_cons (ps_asg (pe_tup (pa_cons (pe_ix ix_list (pv 2) (pe_ix ix_list (pv 7) pe_int (fun _ _ => rfl)) (fun _ _ => rfl)) (pa_cons (pe_ix ix_list (pv 2) (pv 3) (fun _ _ => rfl)) pa_nil))) (pg_tup rfl (pgs_cons (pg_sub (pv 2) (pv 3) set_list) (pgs_cons (pg_sub (pv 2) (pe_ix ix_list (pv 7) pe_int (fun _ _ => rfl)) set_list) pgs_nil)))) (pss_cons (ps_set (i := 8) scRankOf.nd rfl (Or.inr rfl) (pe_ix ix_list (pv 2) (pv 3) (fun _ _ => rfl))) (pss_cons (ps_for PassesOwn.never rfl (pi_range2 (by rfl) T.range (pa_cons (pe_op op_add (pv 3) pe_int) (pa_cons (pe_callB call_len_seq (by rfl) T.len PySem.boot_len (pa_cons (pv 2) pa_nil)) pa_nil))) (pg_name (i := 6) scRankOf.nd rfl (Or.inl rfl)) (pss_cons (ps_set (i := 1) scRankOf.nd rfl (Or.inr rfl) (pe_ix ix_list (pv 2) (pv 6) (fun _ _ => rfl))) (pss_cons (ps_set (i := 9) scRankOf.nd rfl (Or.inl rfl) (pe_callTy (T := "zip") call_zipV (by rfl) T.zip (by decide +kernel) (pa_cons (pv 1) (pa_cons (pv 8) pa_nil)))) (pss_one (ps_asg (pe_lc (own := [("number", 10), ("other", 11)]) (g := gTup K 2 (gCons (gName 10) (gCons (gName 11) gNil))) (tt := tYes) rfl scRankOf.nd (pi_zipv (k := 9) rfl (.inl rfl)) (blkOk_by (N := ["table", "row", "rows", "found", "last", "column", "at", "places", "head", "pairs", "number", "other"]) (sc := defScope sRankOf) (own := [("number", 10), ("other", 11)]) (by decide +kernel)) (fun _ _ _ _ _ => pg_tup rfl (pgs_cons (pg_name (i := 10) scRankOf.nd rfl (Or.inl rfl)) (pgs_cons (pg_name (i := 11) scRankOf.nd rfl (Or.inl rfl)) pgs_nil))) (fun _ _ _ _ _ => pts_nil) (fun _ _ _ _ _ => (pe_op op_fdivZ (pe_op op_sub (pe_op op_mulW (pv 10) (pe_ix (r := rIxL K) ix_list (pv 8) (pv 5) (fun _ _ => rfl))) (pe_op op_mulW (pe_ix (r := rIxL K) ix_list (pv 1) (pv 5) (fun _ _ => rfl)) (pv 11))) (pv 4)))) (pg_sub (pv 2) (pv 6) set_list)))))) (pss_cons (ps_set (i := 4) scRankOf.nd rfl (Or.inr rfl) (pe_ix ix_list (pv 8) (pv 5) (fun _ _ => rfl))) (pss_one (ps_aug (i := 3) scRankOf.nd rfl (Or.inl rfl) pe_int ip_add)))))) pss_nil)))) (pss_one (ps_ret (pv 3))))))), ?_⟩
    have lrs : (ra.map V.ref).length = U.length := by rw [List.length_map, rowsU.length]
    -- rows = [list(row) for row in table]
    refine ⟨_, rfl, a, rfl, ⟨_, SqL.of ea⟩, fun t nt => ?_⟩
    refine lc_list (K := K) (a := a) (xs := ra.map V.ref) (fun i H' => Same H H' ∧ Grow H H' t (U.take i)) ⟨same_upd nt, .nil upd_same⟩ (fun i H' _ z => SqL.of (z.1 _ _ ea)) ?_ ?_
    · rintro i x H' hx ⟨sm, gr⟩
      obtain ⟨ai, rfl, hai, hi, eai⟩ := (rowsU.same sm).ref hx
      refine ⟨rfl, _, rfl, ai, _, rfl, .inl (SqL.of eai), fun p np => ?_⟩
      obtain ⟨acc, eacc, lacc, gr2⟩ := gr.push (sm.free np) np (gr.keepS (same_upd (o := .lst ((U.getD i []).map V.int)) np)) (fun rs e => same_upd np _ _ e) upd_same
      refine ⟨acc, eacc, small1000 (by rw [lacc, List.length_take]; omega), same_put (sm.trans (same_upd np)) nt, ?_⟩
      rw [List.take_add_one, getD_some hi]
      exact gr2
    rintro H1 ⟨sm1, gr1⟩
    rw [List.length_map, rowsU.length, List.take_of_length_le (Nat.le_refl _)] at gr1
    obtain ⟨rs0, et0, rows0, _, fr0⟩ := gr1
    have rf0 : RowsF t H1 rs0 U.length (fun i => U.getD i []) := ⟨rows0.length, fun i hi => by
      obtain ⟨b, h1, h2⟩ := rows0.at hi
      exact ⟨b, h1, (fr0 b (List.mem_of_getElem? h1)).2, h2⟩⟩
    have habs := dims_abs dm
    -- len(rows[0])
    obtain ⟨b0, hb0, _, eb0⟩ := rf0.2 0 m0
    obtain ⟨l0, _⟩ := dm.get m0
    have ll0 : ((U.getD 0 []).map V.int).length = n := by rw [List.length_map]; exact l0
    refine ⟨_, rfl, t, _, 0, V.ref b0, rfl, rfl, SqL.of et0, atI_nat (j := 0) (by rw [List.getElem?_map, hb0]; rfl), b0, _, rfl, .inl (SqL.of eb0), ((((U.getD 0 []).map V.int).length : Nat) : Int), rfl, by omega, by rw [ll0]; omega, ?_⟩
    rw [show ((((U.getD 0 []).map V.int).length : Nat) : Int).toNat = n by rw [ll0]; omega]
    refine for_range (lo := 0) (n := n) (fun c σ H' => ∃ (v1 v5 v6 v7 v8 v9 : Option V) (found : Nat) (last : Int) (rs : List Addr) (R X : Nat → List Int) (Rs : List (List Int)) (cs : List Nat),
        σ = [some (.ref a), v1, some (.ref t), some (.int found), some (.int last), v5, v6, v7, v8, v9, none, none] ∧ Same H H' ∧ H' t = some (.lst (rs.map V.ref)) ∧ RowsF t H' rs U.length R ∧ RK.BI U U.length n c R found last Rs cs X)
      ⟨none, none, none, none, none, none, 0, 1, rs0, _, _, [], [], rfl, sm1, et0, rf0, RK.BI.start dm.r⟩ ?_ ?_
    · rintro c σ H' hc ⟨v1, v5, v6, v7, v8, v9, found, last, rs, R, X, Rs, cs, rfl, sm, et, rf, bi⟩
      have fle := bi.le
      have lrs : (rs.map V.ref).length = U.length := by rw [List.length_map]; exact rf.1
      have zc : (0 : Int) + (c : Int) = (c : Int) := by omega
      -- places
      refine ⟨_, rfl, _, rfl, t, _, rfl, .inl (SqL.of et), (found : Int), (((rs.map V.ref).length : Nat) : Int), rfl, ⟨by omega, by omega, by omega, by omega⟩, fun D nD => ?_⟩
      rw [show ((((rs.map V.ref).length : Nat) : Int) - (found : Int)).toNat = U.length - found by omega]
      refine lc_range (lo := (found : Int)) (n := U.length - found) (fun j H2 => Same H' H2 ∧ ∃ pl : List Nat, H2 D = some (.lst (pl.map fun p => V.int (p : Nat))) ∧ pl.length ≤ j ∧ (∀ p, p ∈ pl → found ≤ p ∧ p < U.length ∧ (R p).getD c 0 ≠ 0) ∧ (pl = [] → ∀ i, found ≤ i → i < found + j → (R i).getD c 0 = 0))
        ⟨same_upd nD, [], upd_same, Nat.le_refl 0, fun _ h => (nomatch h), fun _ i h1 h2 => by omega⟩ ?_ ?_
      · rintro j H2 hj ⟨sm2, pl, eD, lpl, mem, emp⟩
        have rf2 := rf.same sm2
        obtain ⟨b, hb, _, eb⟩ := rf2.2 (found + j) (by omega)
        have lb := bi.len (found + j) (by omega) (by omega)
        refine ⟨rfl, _, rfl, _, rfl, t, _, _, V.ref b, rfl, rfl, SqL.of (sm2 _ _ et), at_of (j := found + j) (by omega) (by rw [List.getElem?_map, hb]; rfl), _, rfl, b, _, _, _, rfl, rfl, SqL.of eb, at_of (j := c) zc (getV (by omega)), rfl, _, rfl, ite2 (fun h1 => ?_) (fun h1 => ?_)⟩
        · have hne : (R (found + j)).getD c 0 ≠ 0 := fun z => by
            rw [z] at h1
            exact absurd h1 (by decide)
          refine ⟨_, rfl, _, eD, small1000 (by rw [List.length_map]; omega), same_put sm2 nD, pl ++ [found + j], ?_, by rw [List.length_append]; show pl.length + 1 ≤ _; omega, fun p hp => ?_, fun z => by simp at z⟩
          · rw [upd_same, List.map_append]
            show some (HO.lst (_ ++ [V.int ((found : Int) + (j : Int))])) = some (HO.lst (_ ++ [V.int (((found + j : Nat) : Int))]))
            rw [Int.natCast_add]
          · rcases List.mem_append.1 hp with q | q
            · exact mem p q
            · rw [List.mem_singleton.1 q]
              exact ⟨by omega, by omega, hne⟩
        · have hz : (R (found + j)).getD c 0 = 0 := Classical.byContradiction fun z => h1 (by
            rw [decide_eq_false (fun e => z (V.int.inj e))]
            rfl)
          refine ⟨sm2, pl, eD, by omega, mem, fun e i i1 i2 => ?_⟩
          by_cases q : i = found + j
          · rw [q]; exact hz
          · exact emp e i i1 (by omega)
      rintro H2 ⟨sm2, pl, eD, lpl, mem, emp⟩
      have rf2 := rf.same sm2
      have et2 := sm2 _ _ et
      have smH2 := sm.trans sm2
      have tD : t ≠ D := ne_of_none et nD
      -- if len(places) > 0
      refine ⟨_, rfl, D, _, rfl, .inl (SqL.of eD), _, _, rfl, rfl, _, rfl, ite2 (fun hp => ?_) (fun hp => ?_)⟩
      · -- a head is found
        obtain ⟨p, pl', rfl⟩ : ∃ p pl', pl = p :: pl' := by
          cases pl with
          | nil => exact absurd (of_decide_eq_true hp) (by decide)
          | cons p pl' => exact ⟨p, pl', rfl⟩
        obtain ⟨fp, pm, pne⟩ := mem p List.mem_cons_self
        obtain ⟨ap, hap, apt, eap⟩ := rf2.2 p pm
        obtain ⟨af, haf, aft, eaf⟩ := rf2.2 found (by omega)
        have eD0 : ((p :: pl').map fun p => V.int ((p : Nat) : Int))[0]? = some (V.int (p : Int)) := rfl
        refine ⟨_, rfl, _, rfl, D, _, 0, V.int (p : Int), rfl, rfl, SqL.of eD, atI_nat (j := 0) eD0, t, _, _, V.ref ap, rfl, rfl, SqL.of et2, at_of (j := p) rfl (by rw [List.getElem?_map, hap]; rfl),
          _, rfl, _, rfl, t, _, _, V.ref af, rfl, rfl, SqL.of et2, at_of (j := found) rfl (by rw [List.getElem?_map, haf]; rfl), (by show 2 ≤ sizeLine; decide), fun g ng => ?_⟩
        have sg : Same H2 (upd H2 g (.tup [V.ref ap, V.ref af])) := same_upd ng
        have tg : t ≠ g := ne_of_none et2 ng
        refine ⟨g, _, rfl, SqT.of upd_same, rfl, _, _, rfl, _, rfl, _, rfl, t, _, _, found, rfl, rfl, sg _ _ et2, ixN_of rfl (by omega), ?_⟩
        have eD3 : (upd (upd H2 g (.tup [V.ref ap, V.ref af])) t (.lst ((rs.map V.ref).set found (V.ref ap)))) D = some (.lst ((p :: pl').map fun p => V.int ((p : Nat) : Int))) := by
          rw [upd_ne (Ne.symm tD)]
          exact sg _ _ eD
        refine ⟨_, _, rfl, _, rfl, _, rfl, D, _, 0, V.int (p : Int), rfl, rfl, SqL.of eD3, atI_nat (j := 0) eD0, t, _, _, p, rfl, rfl, upd_same, ixN_of rfl (by rw [List.length_set]; omega), rfl, ?_⟩
        rw [upd_upd]
        generalize hH3 : upd (upd H2 g (.tup [V.ref ap, V.ref af])) t (.lst (((rs.map V.ref).set found (V.ref ap)).set p (V.ref af))) = H3
        have et3 : H3 t = some (.lst (((rs.set found ap).set p af).map V.ref)) := by rw [← hH3, upd_same, List.map_set, List.map_set]
        have smH3 : Same H H3 := by rw [← hH3]; exact same_put (smH2.trans sg) nt
        have rf3 : RowsF t H3 ((rs.set found ap).set p af) U.length (RK.swap found p R) := by
          have q := (((rf2.same sg).set (k := found) (p := ap) (r := R p) (by omega) apt (sg _ _ eap)).set (k := p) (p := af) (r := R found) pm aft (sg _ _ eaf))
          rw [← hH3]
          exact q.put.congr fun i _ => rfl
        have bi1 := bi.swapped fp pm
        have hsw : RK.swap found p R found = R p := RK.swap_at R fp
        generalize hR1 : RK.swap found p R = R1 at rf3 bi1 hsw
        generalize hX1 : RK.swap found p X = X1 at bi1
        have fm : found < U.length := by omega
        have hne : (R1 found).getD c 0 ≠ 0 := by rw [hsw]; exact pne
        have lh := bi1.len found (Nat.le_refl _) fm
        have step := bi1.step hc fm hne
        obtain ⟨bl, be⟩ := bi1.bound habs m1
        have bl' : last.natAbs < 2 ^ 4800 := pow_small (k := found) (by omega) bl
        have be' : ∀ i, found ≤ i → i < U.length → ∀ j, ((R1 i).getD j 0).natAbs < 2 ^ 4800 := fun i h1 h2 j => pow_small (k := found + 1) (by omega) (be i h1 h2 j)
        have lrs3 : (((rs.set found ap).set p af).map V.ref).length = U.length := by rw [List.length_map]; exact rf3.1
        -- head = rows[found]
        obtain ⟨ah, hah, aht, eah⟩ := rf3.2 found fm
        refine ⟨_, rfl, _, rfl, t, _, _, V.ref ah, rfl, rfl, SqL.of et3, at_of (j := found) rfl (by rw [List.getElem?_map, hah]; rfl), ?_⟩
        -- the rows below
        refine ⟨_, rfl, _, _, rfl, rfl, _, rfl, t, _, rfl, .inl (SqL.of et3), (found : Int) + 1, ((((((rs.set found ap).set p af).map V.ref)).length : Nat) : Int), rfl, ⟨by omega, by omega, by omega, by omega⟩, ?_⟩
        rw [show (((((((rs.set found ap).set p af).map V.ref)).length : Nat) : Int) - ((found : Int) + 1)).toNat = U.length - (found + 1) by omega]
        refine for_range (lo := (found : Int) + 1) (n := U.length - (found + 1)) (fun j σ H' => ∃ (v1 v6 v9 : Option V) (rs' : List Addr), σ = [some (.ref a), v1, some (.ref t), some (.int found), some (.int last), some (.int ((0 : Int) + (c : Int))), v6, some (.ref D), some (.ref ah), v9, none, none] ∧
            Same H H' ∧ H' ah = some (.lst ((R1 found).map V.int)) ∧ H' t = some (.lst (rs'.map V.ref)) ∧ RowsF t H' rs' U.length (fun i => if found < i ∧ i < found + 1 + j then RK.stepRow (R1 found) c last (R1 i) else R1 i))
          ⟨_, _, _, _, rfl, smH3, eah, et3, rf3.congr fun i _ => by rw [if_neg (by omega)]⟩ ?_ ?_
        · rintro j σ H4 hj ⟨w1, w6, w9, rs', rfl, sm4, eah4, et4, rf4⟩
          have hk : found + 1 + j < U.length := by omega
          obtain ⟨ak, hak, akt, eak⟩ := rf4.2 (found + 1 + j) hk
          dsimp only at eak
          rw [if_neg (show ¬ (found < found + 1 + j ∧ found + 1 + j < found + 1 + j) by omega)] at eak
          have lk := bi1.len (found + 1 + j) (by omega) hk
          have lrs4 : (rs'.map V.ref).length = U.length := by rw [List.length_map]; exact rf4.1
          refine ⟨_, rfl, _, rfl, t, _, _, V.ref ak, rfl, rfl, SqL.of et4, at_of (j := found + 1 + j) (by omega) (by rw [List.getElem?_map, hak]; rfl), ?_⟩
          refine ⟨_, rfl, _, rfl, ak, ah, _, _, rfl, SqL.of eak, SqL.of eah4, fun z H5 sz zat => ?_⟩
          refine ⟨z, ak, ah, H4, rfl, sz, zat, fun H6 s6 D2 nD2 => ?_⟩
          have eak6 := s6 _ _ eak
          have eah6 := s6 _ _ eah4
          generalize hrow : R1 (found + 1 + j) = row at eak6 lk
          generalize hhead : R1 found = head at eah6 lh
          have lz : (row.zip head).length = n := by rw [List.length_zip, lk, lh, Nat.min_self]
          have brow : ∀ j, (row.getD j 0).natAbs < 2 ^ 4800 := fun j => by rw [← hrow]; exact be' _ (by omega) hk j
          have bhead : ∀ j, (head.getD j 0).natAbs < 2 ^ 4800 := fun j => by rw [← hhead]; exact be' _ (Nat.le_refl _) fm j
          refine lc_zip (K := K) (a := ak) (b := ah) (xs := row.map V.int) (ys := head.map V.int) (by rw [List.length_map, List.length_map, lk, lh]) (fun i H7 => Same H6 H7 ∧ H7 D2 = some (.lst ((((row.zip head).take i).map fun q => (q.1 * head.getD c 0 - row.getD c 0 * q.2).fdiv last).map V.int)))
            ⟨same_upd nD2, upd_same⟩ (fun i H7 q => ⟨SqL.of (q.1 _ _ eak6), SqL.of (q.1 _ _ eah6)⟩) ?_ ?_
          · rintro i x y Tp H7 hx hy ⟨s7, eD7⟩ nT
            have hi : i < n := by
              have q := (List.getElem?_eq_some_iff.mp hx).1
              rw [List.length_map, lk] at q
              exact q
            rw [getV (by omega)] at hx hy
            obtain rfl := Option.some.inj hx
            obtain rfl := Option.some.inj hy
            have sT : Same H7 (upd H7 Tp (.tup [V.int (row.getD i 0), V.int (head.getD i 0)])) := same_upd nT
            refine ⟨Tp, _, rfl, SqT.of upd_same, rfl, _, _, rfl, _, _, rfl, rfl, rfl, ?_⟩
            refine ⟨_, rfl, _, rfl, _, rfl, ah, _, _, _, rfl, rfl, SqL.of (sT _ _ (s7 _ _ eah6)), at_of (j := c) zc (getV (by omega)), _, _, rfl, rfl, wide_mul (brow i) (bhead c) (by decide) (by decide) (by decide),
              _, rfl, _, rfl, ak, _, _, _, rfl, rfl, SqL.of (sT _ _ (s7 _ _ eak6)), at_of (j := c) zc (getV (by omega)), _, rfl, _, _, rfl, rfl, wide_mul (brow c) (bhead i) (by decide) (by decide) (by decide), _, _, rfl, rfl, _, rfl, _, _, rfl, rfl, div_small bi1.ne bl',
              _, sT _ _ eD7, small1000 (by rw [List.length_map, List.length_map, List.length_take]; omega), same_put (s7.trans sT) nD2, ?_⟩
            have hz : (row.zip head)[i]? = some (row.getD i 0, head.getD i 0) := by
              rw [List.getElem?_eq_getElem (by omega), List.getElem_zip, List.getD_eq_getElem?_getD (l := row), List.getElem?_eq_getElem (by omega), List.getD_eq_getElem?_getD (l := head), List.getElem?_eq_getElem (by omega)]
              rfl
            rw [upd_same, take_map hz, List.map_append]
            rfl
          · rintro H7 ⟨s7, eD7⟩
            rw [List.length_map, lk, ← lz, List.take_of_length_le (Nat.le_refl _)] at eD7
            have s47 : Same H4 H7 := s6.trans s7
            have tD2 : t ≠ D2 := ne_of_none (s6 _ _ et4) nD2
            refine ⟨_, rfl, _, rfl, t, _, _, found + 1 + j, rfl, rfl, s47 _ _ et4, ixN_of (by omega) (by omega), ?_⟩
            refine ⟨_, _, _, rs'.set (found + 1 + j) D2, rfl, same_put (sm4.trans s47) nt, by rw [upd_ne aht]; exact s7 _ _ eah6, by rw [upd_same, List.map_set], ?_⟩
            refine (((rf4.same s47).set hk (Ne.symm tD2) (r := RK.stepRow head c last row) eD7).put).congr fun i hi => ?_
            by_cases q : i = found + 1 + j
            · rw [if_pos q, if_pos (by omega), q, hrow]
            · rw [if_neg q]
              by_cases q2 : found < i ∧ i < found + 1 + j
              · rw [if_pos (by omega), if_pos q2, hhead]
              · rw [if_neg (by omega), if_neg q2]
        · rintro σ H4 ⟨w1, w6, w9, rs', rfl, sm4, eah4, et4, rf4⟩
          refine ⟨_, rfl, _, rfl, ah, _, _, _, rfl, rfl, SqL.of eah4, at_of (j := c) zc (getV (by omega)), ?_⟩
          refine ⟨_, rfl, _, _, rfl, rfl, (?_)⟩
          exact ⟨_, _, _, _, _, _, found + 1, (R1 found).getD c 0, rs', _, X1, _, _, rfl, sm4, et4, rf4.congr fun i hi => by
            by_cases q : found < i
            · rw [if_pos q, if_pos (by omega)]
            · rw [if_neg q, if_neg (by omega)], step⟩
      · -- nothing stands there
        have e0 : pl = [] := by
          cases pl with
          | nil => rfl
          | cons p pl' => exact absurd (decide_eq_true (show (0 : Int) < (((p :: pl').map fun p => V.int ((p : Nat) : Int)).length : Nat) by rw [List.length_map, List.length_cons]; omega)) hp
        exact ⟨_, _, _, _, _, _, found, last, rs, R, X, Rs, cs, rfl, smH2, et2, rf2, bi.skip fun i i1 i2 => emp e0 i i1 (by omega)⟩
    · rintro σ H' ⟨v1, v5, v6, v7, v8, v9, found, last, rs, R, X, Rs, cs, rfl, sm, et, rf, bi⟩
      exact ⟨_, rfl, k found H' sm fun r hk => bi.rank hk⟩
end
end Sa
namespace Sa
open PySem PyProof.Rows L2
section
variable {base : Heap} {mg : Str → Option Value} {w : World} {P : Program} {K : PySem.W.Frag}
/-! ### rank -/
def spRank : Sp := fun vs H Q _ => ∃ (a : Addr) (n : Nat) (U : List (List Int)), vs = [.ref a] ∧ Tab0 H a U ∧ Dims U U.length n ten9 ∧ 0 < U.length ∧ U.length ≤ 128 ∧ 0 < n ∧ n ≤ 128 ∧ ∀ (f : Nat) (H' : Hp), Same H H' → (∀ r, RK.Rk (RK.ent U) U.length n r → f = r) → Q (.int f) H'
theorem ok_rank (d : DefAt K mg "rank" sRank) (dTb : DefAt K mg "is_table" sTab) (dI : DefAt K mg "is_integer" sInt) (dR : DefAt K mg "rank_of" sRankOf) (T : Bt mg) : FnOk P w K mg base CX0 3 d.f d.fd ["table"] spRank := by
  have GTb : FnOk P w K mg base CX0 2 dTb.f dTb.fd _ spTab := ok_tab dTb dI T
  have bTb : Binds K dTb.fd ["thing"] [] := dTb.F.binds fun _ _ _ _ _ _ us hl => match us, hl with | [_], _ => rfl
  have GR : FnOk P w K mg base CX0 1 dR.f dR.fd _ spRankOf := ok_rankOf dR T
  have bR : Binds K dR.fd ["table"] [] := dR.F.binds fun _ _ _ _ _ _ us hl => match us, hl with | [_], _ => rfl
  refine d.F.ok scRank (fun vs H Q E h => ?_) (fun cdv A outer s H vs Q E hr h => ?_)
  · obtain ⟨a, n, U, rfl, _⟩ := h
    rfl
  · obtain ⟨a, n, U, rfl, tab, dm, m0, m1, n0, n1, k⟩ := h
    have hr2 : Room 2 _ := hr
    have hr1 : Room 1 _ := Room.mono hr (by decide)
    refine ⟨_, (pss_cons (ps_if (pt_not (pt_val (pe_call GTb hr2 (by rfl) dTb.g dTb.F.kp bTb .nil pass0 (pa_cons (pv 0) pa_nil)))) pss_never pss_nil) (pss_one (ps_ret (pe_call GR hr1 (by rfl) dR.g dR.F.kp bR .nil pass0 (pa_cons (pv 0) pa_nil))))), ?_⟩
    refine ⟨_, rfl, a, U.length, n, U, rfl, tab, dm, m0, m1, n0, n1, fun H1 s1 => ⟨true, rfl, ?_⟩⟩
    refine ⟨_, rfl, a, n, U, rfl, tab.same s1, dm, m0, m1, n1, fun f H2 s2 hf => k f H2 (s1.trans s2) hf⟩
/-! ### _law_near -/
/-- two rows of two numbers from 0 to 10 ** 9 whose determinant is 1 or -1 -/
def NearAt (H : Hp) (t a b : Addr) (x y z w : Int) : Prop := H t = some (.lst [.ref a, .ref b]) ∧ H a = some (.lst [.int x, .int y]) ∧ H b = some (.lst [.int z, .int w])
def Near (x y z w : Int) : Prop := (x * w - y * z = 1 ∨ x * w - y * z = -1) ∧ (0 ≤ x ∧ x ≤ ten9) ∧ (0 ≤ y ∧ y ≤ ten9) ∧ (0 ≤ z ∧ z ≤ ten9) ∧ (0 ≤ w ∧ w ≤ ten9)
theorem Near.next {x y z w p : Int} (h : Near x y z w) (hp : 0 ≤ p) (h1 : x * p + y ≤ ten9) (h2 : z * p + w ≤ ten9) : Near (x * p + y) x (z * p + w) z := by
  obtain ⟨d, ⟨x0, x1⟩, ⟨y0, y1⟩, ⟨z0, z1⟩, ⟨w0, w1⟩⟩ := h
  have e : (x * p + y) * z - x * (z * p + w) = -(x * w - y * z) := by grind
  have a := Int.mul_nonneg x0 hp
  have b := Int.mul_nonneg z0 hp
  refine ⟨?_, ⟨by omega, h1⟩, ⟨x0, x1⟩, ⟨by omega, h2⟩, ⟨z0, z1⟩⟩
  rw [e]
  omega
def spNear : Sp := fun vs H Q _ => ∃ (h c : Addr), vs = [.ref h] ∧ Hand H h c ∧ ∀ (t a b : Addr) (x y z w : Int) (H' : Hp), SmX h H H' → Hand H' h c → NearAt H' t a b x y z w → Near x y z w → t ≠ h → a ≠ h → b ≠ h → Q (.ref t) H'
theorem ok_near (d : DefAt K mg "_law_near" sNear) (dD : DefAt K mg "_law_draw" sDraw) (T : Bt mg) : FnOk P w K mg base CX0 2 d.f d.fd ["_law_hand_here"] spNear := by
  have GD : FnOk P w K mg base CX0 1 dD.f dD.fd _ spDraw := ok_draw dD T
  have bD : Binds K dD.fd ["_law_hand_here", "_law_many"] [] := dD.F.binds fun _ _ _ _ _ _ us hl => match us, hl with | [_, _], _ => rfl
  refine d.F.ok scNear (fun vs H Q E h => ?_) (fun cdv A outer s H vs Q E hr h => ?_)
  · obtain ⟨h, c, rfl, _⟩ := h
    rfl
  · obtain ⟨h, c, rfl, hh, k⟩ := h
    have hr1 : Room 1 _ := hr
    refine ⟨_, (pss_cons (ps_set (i := 1) scNear.nd rfl (Or.inl rfl) (pe_lst (pa_cons (pe_lst (pa_cons pe_int (pa_cons pe_int pa_nil))) (pa_cons (pe_lst (pa_cons pe_int (pa_cons pe_int pa_nil))) pa_nil)))) (pss_cons (ps_for PassesOwn.never rfl (pi_range1 (by rfl) T.range (pa_cons pe_int pa_nil)) (pg_name (i := 2) scNear.nd rfl (Or.inl rfl)) (pss_cons (ps_set (i := 3) scNear.nd rfl (Or.inl rfl) (pe_op op_add pe_int (pe_call GD hr1 (by rfl) dD.g dD.F.kp bD .nil pass0 (pa_cons (pv 0) (pa_cons (pe_ix ix_list (pe_lst (pa_cons pe_int (pa_cons pe_int (pa_cons pe_int (pa_cons pe_int pa_nil))))) (pe_call GD hr1 (by rfl) dD.g dD.F.kp bD .nil pass0 (pa_cons (pv 0) (pa_cons pe_int pa_nil))) (fun _ _ => rfl)) pa_nil))))) (pss_cons (ps_set (i := 4) scNear.nd rfl (Or.inl rfl) (pe_lst (pa_cons (pe_lst (pa_cons (pe_op op_add (pe_op op_mul (pe_ix ix_list (pe_ix ix_list (pv 1) pe_int (fun _ _ => rfl)) pe_int (fun _ _ => rfl)) (pv 3)) (pe_ix ix_list (pe_ix ix_list (pv 1) pe_int (fun _ _ => rfl)) pe_int (fun _ _ => rfl))) (pa_cons (pe_ix ix_list (pe_ix ix_list (pv 1) pe_int (fun _ _ => rfl)) pe_int (fun _ _ => rfl)) pa_nil))) (pa_cons (pe_lst (pa_cons (pe_op op_add (pe_op op_mul (pe_ix ix_list (pe_ix ix_list (pv 1) pe_int (fun _ _ => rfl)) pe_int (fun _ _ => rfl)) (pv 3)) (pe_ix ix_list (pe_ix ix_list (pv 1) pe_int (fun _ _ => rfl)) pe_int (fun _ _ => rfl))) (pa_cons (pe_ix ix_list (pe_ix ix_list (pv 1) pe_int (fun _ _ => rfl)) pe_int (fun _ _ => rfl)) pa_nil))) pa_nil)))) (pss_cons (ps_if (pt_cmpR op_gt (pe_callB (id := "max") (call_max2 rfl) (by rfl) T.max (by decide +kernel) (pa_cons (pe_ix ix_list (pe_ix ix_list (pv 4) pe_int (fun _ _ => rfl)) pe_int (fun _ _ => rfl)) (pa_cons (pe_ix ix_list (pe_ix ix_list (pv 4) pe_int (fun _ _ => rfl)) pe_int (fun _ _ => rfl)) pa_nil))) (pe_op op_pow pe_int pe_int) (nomark _)) (pss_one ps_break) pss_nil) (pss_one (ps_set (i := 1) scNear.nd rfl (Or.inl rfl) (pv 4))))))) (pss_one (ps_ret (pv 1))))), ?_⟩
    -- [[1, 0], [0, 1]]
    refine ⟨(by show 2 ≤ sizeLine; decide), fun a na => ⟨(by show 2 ≤ sizeLine; decide), fun b nb => ⟨(by show 2 ≤ sizeLine; decide), fun t nt => ?_⟩⟩⟩
    have sa : Same H (upd H a (.lst [.int 1, .int 0])) := same_upd na
    have sb := sa.trans (same_upd (o := .lst [.int 0, .int 1]) nb)
    have st := sb.trans (same_upd (o := .lst [.ref a, .ref b]) nt)
    have ab : a ≠ b := ne_of_none upd_same nb
    have bt : b ≠ t := ne_of_none upd_same nt
    have at_ : a ≠ t := ne_of_none (by rw [upd_ne ab]; exact upd_same) nt
    refine ⟨40, rfl, by decide, by decide, for_range (lo := 0) (n := 40) (fun i σ H' => ∃ (v2 v3 v4 : Option V) (t a b : Addr) (x y z w : Int), σ = [some (.ref h), some (.ref t), v2, v3, v4] ∧ SmX h H H' ∧ Hand H' h c ∧ NearAt H' t a b x y z w ∧ Near x y z w ∧ t ≠ h ∧ a ≠ h ∧ b ≠ h)
      ⟨none, none, none, t, a, b, 1, 0, 0, 1, rfl, .of st, hh.same st, ⟨upd_same, by rw [upd_ne at_, upd_ne ab]; exact upd_same, by rw [upd_ne bt]; exact upd_same⟩, ⟨.inl (by decide), by decide, by decide, by decide, by decide⟩, (hh.ne (sb.free nt)).1, (hh.ne na).1, (hh.ne (sa.free nb)).1⟩ ?_ ?_⟩
    · rintro i σ H' hi ⟨v2, v3, v4, t, a, b, x, y, z, w, rfl, sm, hh', ⟨et, ea, eb⟩, nr, th, ah, bh⟩
      obtain ⟨dt, ⟨x0, x1⟩, ⟨y0, y1⟩, ⟨z0, z1⟩, ⟨w0, w1⟩⟩ := id nr
      unfold ten9 at x1 y1 z1 w1
      refine ⟨_, rfl, (by show 4 ≤ sizeLine; decide), fun g ng => ?_⟩
      have hh1 := hh'.new (o := .lst [.int 1, .int 3, .int 40, .int 40000]) ng
      have s1 : Same H' (upd H' g (.lst [.int 1, .int 3, .int 40, .int 40000])) := same_upd ng
      refine ⟨_, rfl, h, c, _, rfl, hh1, by decide, by decide, fun e H2 e0 e1 sm2 hh2 => ?_⟩
      have gh := (hh'.ne ng).1
      obtain ⟨me, hme, m0, m1⟩ : ∃ me : Int, ([V.int 1, V.int 3, V.int 40, V.int 40000] : List V)[e.toNat]? = some (V.int me) ∧ 0 < me ∧ me ≤ 40000 := by
        rcases (show e = 0 ∨ e = 1 ∨ e = 2 ∨ e = 3 by omega) with q | q | q | q <;> subst q
        · exact ⟨1, rfl, by decide, by decide⟩
        · exact ⟨3, rfl, by decide, by decide⟩
        · exact ⟨40, rfl, by decide, by decide⟩
        · exact ⟨40000, rfl, by decide, by decide⟩
      refine ⟨g, _, e, _, rfl, rfl, SqL.of (sm2 _ _ gh upd_same), at_of (j := e.toNat) (by omega) hme, h, c, _, rfl, hh2, m0, by omega, fun p H3 p0 p1 sm3 hh3 => ⟨_, _, rfl, rfl, ?_⟩⟩
      have s3 := ((SmX.of s1).trans sm2).trans sm3
      have et3 := s3 _ _ th et
      have ea3 := s3 _ _ ah ea
      have eb3 := s3 _ _ bh eb
      refine ⟨_, rfl, t, _, 0, V.ref a, rfl, rfl, SqL.of et3, rfl, a, _, 0, V.int x, rfl, rfl, SqL.of ea3, rfl, _, rfl, _, _, rfl, rfl, .inl ⟨by omega, by omega⟩, _, rfl, t, _, 0, V.ref a, rfl, rfl, SqL.of et3, rfl, a, _, 1, V.int y, rfl, rfl, SqL.of ea3, rfl, _, _, rfl, rfl,
        _, rfl, t, _, 0, V.ref a, rfl, rfl, SqL.of et3, rfl, a, _, 0, V.int x, rfl, rfl, SqL.of ea3, rfl, (by show 2 ≤ sizeLine; decide), fun a' na' => ?_⟩
      have sa' : Same H3 (upd H3 a' (.lst [.int (x * (1 + p) + y), .int x])) := same_upd na'
      have et4 := sa' _ _ et3
      have eb4 := sa' _ _ eb3
      refine ⟨_, rfl, t, _, 1, V.ref b, rfl, rfl, SqL.of et4, rfl, b, _, 0, V.int z, rfl, rfl, SqL.of eb4, rfl, _, rfl, _, _, rfl, rfl, .inl ⟨by omega, by omega⟩, _, rfl, t, _, 1, V.ref b, rfl, rfl, SqL.of et4, rfl, b, _, 1, V.int w, rfl, rfl, SqL.of eb4, rfl, _, _, rfl, rfl,
        _, rfl, t, _, 1, V.ref b, rfl, rfl, SqL.of et4, rfl, b, _, 0, V.int z, rfl, rfl, SqL.of eb4, rfl, (by show 2 ≤ sizeLine; decide), fun b' nb' => ⟨(by show 2 ≤ sizeLine; decide), fun t' nt' => ?_⟩⟩
      have ab' : a' ≠ b' := ne_of_none upd_same nb'
      have bt' : b' ≠ t' := ne_of_none upd_same nt'
      have at' : a' ≠ t' := ne_of_none (by rw [upd_ne ab']; exact upd_same) nt'
      have sb' := sa'.trans (same_upd (o := .lst [.int (z * (1 + p) + w), .int z]) nb')
      have st' := sb'.trans (same_upd (o := .lst [.ref a', .ref b']) nt')
      generalize hH5 : upd (upd (upd H3 a' (.lst [.int (x * (1 + p) + y), .int x])) b' (.lst [.int (z * (1 + p) + w), .int z])) t' (.lst [.ref a', .ref b']) = H5 at st'
      have et5 : H5 t' = some (.lst [.ref a', .ref b']) := by rw [← hH5]; exact upd_same
      have ea5 : H5 a' = some (.lst [.int (x * (1 + p) + y), .int x]) := by rw [← hH5, upd_ne at', upd_ne ab']; exact upd_same
      have eb5 : H5 b' = some (.lst [.int (z * (1 + p) + w), .int z]) := by rw [← hH5, upd_ne bt']; exact upd_same
      have smf := (sm.trans s3).trans (.of st')
      have hh5 := hh3.same st'
      refine ⟨_, rfl, t', _, 0, V.ref a', rfl, rfl, SqL.of et5, rfl, a', _, 0, _, rfl, rfl, SqL.of ea5, rfl, _, rfl, t', _, 1, V.ref b', rfl, rfl, SqL.of et5, rfl, b', _, 0, _, rfl, rfl, SqL.of eb5, rfl, _, _, rfl, _, _, rfl, rfl, ⟨by decide, by decide, by decide⟩, _, _, rfl, rfl, _, rfl, ite2 (fun _ => ?_) (fun hno => ?_)⟩
      · exact ⟨_, rfl, k t a b x y z w H5 smf hh5 ⟨st' _ _ et3, st' _ _ ea3, st' _ _ eb3⟩ nr th ah bh⟩
      · have q : ¬ ((10 : Int) ^ (9 : Int).toNat < if z * (1 + p) + w > x * (1 + p) + y then z * (1 + p) + w else x * (1 + p) + y) := fun e => hno (decide_eq_true e)
        have e9 : (10 : Int) ^ (9 : Int).toNat = 1000000000 := by decide
        rw [e9] at q
        have q1 : x * (1 + p) + y ≤ 1000000000 ∧ z * (1 + p) + w ≤ 1000000000 := by
          split at q <;> constructor <;> omega
        exact ⟨_, rfl, _, _, _, t', a', b', _, _, _, _, rfl, smf, hh5, ⟨et5, ea5, eb5⟩, nr.next (by omega) q1.1 q1.2, (hh3.ne (sb'.free nt')).1, (hh3.ne na').1, (hh3.ne (sa'.free nb')).1⟩
    · rintro σ H' ⟨v2, v3, v4, t, a, b, x, y, z, w, rfl, sm, hh', nat, nr, th, ah, bh⟩
      exact ⟨_, rfl, k t a b x y z w H' sm hh' nat nr th ah bh⟩
end
end Sa
namespace Sa
open PySem PyProof.Rows L2
section
variable {base : Heap} {mg : Str → Option Value} {w : World} {P : Program} {K : PySem.W.Frag}
/-! ### _law_great -/
def mid (r : List Int) : List Int := [r.getD 0 0, 0, r.getD 1 0]
def spGreat : Sp := fun vs H Q _ => ∃ (h c : Addr), vs = [.ref h] ∧ Hand H h c ∧
  ∀ (p t : Addr) (H' : Hp) (m due : Nat) (U : List (List Int)), SmX h H H' → Hand H' h c → H' p = some (.tup [.ref t, .int due]) → Tab h H' t U → Dims U m 3 ten9 → 2 ≤ m → m ≤ 5 → RK.Rk (RK.ent U) m 3 due → Q (.ref p) H'
theorem max3_int {x y : Int} {z : V} {b : Int} (e : nuMax3 (.int 1) (.int x) (.int y) = some z) (hx : x ≤ b) (hy : y ≤ b) (hb : 1 ≤ b) : ∃ m : Int, z = .int m ∧ 1 ≤ m ∧ x ≤ m ∧ y ≤ m ∧ m ≤ b := by
  unfold nuMax3 at e
  obtain ⟨u, e1, e2⟩ := opt_bind e
  obtain ⟨d1, l1, rfl⟩ := opt_map e1
  obtain ⟨d2, l2, rfl⟩ := opt_map e2
  have q1 : decide ((1 : Int) < x) = d1 := Option.some.inj l1
  subst q1
  by_cases h1 : (1 : Int) < x
  · simp only [h1, decide_true, if_true] at l2 ⊢
    have q2 : decide (x < y) = d2 := Option.some.inj l2
    subst q2
    by_cases h2 : x < y
    · simp only [h2, decide_true, if_true]
      exact ⟨y, rfl, by omega, by omega, by omega, hy⟩
    · simp only [h2, decide_false]
      exact ⟨x, rfl, by omega, by omega, by omega, hx⟩
  · simp only [h1, decide_false, Bool.false_eq_true, if_false] at l2 ⊢
    have q2 : decide (1 < y) = d2 := Option.some.inj l2
    subst q2
    by_cases h2 : 1 < y
    · simp only [h2, decide_true, if_true]
      exact ⟨y, rfl, by omega, by omega, by omega, hy⟩
    · simp only [h2, decide_false]
      exact ⟨1, rfl, by omega, by omega, by omega, hb⟩
theorem max3_some {x y : Int} : ∃ z, nuMax3 (.int 1) (.int x) (.int y) = some z := by
  unfold nuMax3 nuMax2
  by_cases h : (1 : Int) < x
  · have e : nuLt (.int 1) (.int x) = some true := congrArg some (decide_eq_true h)
    rw [e]
    exact ⟨_, rfl⟩
  · have e : nuLt (.int 1) (.int x) = some false := congrArg some (decide_eq_false h)
    rw [e]
    exact ⟨_, rfl⟩
/-- the rows of _law_great -/
def five (x y z w : Int) : List (List Int) := [[x, y], [z, w], [x - z, y - w], [z - x, w - y], [0, 0]]
theorem five_dims {x y z w : Int} (hx : 0 ≤ x ∧ x ≤ ten9) (hy : 0 ≤ y ∧ y ≤ ten9) (hz : 0 ≤ z ∧ z ≤ ten9) (hw : 0 ≤ w ∧ w ≤ ten9) : Dims (five x y z w) 5 2 ten9 := by
  unfold ten9 at *
  refine Dims.push (T := [_, _, _, _]) (Dims.push (T := [_, _, _]) (Dims.push (T := [_, _]) (Dims.push (T := [_]) (Dims.push (T := []) .nil rfl ?_) rfl ?_) rfl ?_) rfl ?_) rfl ?_
  all_goals
    intro v hv
    simp only [List.mem_cons, List.not_mem_nil, or_false] at hv
    rcases hv with q | q <;> omega
theorem five_rk {x y z w : Int} {due d : Nat} (k : RK.Rk (RK.two x y z w) 2 2 due) (hd : d < 4) : RK.Rk (RK.ent ((five x y z w).take (2 + d))) (2 + d) 2 due := by
  have gt : ∀ i l, i < 2 + d → RK.ent ((five x y z w).take (2 + d)) i l = RK.ent (five x y z w) i l := fun i l hi => by
    unfold RK.ent
    rw [List.getD_eq_getElem?_getD (l := List.take _ _), List.getElem?_take_of_lt hi, ← List.getD_eq_getElem?_getD]
  refine k.rows (fun i hi => ?_) (fun i hi => ⟨i, by omega, fun l hl => ?_⟩)
  · rcases (show i = 0 ∨ i = 1 ∨ i = 2 ∨ i = 3 ∨ i = 4 by omega) with e | e | e | e | e
    · refine ⟨0, 0, 0, by omega, by omega, fun l hl => ?_⟩
      rw [gt i l hi, e]
      rcases (show l = 0 ∨ l = 1 by omega) with q | q <;> subst q <;> simp [RK.ent, five, RK.two]
    · refine ⟨1, 0, 0, by omega, by omega, fun l hl => ?_⟩
      rw [gt i l hi, e]
      rcases (show l = 0 ∨ l = 1 by omega) with q | q <;> subst q <;> simp [RK.ent, five, RK.two]
    · refine ⟨0, 1, -1, by omega, by omega, fun l hl => ?_⟩
      rw [gt i l hi, e]
      rcases (show l = 0 ∨ l = 1 by omega) with q | q <;> subst q <;> simp [RK.ent, five, RK.two] <;> omega
    · refine ⟨1, 0, -1, by omega, by omega, fun l hl => ?_⟩
      rw [gt i l hi, e]
      rcases (show l = 0 ∨ l = 1 by omega) with q | q <;> subst q <;> simp [RK.ent, five, RK.two] <;> omega
    · refine ⟨0, 0, -1, by omega, by omega, fun l hl => ?_⟩
      rw [gt i l hi, e]
      rcases (show l = 0 ∨ l = 1 by omega) with q | q <;> subst q <;> simp [RK.ent, five, RK.two] <;> omega
  · rw [gt i l (by omega)]
    rcases (show i = 0 ∨ i = 1 by omega) with e | e <;> subst e <;> rcases (show l = 0 ∨ l = 1 by omega) with q | q <;> subst q <;> rfl
theorem mid_rk {T : List (List Int)} {m r : Nat} (hm : T.length = m) (k : RK.Rk (RK.ent T) m 2 r) : RK.Rk (RK.ent (T.map mid)) m 3 r := by
  have e : ∀ i, i < m → (T.map mid).getD i [] = mid (T.getD i []) := fun i hi => by
    rw [List.getD_eq_getElem?_getD, List.getElem?_map, getD_some (by omega)]
    rfl
  exact k.midcol (fun i hi => by unfold RK.ent; rw [e i hi]; rfl) (fun i hi => by unfold RK.ent; rw [e i hi]; rfl) (fun i hi => by unfold RK.ent; rw [e i hi]; rfl)
theorem ok_great (d : DefAt K mg "_law_great" sGreat) (dN : DefAt K mg "_law_near" sNear) (dS : DefAt K mg "_law_shuffled" sShuf) (dD : DefAt K mg "_law_draw" sDraw) (T : Bt mg) : FnOk P w K mg base CX0 3 d.f d.fd ["_law_hand_here"] spGreat := by
  have GD : FnOk P w K mg base CX0 1 dD.f dD.fd _ spDraw := ok_draw dD T
  have bD : Binds K dD.fd ["_law_hand_here", "_law_many"] [] := dD.F.binds fun _ _ _ _ _ _ us hl => match us, hl with | [_, _], _ => rfl
  have GS : FnOk P w K mg base CX0 2 dS.f dS.fd _ spShuf := ok_shuf dS dD T
  have bS : Binds K dS.fd ["_law_hand_here", "_law_things"] [] := dS.F.binds fun _ _ _ _ _ _ us hl => match us, hl with | [_, _], _ => rfl
  have GN : FnOk P w K mg base CX0 2 dN.f dN.fd _ spNear := ok_near dN dD T
  have bN : Binds K dN.fd ["_law_hand_here"] [] := dN.F.binds fun _ _ _ _ _ _ us hl => match us, hl with | [_], _ => rfl
  refine d.F.ok scGreat (fun vs H Q E h => ?_) (fun cdv A outer s H vs Q E hr h => ?_)
  · obtain ⟨h, c, rfl, _⟩ := h
    rfl
  · obtain ⟨h, c, rfl, hh, k⟩ := h
    have hr2 : Room 2 _ := hr
    have hr1 : Room 1 _ := Room.mono hr (by decide)
    refine ⟨_, (pss_cons (ps_asg (pe_call GN hr2 (by rfl) dN.g dN.F.kp bN .nil pass0 (pa_cons (pv 0) pa_nil)) (pg_unl (n := 2) rfl (pgs_cons (pg_name (i := 1) scGreat.nd rfl (Or.inr rfl)) (pgs_cons (pg_name (i := 2) scGreat.nd rfl (Or.inr rfl)) pgs_nil)))) (pss_cons (ps_set (i := 3) scGreat.nd rfl (Or.inl rfl) pe_int) (C8.pss_cut (ps_if (pt_cmpR op_eq (pe_call GD hr1 (by rfl) dD.g dD.F.kp bD .nil pass0 (pa_cons (pv 0) (pa_cons pe_int pa_nil))) pe_int (nomark _)) (pss_cons (ps_set (i := 4) scGreat.nd rfl (Or.inr rfl) (pe_op op_add pe_int (pe_call GD hr1 (by rfl) dD.g dD.F.kp bD .nil pass0 (pa_cons (pv 0) (pa_cons (pe_op op_fdiv (pe_op op_pow pe_int pe_int) (pe_callB (id := "max") (call_max3Nu rfl) (by rfl) T.max (by decide +kernel) (pa_cons pe_int (pa_cons (pe_ix ix_list (pv 1) pe_int (fun _ _ => rfl)) (pa_cons (pe_ix ix_list (pv 1) pe_int (fun _ _ => rfl)) pa_nil))))) pa_nil))))) (pss_cons (ps_set (i := 2) scGreat.nd rfl (Or.inr rfl) (pe_lc  (own := [("_law_number", 6)]) (g := gName 6) (tt := tYes) rfl scGreat.nd (pi_list (pv 1)) (blkOk_by (N := ["_law_hand_here", "_law_one", "_law_other", "_law_due", "_law_part", "_law_rows", "_law_number", "_law_k", "_law_row"]) (sc := defScope sGreat) (own := [("_law_number", 6)]) (by decide +kernel)) (fun _ _ _ _ _ => pg_name (i := 6) scGreat.nd rfl (Or.inl rfl)) (fun _ _ _ _ _ => pts_nil) (fun _ _ _ _ _ => (pe_op op_mul (pv 4) (pv 6))))) (pss_one (ps_set (i := 3) scGreat.nd rfl (Or.inl rfl) pe_int)))) pss_nil) (pss_cons (ps_set (i := 5) scGreat.nd rfl (Or.inl rfl) (pe_lst (pa_cons (pv 1) (pa_cons (pv 2) (pa_cons (pe_lc  (own := [("_law_k", 7)]) (g := gName 7) (tt := tYes) rfl scGreat.nd (pi_range1 (by rfl) T.range (pa_cons pe_int pa_nil)) (blkOk_by (N := ["_law_hand_here", "_law_one", "_law_other", "_law_due", "_law_part", "_law_rows", "_law_number", "_law_k", "_law_row"]) (sc := defScope sGreat) (own := [("_law_k", 7)]) (by decide +kernel)) (fun _ _ _ _ _ => pg_name (i := 7) scGreat.nd rfl (Or.inl rfl)) (fun _ _ _ _ _ => pts_nil) (fun _ _ _ _ _ => (pe_op op_sub (pe_ix (r := rIxL K) ix_list (pv 1) (pv 7) (fun _ _ => rfl)) (pe_ix (r := rIxL K) ix_list (pv 2) (pv 7) (fun _ _ => rfl))))) (pa_cons (pe_lc  (own := [("_law_k", 7)]) (g := gName 7) (tt := tYes) rfl scGreat.nd (pi_range1 (by rfl) T.range (pa_cons pe_int pa_nil)) (blkOk_by (N := ["_law_hand_here", "_law_one", "_law_other", "_law_due", "_law_part", "_law_rows", "_law_number", "_law_k", "_law_row"]) (sc := defScope sGreat) (own := [("_law_k", 7)]) (by decide +kernel)) (fun _ _ _ _ _ => pg_name (i := 7) scGreat.nd rfl (Or.inl rfl)) (fun _ _ _ _ _ => pts_nil) (fun _ _ _ _ _ => (pe_op op_sub (pe_ix (r := rIxL K) ix_list (pv 2) (pv 7) (fun _ _ => rfl)) (pe_ix (r := rIxL K) ix_list (pv 1) (pv 7) (fun _ _ => rfl))))) (pa_cons (pe_lst (pa_cons pe_int (pa_cons pe_int pa_nil))) pa_nil))))))) (pss_cons (ps_set (i := 5) scGreat.nd rfl (Or.inl rfl) (pe_slice sl_list (pv 5) po_none (po_some (pe_op op_add pe_int (pe_call GD hr1 (by rfl) dD.g dD.F.kp bD .nil pass0 (pa_cons (pv 0) (pa_cons pe_int pa_nil))))))) (pss_one (ps_ret (pe_tup (pa_cons (pe_lc  (own := [("_law_row", 8)]) (g := gName 8) (tt := tYes) rfl scGreat.nd (pi_list (pe_call GS hr2 (by rfl) dS.g dS.F.kp bS .nil pass0 (pa_cons (pv 0) (pa_cons (pv 5) pa_nil)))) (blkOk_by (N := ["_law_hand_here", "_law_one", "_law_other", "_law_due", "_law_part", "_law_rows", "_law_number", "_law_k", "_law_row"]) (sc := defScope sGreat) (own := [("_law_row", 8)]) (by decide +kernel)) (fun _ _ _ _ _ => pg_name (i := 8) scGreat.nd rfl (Or.inl rfl)) (fun _ _ _ _ _ => pts_nil) (fun _ _ _ _ _ => (pe_op op_cat (pe_op op_cat (pe_slice (r := rSlL K) sl_list (pv 8) po_none (po_some pe_int)) (pe_lst (pa_cons pe_int pa_nil))) (pe_slice (r := rSlL K) sl_list (pv 8) (po_some pe_int) po_none)))) (pa_cons (pv 3) pa_nil)))))))))), ?_⟩
    refine ⟨_, rfl, h, c, rfl, hh, fun t0 a b x y z0 w0 H0 sm0 hh0 nat nr th ah bh => ?_⟩
    obtain ⟨et, ea, eb⟩ := nat
    obtain ⟨dt, hx, hy, hz0, hw0⟩ := nr
    refine ⟨t0, _, rfl, SqL.of et, rfl, _, _, rfl, _, _, rfl, rfl, ?_⟩
    refine ⟨fun σ H' => ∃ (v4 : Option V) (b : Addr) (z w : Int) (due : Nat), σ = [some (.ref h), some (.ref a), some (.ref b), some (.int due), v4, none, none, none, none] ∧ SmX h H H' ∧ Hand H' h c ∧ H' a = some (.lst [.int x, .int y]) ∧ H' b = some (.lst [.int z, .int w]) ∧ b ≠ h ∧ (0 ≤ z ∧ z ≤ ten9) ∧ (0 ≤ w ∧ w ≤ ten9) ∧ RK.Rk (RK.two x y z w) 2 2 due, ?_, ?_⟩
    · refine ⟨_, rfl, h, c, _, rfl, hh0, by decide, by decide, fun d0 H1 _ _ sm1 hh1 => ⟨rfl, _, rfl, ite2 (fun _ => ?_) (fun _ => ?_)⟩⟩
      · have ea1 := sm1 _ _ ah ea
        obtain ⟨mz, emz⟩ := max3_some (x := x) (y := y)
        obtain ⟨mx, rfl, m1, mx1, my1, mb⟩ := max3_int emz hx.2 hy.2 (by decide)
        unfold ten9 at mb hx hy
        have e9 : (10 : Int) ^ (9 : Int).toNat = 1000000000 := by decide
        have q1 : (1000000000 : Int) / mx ≤ 1000000000 := Int.ediv_le_self _ (by decide)
        have q0 : 0 < (1000000000 : Int) / mx := by
          rw [Int.lt_iff_add_one_le, Int.le_ediv_iff_mul_le (by omega)]
          omega
        have q2 : (1000000000 : Int) / mx * mx ≤ 1000000000 := Int.ediv_mul_le _ (by omega)
        refine ⟨_, rfl, _, _, rfl, rfl, ⟨by decide, by decide, by decide⟩, _, rfl, a, _, 0, _, rfl, rfl, SqL.of ea1, rfl, _, rfl, a, _, 1, _, rfl, rfl, SqL.of ea1, rfl, _, _, _, _, rfl, emz, _, _, rfl, rfl, ⟨by omega, by omega⟩, ?_⟩
        rw [e9]
        refine ⟨h, c, _, rfl, hh1, q0, by omega, fun pt H2 p0 p1 sm2 hh2 => ⟨_, _, rfl, rfl, ?_⟩⟩
        have ea2 := sm2 _ _ ah ea1
        have bnd : ∀ v : Int, 0 ≤ v → v ≤ mx → 0 ≤ (1 + pt) * v ∧ (1 + pt) * v ≤ 1000000000 := fun v v0 v1 => by
          refine ⟨Int.mul_nonneg (by omega) v0, ?_⟩
          have u1 : (1 + pt) * v ≤ (1000000000 : Int) / mx * v := Int.mul_le_mul_of_nonneg_right (by omega) v0
          have u2 : (1000000000 : Int) / mx * v ≤ (1000000000 : Int) / mx * mx := Int.mul_le_mul_of_nonneg_left v1 (by omega)
          omega
        refine ⟨_, rfl, a, rfl, ⟨_, SqL.of ea2⟩, fun g ng => ?_⟩
        obtain ⟨gh, gc⟩ := hh2.ne ng
        refine lc_list (K := K) (a := a) (xs := [V.int x, V.int y]) (fun i H3 => Same H2 H3 ∧ H3 g = some (.lst ((([x, y] : List Int).take i).map fun v => V.int ((1 + pt) * v)))) ⟨same_upd ng, upd_same⟩ (fun i H3 _ q => SqL.of (q.1 _ _ ea2)) ?_ ?_
        · rintro i v H3 hv ⟨s3, eg⟩
          have hi : i < 2 := (List.getElem?_eq_some_iff.mp hv).1
          obtain ⟨u, eu, rfl⟩ : ∃ u, ([x, y] : List Int)[i]? = some u ∧ v = V.int u := by
            rcases (show i = 0 ∨ i = 1 by omega) with e | e <;> subst e
            · exact ⟨x, rfl, (Option.some.inj hv).symm⟩
            · exact ⟨y, rfl, (Option.some.inj hv).symm⟩
          refine ⟨rfl, _, rfl, _, rfl, _, _, rfl, rfl, .inl ⟨by omega, by omega⟩, _, eg, small1000 (by rw [List.length_map, List.length_take]; show min i 2 ≤ _; omega), same_put s3 ng, ?_⟩
          rw [upd_same, take_map eu]
        · rintro H3 ⟨s3, eg⟩
          refine ⟨_, g, (1 + pt) * x, (1 + pt) * y, 1, rfl, ((sm0.trans sm1).trans sm2).trans (.of s3), hh2.same s3, s3 _ _ ea2, eg, gh, bnd x hx.1 mx1, bnd y hy.1 my1, RK.Rk.multiple ?_⟩
          rcases Classical.em (x = 0) with e | e
          · refine .inr fun e' => ?_
            rw [e, e'] at dt
            omega
          · exact .inl e
      · exact ⟨_, b, z0, w0, 2, rfl, sm0.trans sm1, hh1, sm1 _ _ ah ea, sm1 _ _ bh eb, bh, hz0, hw0, RK.Rk.two (by omega)⟩
    · rintro σ H1 ⟨v4, b, z, w, due, rfl, sm1, hh1, ea, eb, bh, hz, hw, rk⟩
      refine ⟨_, rfl, _, rfl, ?_⟩
      refine ⟨2, rfl, by decide, by decide, fun g1 n1 => ?_⟩
      refine lc_range (lo := 0) (n := 2) (fun i H' => Same H1 H' ∧ H' g1 = some (.lst ((([x - z, y - w] : List Int).take i).map V.int))) ⟨same_upd n1, upd_same⟩ ?_ ?_
      · rintro i H' hi ⟨s', eg⟩
        obtain ⟨u, v, eu, ev, euv⟩ : ∃ u v : Int, ([V.int x, V.int y] : List V)[i]? = some (V.int u) ∧ ([V.int z, V.int w] : List V)[i]? = some (V.int v) ∧ ([x - z, y - w] : List Int)[i]? = some (u - v) := by
          rcases (show i = 0 ∨ i = 1 by omega) with e | e <;> subst e
          · exact ⟨x, z, rfl, rfl, rfl⟩
          · exact ⟨y, w, rfl, rfl, rfl⟩
        refine ⟨rfl, _, rfl, _, rfl, a, _, _, _, rfl, rfl, SqL.of (s' _ _ ea), at_of (j := i) (by omega) eu, _, rfl, _, rfl, b, _, _, _, rfl, rfl, SqL.of (s' _ _ eb), at_of (j := i) (by omega) ev, _, _, rfl, rfl, _, eg, small1000 (by rw [List.length_map, List.length_take]; show min i 2 ≤ _; omega), same_put s' n1, ?_⟩
        rw [upd_same, take_map euv]
      rintro H2 ⟨s2, eg1⟩
      refine ⟨2, rfl, by decide, by decide, fun g2 n2 => ?_⟩
      refine lc_range (lo := 0) (n := 2) (fun i H' => Same H2 H' ∧ H' g2 = some (.lst ((([z - x, w - y] : List Int).take i).map V.int))) ⟨same_upd n2, upd_same⟩ ?_ ?_
      · rintro i H' hi ⟨s', eg⟩
        obtain ⟨u, v, eu, ev, euv⟩ : ∃ u v : Int, ([V.int z, V.int w] : List V)[i]? = some (V.int u) ∧ ([V.int x, V.int y] : List V)[i]? = some (V.int v) ∧ ([z - x, w - y] : List Int)[i]? = some (u - v) := by
          rcases (show i = 0 ∨ i = 1 by omega) with e | e <;> subst e
          · exact ⟨z, x, rfl, rfl, rfl⟩
          · exact ⟨w, y, rfl, rfl, rfl⟩
        refine ⟨rfl, _, rfl, _, rfl, b, _, _, _, rfl, rfl, SqL.of (s' _ _ (s2 _ _ eb)), at_of (j := i) (by omega) eu, _, rfl, _, rfl, a, _, _, _, rfl, rfl, SqL.of (s' _ _ (s2 _ _ ea)), at_of (j := i) (by omega) ev, _, _, rfl, rfl, _, eg, small1000 (by rw [List.length_map, List.length_take]; show min i 2 ≤ _; omega), same_put s' n2, ?_⟩
        rw [upd_same, take_map euv]
      rintro H3 ⟨s3, eg2⟩
      refine ⟨(by show 2 ≤ sizeLine; decide), fun g3 n3 => ⟨(by show 5 ≤ sizeLine; decide), fun g4 n4 => ?_⟩⟩
      have s4 : Same H3 (upd H3 g3 (.lst [.int 0, .int 0])) := same_upd n3
      have s5 := s4.trans (same_upd (o := .lst [.ref a, .ref b, .ref g1, .ref g2, .ref g3]) n4)
      have g34 : g3 ≠ g4 := ne_of_none upd_same n4
      generalize hH4 : upd (upd H3 g3 (.lst [.int 0, .int 0])) g4 (.lst [.ref a, .ref b, .ref g1, .ref g2, .ref g3]) = H4 at s5
      have e4 : H4 g4 = some (.lst ([a, b, g1, g2, g3].map V.ref)) := by rw [← hH4]; exact upd_same
      have e3 : H4 g3 = some (.lst [.int 0, .int 0]) := by rw [← hH4, upd_ne g34]; exact upd_same
      have s14 := (s2.trans s3).trans s5
      have hh4 := hh1.same s14
      have rows4 : Rows H4 [a, b, g1, g2, g3] (five x y z w) := .cons (s14 _ _ ea) (.cons (s14 _ _ eb) (.cons (s5 _ _ (s3 _ _ eg1)) (.cons (s5 _ _ eg2) (.cons e3 .nil))))
      have g1h := (hh1.ne n1).1
      have g2h := (hh1.ne (s2.free n2)).1
      have g3h := (hh1.ne ((s2.trans s3).free n3)).1
      have g4h := (hh1.ne (((s2.trans s3).trans s4).free n4)).1
      have off : ∀ v, v ∈ [a, b, g1, g2, g3] → v ≠ h := fun v hv => by
        simp only [List.mem_cons, List.not_mem_nil, or_false] at hv
        rcases hv with e | e | e | e | e <;> rw [e] <;> assumption
      refine ⟨_, rfl, _, rfl, h, c, _, rfl, hh4, by decide, by decide, fun d5 H5 d50 d51 sm5 hh5 => ⟨_, _, rfl, rfl, _, rfl, g4, _, rfl, SqL.of (sm5 _ _ g4h e4), fun g5 n5 => ?_⟩⟩
      obtain ⟨j, rfl⟩ : ∃ j : Nat, d5 = (j : Int) := ⟨d5.toNat, by omega⟩
      rw [show (2 : Int) + (j : Int) = ((2 + j : Nat) : Int) by omega, cut_lo (d := 2 + j) (by show 2 + j ≤ 5; omega)]
      have g5h := (hh5.ne n5).1
      have s6 : Same H5 (upd H5 g5 (.lst (([a, b, g1, g2, g3].map V.ref).take (2 + j)))) := same_upd n5
      have rows6 := (rows4.imp fun v hv o e => s6 _ _ (sm5 _ _ (off v hv) e)).take (2 + j)
      refine ⟨_, rfl, _, rfl, h, c, g5, _, rfl, hh5.same s6, upd_same, g5h, by rw [List.length_take]; show min (2 + j) 5 ≤ _; omega, fun p H7 ys sm7 hh7 np ep pm => ?_⟩
      rw [← List.map_take] at pm
      obtain ⟨rs, T7, rfl, rows7, pT, sub⟩ := perm_rows rows6 pm
      have dm5 : Dims ((five x y z w).take (2 + j)) (2 + j) 2 ten9 := by
        have q := five_dims hx hy hz hw
        refine ⟨by rw [List.length_take, q.m]; omega, fun v hv => q.r v (List.mem_of_mem_take hv), fun v hv => q.q v (List.mem_of_mem_take hv)⟩
      have dm7 := dims_perm pT dm5
      have rk7 := rk_perm pT dm5.m (five_rk (d := j) rk (by omega))
      have ph := (hh5.ne (s6.free np)).1
      have rows7' : Rows H7 rs T7 := rows7.imp fun v hv o e => sm7 _ _ (off v (List.mem_of_mem_take (sub v hv))) e
      refine ⟨p, rfl, ⟨_, SqL.of ep⟩, fun t nt => ?_⟩
      refine lc_list (K := K) (a := p) (xs := rs.map V.ref) (fun i H' => Same H7 H' ∧ Grow H7 H' t ((T7.take i).map mid)) ⟨same_upd nt, .nil upd_same⟩ (fun i H' _ q => SqL.of (q.1 _ _ ep)) ?_ ?_
      · rintro i v H8 hv ⟨s8, gr⟩
        obtain ⟨a', rfl, ra, hi, ea'⟩ := rows7'.ref hv
        have ea8 := s8 _ _ ea'
        obtain ⟨u, v, er⟩ : ∃ u v, T7.getD i [] = [u, v] := by
          have q := (dm7.get (i := i) (by rw [← dm7.m]; exact hi)).1
          match T7.getD i [], q with
          | [u, v], _ => exact ⟨u, v, rfl⟩
        rw [er] at ea8
        refine ⟨rfl, _, rfl, _, rfl, a', _, rfl, SqL.of ea8, fun u1 m1 => ?_⟩
        rw [show cutV (([u, v] : List Int).map V.int) none (some 1) = [V.int u] from cut_lo (d := 1) (by show 1 ≤ 2; omega)]
        have q1 : Same H8 (upd H8 u1 (.lst [V.int u])) := same_upd m1
        refine ⟨(by show 1 ≤ sizeLine; decide), fun u2 m2 => ?_⟩
        have q2 := q1.trans (same_upd (o := .lst [V.int 0]) m2)
        have u12 : u1 ≠ u2 := ne_of_none upd_same m2
        refine ⟨u1, u2, _, _, rfl, rfl, (by rw [upd_ne u12]; exact upd_same), upd_same, (by show 2 ≤ sizeLine; decide), fun u3 m3 => ?_⟩
        have q3 := q2.trans (same_upd (o := .lst [V.int u, V.int 0]) m3)
        refine ⟨_, rfl, _, rfl, a', _, rfl, SqL.of (q3 _ _ ea8), fun u4 m4 => ?_⟩
        rw [show cutV (([u, v] : List Int).map V.int) (some 1) none = [V.int v] from cut_hi (d := 1) (by show 1 ≤ 2; omega)]
        have q4 := q3.trans (same_upd (o := .lst [V.int v]) m4)
        have u34 : u3 ≠ u4 := ne_of_none upd_same m4
        refine ⟨u3, u4, _, _, rfl, rfl, (by rw [upd_ne u34]; exact upd_same), upd_same, (by show 3 ≤ sizeLine; decide), fun u5 m5 => ?_⟩
        have q5 := q4.trans (same_upd (o := .lst [V.int u, V.int 0, V.int v]) m5)
        have m58 : H8 u5 = none := q4.free m5
        obtain ⟨acc, eac, la, gr2⟩ := gr.push (r := [u, 0, v]) (s8.free m58) m58 (gr.keepS q5) (fun rs e => q5 _ _ e) upd_same
        refine ⟨acc, eac, small1000 (by rw [la, List.length_map, List.length_take]; have := dm7.m; omega), same_put (s8.trans q5) nt, ?_⟩
        rw [take_map (getD_some hi), er]
        exact gr2
      · rintro H8 ⟨s8, gr⟩
        rw [List.length_map, rows7'.length, List.take_of_length_le (Nat.le_refl _)] at gr
        refine ⟨_, rfl, (by show 2 ≤ sizeLine; decide), fun pp npp => ?_⟩
        have s9 : Same H8 (upd H8 pp (.tup [V.ref t, V.int due])) := same_upd npp
        have th := (hh7.ne nt).1
        have smA : SmX h H (upd H8 pp (.tup [V.ref t, V.int due])) := (((sm1.trans (.of s14)).trans sm5).trans (.of s6)).trans ((sm7.trans (.of s8)).trans (.of s9))
        refine k pp t _ (2 + j) due _ smA ((hh7.same s8).same s9) upd_same ((gr.tab hh7.some th).keep (.of s9)) ⟨by rw [List.length_map]; exact dm7.m, fun v hv => ?_, fun v hv => ?_⟩ (by omega) (by omega) (mid_rk dm7.m rk7)
        · obtain ⟨r, _, rfl⟩ := List.mem_map.mp hv
          rfl
        · obtain ⟨r, hr', rfl⟩ := List.mem_map.mp hv
          have wr := dm7.q r hr'
          have lr := dm7.r r hr'
          intro u hu
          simp only [mid, List.mem_cons, List.not_mem_nil, or_false] at hu
          rcases hu with e | e | e
          · rw [e]; exact wr.get (by omega)
          · rw [e]; unfold ten9; omega
          · rw [e]; exact wr.get (by omega)
end
end Sa
namespace Sa
open PySem PyProof.Rows L2
section
variable {base : Heap} {mg : Str → Option Value} {w : World} {P : Program} {K : PySem.W.Frag}
/-! ### _law_determined -/
def PL : List Int := [2, 3, 65537, 998244353, 10 ^ (9 : Int).toNat - 63, 10 ^ (9 : Int).toNat + 7, 10 ^ (9 : Int).toNat + 9, 2 ^ (31 : Int).toNat - 1, 2 ^ (61 : Int).toNat - 1, 618970019642690137449562111]
theorem PL_mem {v : Int} (h : v ∈ PL) : 1 ≤ v ∧ v < 2 ^ 89 := by
  have q : ∀ v, v ∈ PL → 1 ≤ v ∧ v < 2 ^ 89 := by decide
  exact q v h
theorem PL_at {d : Int} (h0 : 0 ≤ d) (h1 : d < 10) : ∃ v, (PL.map V.int)[d.toNat]? = some (V.int v) ∧ 1 ≤ v ∧ v < 2 ^ 89 := by
  have hl : d.toNat < PL.length := by show d.toNat < 10; omega
  exact ⟨PL[d.toNat], by rw [List.getElem?_map, List.getElem?_eq_getElem hl]; rfl, PL_mem (List.getElem_mem hl)⟩
def line (n k : Nat) : List Int := List.replicate k 0 ++ [-ten9, 1] ++ List.replicate (n - 2 - k) 0
theorem line_get {n k j : Nat} (hk : k + 1 < n) (hj : j < n) : (line n k).getD j 0 = if j = k then -ten9 else if j = k + 1 then 1 else 0 := by
  unfold line
  rw [List.getD_eq_getElem?_getD, List.append_assoc]
  by_cases h1 : j < k
  · rw [List.getElem?_append_left (by rw [List.length_replicate]; exact h1), List.getElem?_replicate, if_pos h1, if_neg (by omega), if_neg (by omega)]
    rfl
  · rw [List.getElem?_append_right (by rw [List.length_replicate]; omega), List.length_replicate]
    by_cases h2 : j = k
    · rw [if_pos h2, h2, Nat.sub_self]
      rfl
    · rw [if_neg h2]
      by_cases h3 : j = k + 1
      · rw [if_pos h3, h3, show k + 1 - k = 1 by omega]
        rfl
      · rw [if_neg h3, List.getElem?_append_right (by show 2 ≤ _; omega), List.getElem?_replicate, if_pos (by show _ - 2 < _; omega)]
        rfl
theorem line_length {n k : Nat} (hk : k + 1 < n) : (line n k).length = n := by
  unfold line
  rw [List.length_append, List.length_append, List.length_replicate, List.length_replicate]
  show k + 2 + _ = n
  omega
def figT (n : Nat) (ds : List Int) (i : Nat) : List (List Int) := ds :: (List.range i).map (line n)
theorem figT_rk {n : Nat} {ds : List Int} (hn : 0 < n) (hV : RK.S n (fun j => ds.getD j 0 * ten9 ^ j) ≠ 0) : RK.Rk (RK.ent (figT n ds (n - 1))) n n n := by
  refine (RK.Rk.figs (a := fun j => ds.getD j 0) hn (by decide) hV).congr fun i hi j hj => ?_
  unfold RK.ent RK.figs
  match i, hi with
  | 0, _ => rfl
  | i + 1, hi =>
    have e : (figT n ds (n - 1)).getD (i + 1) [] = line n i := by
      show ((List.range (n - 1)).map (line n)).getD i [] = _
      rw [List.getD_eq_getElem?_getD, List.getElem?_map, List.getElem?_eq_getElem (by rw [List.length_range]; omega), List.getElem_range]
      rfl
    rw [e, line_get (by omega) hj, if_neg (show ¬ i + 1 = 0 by omega)]
    by_cases h : j = i
    · rw [if_pos h, if_pos (show j + 1 = i + 1 by omega)]
    · rw [if_neg h, if_neg (show ¬ j + 1 = i + 1 by omega)]
theorem figT_dims {n : Nat} {ds : List Int} (hl : ds.length = n) (hn : 0 < n) (hd : ∀ z, z ∈ ds → 0 ≤ z ∧ z < ten9) : Dims (figT n ds (n - 1)) n n ten9 := by
  refine ⟨?_, fun x hx => ?_, fun x hx => ?_⟩
  · show ((List.range (n - 1)).map (line n)).length + 1 = n
    simp only [List.length_range, List.length_map]
    omega
  · rcases List.mem_cons.mp hx with e | hx
    · rw [e, hl]
    · obtain ⟨k, hk, rfl⟩ := List.mem_map.mp hx
      have := List.mem_range.mp hk
      exact line_length (by omega)
  · rcases List.mem_cons.mp hx with e | hx
    · rw [e]
      intro z hz
      have q := hd z hz
      unfold ten9 at q ⊢
      omega
    · obtain ⟨k, hk, rfl⟩ := List.mem_map.mp hx
      have hk' := List.mem_range.mp hk
      refine within_get fun j hj => ?_
      rw [line_length (by omega)] at hj
      rw [line_get (by omega) hj]
      unfold ten9
      split
      · omega
      · split <;> omega
theorem flat0 (n : Nat) : (List.replicate n [V.int 0]).flatten = (List.replicate n (0 : Int)).map V.int := by
  rw [List.map_replicate]
  exact List.flatten_replicate_singleton
theorem S_push {ds : List Int} {v : Int} : RK.S ds.length (fun j => (ds ++ [v]).getD j 0 * ten9 ^ j) = RK.S ds.length (fun j => ds.getD j 0 * ten9 ^ j) := RK.S_congr fun j hj => by
  rw [List.getD_eq_getElem?_getD, List.getElem?_append_left hj, ← List.getD_eq_getElem?_getD]
def spDet : Sp := fun vs H Q _ => ∃ (h c : Addr), vs = [.ref h] ∧ Hand H h c ∧
  ∀ (p t : Addr) (H' : Hp) (n : Nat) (U : List (List Int)), SmX h H H' → Hand H' h c → H' p = some (.tup [.ref t, .int n]) → Tab h H' t U → Dims U n n ten9 → 1 ≤ n → n ≤ 7 → RK.Rk (RK.ent U) n n n → Q (.ref p) H'
theorem ok_det (d : DefAt K mg "_law_determined" sDet) (dD : DefAt K mg "_law_draw" sDraw) (T : Bt mg) : FnOk P w K mg base CX0 2 d.f d.fd ["_law_hand_here"] spDet := by
  have GD : FnOk P w K mg base CX0 1 dD.f dD.fd _ spDraw := ok_draw dD T
  have bD : Binds K dD.fd ["_law_hand_here", "_law_many"] [] := dD.F.binds fun _ _ _ _ _ _ us hl => match us, hl with | [_, _], _ => rfl
  refine d.F.ok scDet (fun vs H Q E h => ?_) (fun cdv A outer s H vs Q E hr h => ?_)
  · obtain ⟨h, c, rfl, _⟩ := h
    rfl
  · obtain ⟨h, c, rfl, hh, k⟩ := h
    have hr1 : Room 1 _ := hr
    have e9 : (10 : Int) ^ (9 : Int).toNat = 1000000000 := by decide
    refine ⟨_, (pss_cons (ps_set (i := 1) scDet.nd rfl (Or.inl rfl) (pe_lst (pa_cons pe_int (pa_cons pe_int (pa_cons pe_int (pa_cons pe_int (pa_cons (pe_op op_sub (pe_op op_pow pe_int pe_int) pe_int) (pa_cons (pe_op op_add (pe_op op_pow pe_int pe_int) pe_int) (pa_cons (pe_op op_add (pe_op op_pow pe_int pe_int) pe_int) (pa_cons (pe_op op_sub (pe_op op_pow pe_int pe_int) pe_int) (pa_cons (pe_op op_sub (pe_op op_pow pe_int pe_int) pe_int) pa_nil))))))))))) (pss_cons (ps_set (i := 1) scDet.nd rfl (Or.inl rfl) (pe_op op_cat (pv 1) (pe_lst (pa_cons pe_int pa_nil)))) (pss_cons (ps_set (i := 2) scDet.nd rfl (Or.inl rfl) (pe_call GD hr1 (by rfl) dD.g dD.F.kp bD .nil pass0 (pa_cons (pv 0) (pa_cons pe_int pa_nil)))) (pss_cons (ps_set (i := 3) scDet.nd rfl (Or.inl rfl) (pe_ix ix_list (pv 1) (pe_call GD hr1 (by rfl) dD.g dD.F.kp bD .nil pass0 (pa_cons (pv 0) (pa_cons (pe_callB call_len_seq (by rfl) T.len PySem.boot_len (pa_cons (pv 1) pa_nil)) pa_nil))) (fun _ _ => rfl))) (C8.pss_cut (ps_if (pt_cmpR op_eq (pv 2) pe_int (nomark _)) (pss_one (ps_set (i := 3) scDet.nd rfl (Or.inl rfl) (pe_op op_mulW (pv 3) (pe_ix ix_list (pv 1) (pe_call GD hr1 (by rfl) dD.g dD.F.kp bD .nil pass0 (pa_cons (pv 0) (pa_cons (pe_callB call_len_seq (by rfl) T.len PySem.boot_len (pa_cons (pv 1) pa_nil)) pa_nil))) (fun _ _ => rfl))))) pss_nil) (C8.pss_cut (ps_if (pt_cmpR op_eq (pv 2) pe_int (nomark _)) (pss_cons (ps_set (i := 3) scDet.nd rfl (Or.inl rfl) pe_int) (pss_cons (ps_for PassesOwn.never rfl (pi_range1 (by rfl) T.range (pa_cons (pe_op op_add pe_int (pe_call GD hr1 (by rfl) dD.g dD.F.kp bD .nil pass0 (pa_cons (pv 0) (pa_cons pe_int pa_nil)))) pa_nil)) (pg_name (i := 4) scDet.nd rfl (Or.inl rfl)) (pss_one (ps_set (i := 3) scDet.nd rfl (Or.inl rfl) (pe_op op_add (pe_op op_mul (pv 3) (pe_op op_pow pe_int pe_int)) (pe_call GD hr1 (by rfl) dD.g dD.F.kp bD .nil pass0 (pa_cons (pv 0) (pa_cons (pe_op op_pow pe_int pe_int) pa_nil))))))) (pss_one (ps_set (i := 3) scDet.nd rfl (Or.inl rfl) (pe_callB (id := "max") (call_max2 rfl) (by rfl) T.max (by decide +kernel) (pa_cons pe_int (pa_cons (pv 3) pa_nil))))))) pss_nil) (pss_cons (ps_set (i := 5) scDet.nd rfl (Or.inl rfl) (pe_lst (pa_cons (pe_lst pa_nil) pa_nil))) (pss_cons (ps_for PassesOwn.never rfl (pi_range1 (by rfl) T.range (pa_cons pe_int pa_nil)) (pg_name (i := 4) scDet.nd rfl (Or.inl rfl)) (pss_one (ps_if (pt_cmpR op_gt (pv 3) pe_int (nomark _)) (pss_cons (ps_expr (pe_bm PySem.F.plainAttrs_list PySem.F.slot_list_append PySem.F.type_list_append mt_append (pe_ix ix_list (pv 5) pe_int (fun _ _ => rfl)) (pa_cons (pe_op op_mod (pe_callTy call_int1 (by rfl) T.int (by decide +kernel) (pa_cons (pv 3) pa_nil)) (pe_op op_pow pe_int pe_int)) pa_nil))) (pss_one (ps_set (i := 3) scDet.nd rfl (Or.inl rfl) (pe_op op_fdiv (pv 3) (pe_op op_pow pe_int pe_int))))) pss_nil))) (pss_cons (ps_set (i := 6) scDet.nd rfl (Or.inl rfl) (pe_callB call_len_seq (by rfl) T.len PySem.boot_len (pa_cons (pe_ix ix_list (pv 5) pe_int (fun _ _ => rfl)) pa_nil))) (pss_cons (ps_for PassesOwn.never rfl (pi_range1 (by rfl) T.range (pa_cons (pe_op op_sub (pv 6) pe_int) pa_nil)) (pg_name (i := 7) scDet.nd rfl (Or.inl rfl)) (pss_one (ps_expr (pe_bm PySem.F.plainAttrs_list PySem.F.slot_list_append PySem.F.type_list_append mt_append (pv 5) (pa_cons (pe_op op_cat (pe_op op_cat (pe_op op_rep (pe_lst (pa_cons pe_int pa_nil)) (pv 7)) (pe_lst (pa_cons (pe_un un_neg (pe_op op_pow pe_int pe_int)) (pa_cons pe_int pa_nil)))) (pe_op op_rep (pe_lst (pa_cons pe_int pa_nil)) (pe_op op_sub (pe_op op_sub (pv 6) pe_int) (pv 7)))) pa_nil))))) (pss_one (ps_ret (pe_tup (pa_cons (pv 5) (pa_cons (pv 6) pa_nil))))))))))))))), ?_⟩
    refine ⟨_, _, rfl, rfl, ⟨by decide, by decide, by decide⟩, _, _, rfl, rfl, _, _, rfl, rfl, ⟨by decide, by decide, by decide⟩, _, _, rfl, rfl, _, _, rfl, rfl, ⟨by decide, by decide, by decide⟩, _, _, rfl, rfl, _, _, rfl, rfl, ⟨by decide, by decide, by decide⟩, _, _, rfl, rfl, _, _, rfl, rfl, ⟨by decide, by decide, by decide⟩, _, _, rfl, rfl, (by show 9 ≤ sizeLine; decide), fun g1 n1 => ?_⟩
    refine ⟨_, rfl, (by show 1 ≤ sizeLine; decide), fun g2 n2 => ?_⟩
    have g12 : g1 ≠ g2 := ne_of_none upd_same n2
    refine ⟨g1, g2, _, _, rfl, rfl, (by rw [upd_ne g12]; exact upd_same), upd_same, (by show 10 ≤ sizeLine; decide), fun p np => ?_⟩
    have s1 := (same_upd (o := .lst [.int 2, .int 3, .int 65537, .int 998244353, .int (10 ^ (9 : Int).toNat - 63), .int (10 ^ (9 : Int).toNat + 7), .int (10 ^ (9 : Int).toNat + 9), .int (2 ^ (31 : Int).toNat - 1), .int (2 ^ (61 : Int).toNat - 1)]) n1).trans (same_upd (o := .lst [.int 618970019642690137449562111]) n2)
    have ph : p ≠ h := (hh.ne (s1.free np)).1
    have s2 := s1.trans (same_upd (o := .lst (PL.map V.int)) np)
    generalize hH1 : upd _ p _ = H1
    have hH1' : upd (upd (upd H g1 (.lst [.int 2, .int 3, .int 65537, .int 998244353, .int (10 ^ (9 : Int).toNat - 63), .int (10 ^ (9 : Int).toNat + 7), .int (10 ^ (9 : Int).toNat + 9), .int (2 ^ (31 : Int).toNat - 1), .int (2 ^ (61 : Int).toNat - 1)])) g2 (.lst [.int 618970019642690137449562111])) p (.lst (PL.map V.int)) = H1 := hH1
    rw [hH1'] at s2
    have ep : H1 p = some (.lst (PL.map V.int)) := by rw [← hH1']; exact upd_same
    clear hH1 hH1'
    have hh1 := hh.same s2
    refine ⟨_, rfl, h, c, _, rfl, hh1, by decide, by decide, fun wy H2 _ _ sm2 hh2 => ?_⟩
    have ep2 := sm2 _ _ ph ep
    refine ⟨_, rfl, _, rfl, _, rfl, p, _, rfl, .inl (SqL.of ep2), h, c, _, rfl, hh2, by show (0 : Int) < 10; decide, by show (10 : Int) < _; decide, fun d3 H3 d30 d31 sm3 hh3 => ?_⟩
    obtain ⟨v, ev, v1, v2⟩ := PL_at d30 d31
    have ep3 := sm3 _ _ ph ep2
    refine ⟨p, _, d3, _, rfl, rfl, SqL.of ep3, at_of (j := d3.toNat) (by omega) ev, ?_⟩
    have sH3 : SmX h H H3 := ((SmX.of s2).trans sm2).trans sm3
    refine ⟨fun σ H' => ∃ N : Int, σ = [some (.ref h), some (.ref p), some (.int wy), some (.int N), none, none, none, none] ∧ SmX h H H' ∧ Hand H' h c ∧ H' p = some (.lst (PL.map V.int)) ∧ 1 ≤ N ∧ N < 2 ^ 178, ?_, ?_⟩
    · refine ⟨_, rfl, rfl, _, rfl, ite2 (fun _ => ?_) (fun _ => ⟨v, rfl, sH3, hh3, ep3, v1, by omega⟩)⟩
      refine ⟨_, rfl, _, rfl, _, rfl, _, rfl, p, _, rfl, .inl (SqL.of ep3), h, c, _, rfl, hh3, by show (0 : Int) < 10; decide, by show (10 : Int) < _; decide, fun d4 H4 d40 d41 sm4 hh4 => ?_⟩
      obtain ⟨u, eu, u1, u2⟩ := PL_at d40 d41
      have ep4 := sm4 _ _ ph ep3
      refine ⟨p, _, d4, _, rfl, rfl, SqL.of ep4, at_of (j := d4.toNat) (by omega) eu, _, _, rfl, rfl, wide_mul (a := 89) (b := 89) (by omega) (by omega) (by decide) (by decide) (by decide), v * u, rfl, sH3.trans sm4, hh4, ep4, ?_, ?_⟩
      · have := Int.mul_pos (show 0 < v by omega) (show 0 < u by omega)
        omega
      · have q1 := Int.mul_lt_mul_of_pos_right v2 (show 0 < u by omega)
        have q2 := Int.mul_lt_mul_of_pos_left u2 (show (0 : Int) < 2 ^ 89 by decide)
        have q3 : (2 : Int) ^ 89 * 2 ^ 89 = 2 ^ 178 := by decide
        omega
    rintro σ H4 ⟨N4, rfl, sm4, hh4, ep4, N40, N41⟩
    refine ⟨fun σ H' => ∃ (v4 : Option V) (N : Int), σ = [some (.ref h), some (.ref p), some (.int wy), some (.int N), v4, none, none, none] ∧ SmX h H H' ∧ Hand H' h c ∧ 1 ≤ N ∧ N < ten9 ^ 7, ?_, ?_⟩
    · refine ⟨_, rfl, rfl, _, rfl, ite2 (fun _ => ?_) (fun _ => ⟨_, N4, rfl, sm4, hh4, N40, Int.lt_trans N41 (by decide)⟩)⟩
      refine ⟨_, rfl, h, c, _, rfl, hh4, by decide, by decide, fun e5 H5 e50 e51 sm5 hh5 => ?_⟩
      obtain ⟨j, rfl⟩ : ∃ j : Nat, e5 = (j : Int) := ⟨e5.toNat, by omega⟩
      refine ⟨_, _, rfl, rfl, ((1 + j : Nat) : Int), congrArg (fun z => [V.int z]) (show (1 : Int) + (j : Int) = ((1 + j : Nat) : Int) by omega), by omega, by omega, for_range (lo := 0) (n := 1 + j) (fun i σ H' => ∃ (v4 : Option V) (N : Int), σ = [some (.ref h), some (.ref p), some (.int wy), some (.int N), v4, none, none, none] ∧ SmX h H H' ∧ Hand H' h c ∧ 0 ≤ N ∧ N < ten9 ^ i)
        ⟨_, 0, rfl, sm4.trans sm5, hh5, by decide, by decide⟩ ?_ ?_⟩
      · rintro i σ H6 hi ⟨v4, N, rfl, sm6, hh6, N0, N1⟩
        refine ⟨_, rfl, _, _, rfl, rfl, ⟨by decide, by decide, by decide⟩, _, _, rfl, rfl, .inr ⟨by rw [e9]; decide, by rw [e9]; decide⟩, _, rfl, _, _, rfl, rfl, ⟨by decide, by decide, by decide⟩, h, c, _, rfl, hh6, by rw [e9]; decide, by rw [e9]; decide, fun z H7 z0 z1 sm7 hh7 => ⟨_, _, rfl, rfl, _, _, rfl, sm6.trans sm7, hh7, ?_, ?_⟩⟩
        · rw [e9]
          omega
        · rw [e9] at z1 ⊢
          rw [Int.pow_succ]
          unfold ten9 at N1 ⊢
          omega
      · rintro σ H6 ⟨v4, N, rfl, sm6, hh6, N0, N1⟩
        refine ⟨_, rfl, _, _, rfl, _, _, rfl, sm6, hh6, ?_, ?_⟩
        · split <;> omega
        · have q : ten9 ^ (1 + j) ≤ ten9 ^ 7 := by
            rcases (show j = 0 ∨ j = 1 ∨ j = 2 ∨ j = 3 ∨ j = 4 ∨ j = 5 by omega) with e | e | e | e | e | e <;> subst e <;> decide
          have q1 : (1 : Int) < ten9 ^ 7 := by decide
          split <;> omega
    rintro σ H5 ⟨v4, N, rfl, sm5, hh5, N0, N1⟩
    refine ⟨(by show 0 ≤ sizeLine; decide), fun g ng => ⟨(by show 1 ≤ sizeLine; decide), fun t nt => ?_⟩⟩
    have gt : g ≠ t := ne_of_none upd_same nt
    have s6 : Same H5 (upd H5 g (.lst [])) := same_upd ng
    have s7 := s6.trans (same_upd (o := .lst [.ref g]) nt)
    have gh := (hh5.ne ng).1
    have nt5 := s6.free nt
    have th := (hh5.ne nt5).1
    generalize hH6 : upd (upd H5 g (.lst [])) t (.lst [.ref g]) = H6 at s7
    have eg6 : H6 g = some (.lst (([] : List Int).map V.int)) := by rw [← hH6, upd_ne gt]; exact upd_same
    have et6 : H6 t = some (.lst [.ref g]) := by rw [← hH6]; exact upd_same
    refine ⟨7, rfl, by decide, by decide, for_range (lo := 0) (n := 7) (fun i σ H' => ∃ (v4 : Option V) (M : Int) (ds : List Int), σ = [some (.ref h), some (.ref p), some (.int wy), some (.int M), v4, some (.ref t), none, none] ∧ SmX h H5 H' ∧ Hand H' h c ∧ H' t = some (.lst [.ref g]) ∧ H' g = some (.lst (ds.map V.int)) ∧ ds.length ≤ i ∧ 0 ≤ M ∧ M < ten9 ^ (7 - i) ∧ (∀ z, z ∈ ds → 0 ≤ z ∧ z < ten9) ∧ N = RK.S ds.length (fun j => ds.getD j 0 * ten9 ^ j) + M * ten9 ^ ds.length)
      ⟨_, N, [], rfl, .of s7, hh5.same s7, et6, eg6, Nat.le_refl _, by omega, N1, fun _ hz => (nomatch hz), by show N = 0 + N * 1; omega⟩ ?_ ?_⟩
    · rintro i σ H7 hi ⟨v4, M, ds, rfl, sm7, hh7, et, eg, ld, M0, M1, wd, eN⟩
      refine ⟨_, rfl, _, _, rfl, rfl, _, rfl, ite2 (fun hp => ?_) (fun hn => ?_)⟩
      · have hM : 0 < M := of_decide_eq_true hp
        refine ⟨_, rfl, t, _, 0, _, rfl, rfl, SqL.of et, rfl, .inl ⟨rfl, _, SqL.of eg⟩, _, rfl, .inl ⟨_, rfl, _, _, rfl, rfl, ⟨by decide, by decide, by decide⟩, _, _, rfl, rfl, (by show (0 : Int) < 10 ^ (9 : Int).toNat; rw [e9]; decide), ?_⟩⟩
        refine ⟨g, _, _, rfl, rfl, eg, small1000 (by rw [List.length_map]; omega), _, rfl, _, _, rfl, rfl, ⟨by decide, by decide, by decide⟩, _, _, rfl, rfl, ⟨by rw [e9]; decide, by rw [e9]; decide⟩, ?_⟩
        rw [e9]
        have r0 := Int.emod_nonneg M (show (1000000000 : Int) ≠ 0 by decide)
        have r1 := Int.emod_lt_of_pos M (show (0 : Int) < 1000000000 by decide)
        have r2 := Int.emod_add_mul_ediv M 1000000000
        refine ⟨_, _, ds ++ [M % 1000000000], rfl, sm7.put ng, hh7.off gh (hh5.ne ng).2, by rw [upd_ne (Ne.symm gt)]; exact et, ?_, by rw [List.length_append]; show _ + 1 ≤ _; omega, Int.ediv_nonneg M0 (by decide), ?_, fun z hz => ?_, ?_⟩
        · rw [upd_same, List.map_append]
          rfl
        · refine Int.ediv_lt_of_lt_mul (by decide) ?_
          have q : ten9 ^ (7 - i) = ten9 ^ (7 - (i + 1)) * 1000000000 := by
            rw [show 7 - i = 7 - (i + 1) + 1 by omega, Int.pow_succ]
          rw [← q]
          exact M1
        · rcases List.mem_append.1 hz with hz | hz
          · exact wd z hz
          · rw [List.mem_singleton.1 hz]
            exact ⟨r0, r1⟩
        · rw [List.length_append]
          show N = (RK.S ds.length (fun j => (ds ++ [M % 1000000000]).getD j 0 * ten9 ^ j) + (ds ++ [M % 1000000000]).getD ds.length 0 * ten9 ^ ds.length) + _ * ten9 ^ (ds.length + 1)
          rw [S_push, List.getD_eq_getElem?_getD (l := ds ++ _), List.getElem?_append_right (Nat.le_refl _), Nat.sub_self]
          show N = (_ + M % 1000000000 * ten9 ^ ds.length) + M / 1000000000 * ten9 ^ (ds.length + 1)
          rw [eN, Int.pow_succ]
          generalize RK.S ds.length _ = z
          unfold ten9
          grind
      · have hM : ¬ 0 < M := fun e => hn (decide_eq_true e)
        exact ⟨_, M, ds, rfl, sm7, hh7, et, eg, by omega, M0, by
          have := Int.pow_pos (n := ten9) (m := 7 - (i + 1)) (by decide)
          omega, wd, eN⟩
    rintro σ H7 ⟨v4', M, ds, rfl, sm7, hh7, et, eg, ld, M0, M1, wd, eN⟩
    have hM : M = 0 := by
      have q : M < 1 := M1
      omega
    rw [hM, Int.zero_mul, Int.add_zero] at eN
    have hn : 0 < ds.length := by
      rcases Nat.eq_zero_or_pos ds.length with e | e
      · rw [e] at eN
        have q : N = 0 := eN
        omega
      · exact e
    generalize hnn : ds.length = n at ld eN hn
    have ldV : (ds.map V.int).length = n := by rw [List.length_map, hnn]
    refine ⟨_, rfl, t, _, 0, _, rfl, rfl, SqL.of et, rfl, g, _, rfl, .inl (SqL.of eg), ?_⟩
    rw [ldV]
    have gr7 : Grow H5 H7 t (figT n ds 0) := ⟨[g], et, .cons eg .nil, List.nodup_cons.mpr ⟨List.not_mem_nil, .nil⟩, fun a ha => by rw [List.mem_singleton.1 ha]; exact ⟨ng, gt⟩⟩
    refine ⟨_, rfl, _, _, rfl, rfl, ((n - 1 : Nat) : Int), congrArg (fun z => [V.int z]) (show (n : Int) - 1 = ((n - 1 : Nat) : Int) by omega), by omega, by omega, for_range (lo := 0) (n := n - 1) (fun i σ H' => ∃ (v7 : Option V), σ = [some (.ref h), some (.ref p), some (.int wy), some (.int M), v4', some (.ref t), some (.int n), v7] ∧ SmX h H5 H' ∧ Hand H' h c ∧ Grow H5 H' t (figT n ds i))
      ⟨_, rfl, sm7, hh7, gr7⟩ ?_ ?_⟩
    · rintro i σ H8 hi ⟨v7, rfl, sm8, hh8, gr⟩
      have et8 := gr
      obtain ⟨rs8, et8, _⟩ := et8
      refine ⟨_, rfl, .inl ⟨rfl, _, SqL.of et8⟩, (by show 1 ≤ sizeLine; decide), fun u1 m1 => ?_⟩
      have q1 : Same H8 (upd H8 u1 (.lst [.int 0])) := same_upd m1
      refine ⟨_, rfl, u1, _, _, rfl, rfl, upd_same, by omega, by omega, Nat.le_of_lt (small1000 (by show 1 * (Int.toNat _) ≤ 1000; omega)), fun u2 m2 => ?_⟩
      rw [show ((0 : Int) + (i : Int)).toNat = i by omega, flat0]
      have q2 := q1.trans (same_upd (o := .lst ((List.replicate i (0 : Int)).map V.int)) m2)
      refine ⟨_, _, rfl, rfl, ⟨by decide, by decide, by decide⟩, _, rfl, (by show 2 ≤ sizeLine; decide), fun u3 m3 => ?_⟩
      have u23 : u2 ≠ u3 := ne_of_none upd_same m3
      have q3 := q2.trans (same_upd (o := .lst [.int (-(10 ^ (9 : Int).toNat)), .int 1]) m3)
      refine ⟨u2, u3, _, _, rfl, rfl, (by rw [upd_ne u23]; exact upd_same), upd_same, Nat.le_of_lt (small1000 (by rw [List.length_map, List.length_replicate]; show i + 2 ≤ 1000; omega)), fun u4 m4 => ?_⟩
      have q4 := q3.trans (same_upd (o := .lst ((List.replicate i (0 : Int)).map V.int ++ [.int (-(10 ^ (9 : Int).toNat)), .int 1])) m4)
      refine ⟨(by show 1 ≤ sizeLine; decide), fun u5 m5 => ?_⟩
      have q5 := q4.trans (same_upd (o := .lst [.int 0]) m5)
      have u45 : u4 ≠ u5 := ne_of_none upd_same m5
      refine ⟨_, rfl, _, _, rfl, rfl, _, rfl, _, _, rfl, rfl, u5, _, _, rfl, rfl, upd_same, by omega, by omega, Nat.le_of_lt (small1000 (by show 1 * (Int.toNat _) ≤ 1000; omega)), fun u6 m6 => ?_⟩
      rw [show ((n : Int) - 2 - (0 + (i : Int))).toNat = n - 2 - i by omega, flat0]
      have u46 : u4 ≠ u6 := ne_of_none (by rw [upd_ne u45]; exact upd_same) m6
      have q6 := q5.trans (same_upd (o := .lst ((List.replicate (n - 2 - i) (0 : Int)).map V.int)) m6)
      refine ⟨u4, u6, _, _, rfl, rfl, (by rw [upd_ne u46, upd_ne u45]; exact upd_same), upd_same, Nat.le_of_lt (small1000 (by rw [List.length_append, List.length_map, List.length_map, List.length_replicate, List.length_replicate]; show i + 2 + (n - 2 - i) ≤ 1000; omega)), fun u7 m7 => ?_⟩
      have q7 := q6.trans (same_upd (o := .lst ((List.replicate i (0 : Int)).map V.int ++ [.int (-(10 ^ (9 : Int).toNat)), .int 1] ++ (List.replicate (n - 2 - i) (0 : Int)).map V.int)) m7)
      have m78 := q6.free m7
      have eL : ((List.replicate i (0 : Int)).map V.int ++ [.int (-(10 ^ (9 : Int).toNat)), .int 1] ++ (List.replicate (n - 2 - i) (0 : Int)).map V.int) = (line n i).map V.int := by
        unfold line
        rw [List.map_append, List.map_append]
        rfl
      rw [eL] at q7 ⊢
      have u7h := (hh8.ne m78).1
      obtain ⟨acc, eac, la, gr2⟩ := gr.push (r := line n i) (sm8.free u7h m78) m78 (gr.keepS q7) (fun rs e => q7 _ _ e) upd_same
      refine ⟨t, acc, .ref u7, rfl, rfl, eac, small1000 (by
        rw [la]
        show ((List.range i).map (line n)).length + 1 ≤ 1000
        simp only [List.length_range, List.length_map]
        omega), _, rfl, (sm8.trans (.of q7)).put nt5, (hh8.same q7).off th (hh5.ne nt5).2, ?_⟩
      have e2 : figT n ds (i + 1) = figT n ds i ++ [line n i] := by
        unfold figT
        rw [range_map]
        rfl
      rw [e2]
      exact gr2
    · rintro σ H8 ⟨v7, rfl, sm8, hh8, gr⟩
      refine ⟨_, rfl, _, rfl, (by show 2 ≤ sizeLine; decide), fun pp npp => ?_⟩
      have s9 : Same H8 (upd H8 pp (.tup [V.ref t, V.int n])) := same_upd npp
      exact k pp t _ n _ ((sm5.trans sm8).trans (.of s9)) (hh8.same s9) upd_same ((gr.tab hh5.some th).keep (.of s9)) (figT_dims hnn hn wd) hn ld (figT_rk hn (by omega))
end
end Sa
namespace Sa
open PySem PyProof.Rows L2
section
variable {base : Heap} {mg : Str → Option Value} {w : World} {P : Program} {K : PySem.W.Frag}
/-! ### a call that stands within no display: its promise may ask that nothing is being shown -/
structure FnG (P : Program) (w : World) (K : PySem.W.Frag) (mg : Str → Option Value) (base : Heap) (k : Nat) (f : Addr) (fd : FuncData) (ps : List Str) (sp : Sp) : Prop where
  size : ∀ vs H Q E, sp vs H Q E → vs.length = ps.length
  go : ∀ (A : Around) (fr : List Env) (z : Shared) (H : Hp) (ar : Args) (us : List Value) (vs : List V) (Q : VK) (E : XK), A.guards = some [] → Room k A → Env0 P w K mg base A fr z H → BindsTo z fd ar (ps.zip us) → Vals vs us → sp vs H Q E →
    codeAny (model P w) A (.call (.ref f) ar) (CR CX0 fr P w H z Q E) z
/-- the rule for such a def -/
theorem fnG {x qual : Str} {st : Stmt} {f : Addr} {fd : FuncData} {N ps : List Str} {k : Nat} {sp : Sp} (F : Fun K x qual st f fd) (SC : FnScope N ps (defScope st)) (sz : ∀ vs H Q E, sp vs H Q E → vs.length = ps.length)
    (body : ∀ (cd : Value) (A : Around) (fr : List Env) (z : Shared) (H : Hp) (vs : List V) (Q : VK) (E : XK), A.guards = some [] → Room k (A.deeper (envOfC qual (defScope st) z.heap.objs.size f cd)) → sp vs H Q E →
      ∃ t, PSs (cxOf CX0 P w K mg base N qual (defScope st) f cd A fr z H E).nox (defBody st) t ∧ t { nx := fun _ H' => Q .non H', rt := Q } (start N vs) H) : FnG P w K mg base (k + 1) f fd ps sp := by
  obtain ⟨cls, own, kwd, docs, mo, ann, cd, cty, slo, rfl, look, code⟩ := F.ex
  refine ⟨sz, fun A fr z H ar us vs Q E gd room env bind vals prom => ?_⟩
  have lens := sz _ _ _ _ prom
  have kin : K.In z.heap := env.mod.kin.keeps fun q o e => (env.bs q o e).1
  have nol : z.heap.NoLimit := env.mod.nolimit.keeps fun q o e => (env.bs q o e).1
  have kinds : ∀ y ∈ ps.zip us, (defScope st).names.lookup y.1 = some .local ∨ ((defScope st).names.lookup y.1 = some .cell ∧ ((cellsFrom (z.heap.objs.size + 1) (defScope st).names []).lookup y.1).isSome = true) := fun y hy => by
    obtain ⟨nm, vl⟩ := y
    exact (SC.par nm (List.of_mem_zip hy).1).imp id fun q => ⟨q, PySem.W.cellsFrom_some _ _ _ (.inl q)⟩
  refine codeAny_call_function room.depth (kin _ _ look) rfl SC.co SC.gen rfl (PySem.W.codeRec_of kin code) (bind _ _ _ _ ?_)
  refine wpAny_newFunctionEnv_cells SC.kind kinds fun en hen z1 cc => ?_
  subst hen
  refine ⟨nol.keeps cc.toInCall.keep, codeAny_func ?_⟩
  obtain ⟨t, ht, hq⟩ := body cd A fr z H vs Q E gd (room.deeper _) prom
  have J0 : Inv (cxOf CX0 P w K mg base N qual (defScope st) f cd A fr z H E) [] (start N vs) H z1 := inv_start SC room.hd env lens vals cc
  refine wpAny_mono (ht.nox.run [] z1 (start N vs) H _ J0 hq) (fun out z2 fin => ?_) fun e z2 hx => hx
  cases out with
  | ret u =>
    obtain ⟨v, σ2, H2, J, rel, q⟩ := fin
    exact ⟨v, H2, J.os, J.bare, J.base, J.hok, rel, q⟩
  | next =>
    obtain ⟨σ2, H2, J, q⟩ := fin
    exact ⟨V.non, H2, J.os, J.bare, J.base, J.hok, rfl, q⟩
  | brk =>
    obtain ⟨_, _, _, no⟩ := fin
    exact no.elim
  | cont =>
    obtain ⟨_, _, _, no⟩ := fin
    exact no.elim
section
variable {X : Cx} {k : Nat} {f : Addr} {fd : FuncData} {ps : List Str} {sp : Sp} {E : XK} {x : Str} {p pos : Pos} {e : Expr} {es : List Expr} {t : TA}
/-- it is called by its name -/
theorem pe_callG (F : FnG X.prog X.w X.K X.mg X.base k f fd ps sp) (gd : X.A.guards = some []) (room : Room k X.A) (gl : Gl X x) (at_ : X.mg x = some (.ref f)) (keep : PySem.W.keepIn X.K (.ref f) = true) (bind : Binds X.K fd ps []) (pass : Passes CX0 X E)
    (args : PA X (e :: es) t) (nd : (x == ("__debug__" : Str)) = false := by decide) (st : starEach (e :: es) X.env = (false, eval e X.env) :: starEach es X.env := by rfl) (pl : (backTo pos (starEach es X.env)).any (·.1) = false := by rfl) :
    PE X (.Call (.Name x p) (e :: es) [] pos) (tCall sp [] E t) := by
  refine ⟨fun pins z σ H Q I h => ?_⟩
  refine wpAny_Call_Name_kw (ld_glob I gl at_ ?_ nd)
  refine PySem.W.callWith_K (h₀ := X.base) I.ok.mod.kin keep (thn (args.run pos pins z σ H _ I h) fun us z1 ⟨vs, H1, J, rel, q⟩ => ⟨J.kIn, ?_⟩) st pl
  have q : sp (vs ++ []) H1 Q E := q
  have rel2 : Vals (vs ++ []) (us ++ []) := by rw [List.append_nil, List.append_nil]; exact rel
  have lens : (us ++ []).length = ps.length := by rw [← rel2.length]; exact F.size _ _ _ _ q
  refine wpAny_call (codeAny_mono (F.go X.A X.stack z1 H1 ⟨us, []⟩ (us ++ []) (vs ++ []) Q E gd room J.env0 (bind z1 us J.kIn lens) rel2 q) fun out z2 fin => ?_)
  match out, fin with
  | .error er, fin => exact pass pins σ H1 z1 er z2 J fin
  | .ok (.ret u), fin => exact J.after fin
  | .ok .next, fin => exact fin.elim
  | .ok .brk, fin => exact fin.elim
  | .ok .cont, fin => exact fin.elim
end
/-! ### repr of a table -/
def rowD (r : List Int) : PyData := .list (r.map PyData.int)
def tabD (T : List (List Int)) : PyData := .list (T.map rowD)
theorem reads_ints {h : Heap} : ∀ {r : List Int} {its : List Value}, Vals (r.map V.int) its → ∃ as, PySem.ReadsAll h its (r.map PyData.int) as
  | [], _, .nil => ⟨_, .nil⟩
  | i :: r, _, .cons a b => by
    obtain ⟨t, rfl⟩ := a
    obtain ⟨as, q⟩ := reads_ints b
    exact ⟨_, .cons (.int i t) q⟩
theorem reads_row {X : Cx} {pins : List (Addr × Obj)} {σ : L2.St} {H : Hp} {s : Shared} (I : Inv X pins σ H s) {a : Addr} {r : List Int} (e : H a = some (.lst (r.map V.int))) : ∃ as, PySem.Reads s.heap (.ref a) (rowD r) as := by
  obtain ⟨z, its, n, rv, hl, o⟩ := I.lstM e
  obtain ⟨as, q⟩ := reads_ints (h := s.heap) rv
  exact ⟨_, .list o rfl rfl q⟩
theorem reads_rows {X : Cx} {pins : List (Addr × Obj)} {σ : L2.St} {H : Hp} {s : Shared} (I : Inv X pins σ H s) : ∀ {rs : List Addr} {T : List (List Int)} {its : List Value}, Rows H rs T → Vals (rs.map V.ref) its → ∃ as, PySem.ReadsAll s.heap its (T.map rowD) as
  | [], _, _, .nil, .nil => ⟨_, .nil⟩
  | a :: rs, r :: T, _, .cons e t, .cons b c => by
    obtain ⟨as, q⟩ := reads_rows I t c
    obtain rfl : _ = Value.ref a := b
    obtain ⟨bs, q1⟩ := reads_row I e
    exact ⟨_, .cons q1 q⟩
theorem reads_tab {X : Cx} {pins : List (Addr × Obj)} {σ : L2.St} {H : Hp} {s : Shared} (I : Inv X pins σ H s) {a : Addr} {T : List (List Int)} (k : Tab0 H a T) : ∃ as, PySem.Reads s.heap (.ref a) (tabD T) as := by
  obtain ⟨rs, e, rows⟩ := k
  obtain ⟨z, its, n, rv, hl, o⟩ := I.lstM e
  obtain ⟨as, q⟩ := reads_rows I rows rv
  exact ⟨_, .list o rfl rfl q⟩
theorem small_int {q : Int} (h : -ten9 ≤ q ∧ q ≤ ten9) : q.natAbs < 10 ^ 10 ∧ q.natAbs.log2 < 1920 := by
  unfold ten9 at h
  have h1 : q.natAbs < 10 ^ 10 := by omega
  have h2 : q.natAbs.log2 < 34 := PySem.Flt.log2_lt_of (by decide) (Nat.lt_trans h1 (by decide))
  exact ⟨h1, by omega⟩
theorem ints_show : ∀ {r : List Int}, Within ten9 r → PyData.showableAll (r.map PyData.int) = true ∧ PyData.leavesShortAll 13 (r.map PyData.int) = true ∧ PyData.bulkAll (r.map PyData.int) = r.length
  | [], _ => ⟨rfl, rfl, rfl⟩
  | i :: r, h => by
    obtain ⟨a, b, c⟩ := ints_show (r := r) fun z hz => h z (List.mem_cons_of_mem _ hz)
    obtain ⟨s1, s2⟩ := small_int (h i List.mem_cons_self)
    have len : (PyData.shown (.int i)).length ≤ 13 := by
      have q := int_text_length_le10 (k := 10) (by decide) s1
      change (Str.ofString (toString i)).length ≤ 13
      rw [PySem.ofString_length]
      omega
    refine ⟨?_, ?_, ?_⟩
    · show (decide (i.natAbs.log2 < 1920) && PyData.showableAll (r.map PyData.int)) = true
      rw [a, decide_eq_true s2]
      rfl
    · show (decide ((PyData.shown (.int i)).length ≤ 13) && PyData.leavesShortAll 13 (r.map PyData.int)) = true
      rw [b, decide_eq_true len]
      rfl
    · show 0 + 1 + PyData.bulkAll (r.map PyData.int) = r.length + 1
      rw [c]
      omega
theorem tab_show {n : Nat} : ∀ {T : List (List Int)}, (∀ r, r ∈ T → r.length = n ∧ Within ten9 r) → PyData.showableAll (T.map rowD) = true ∧ PyData.leavesShortAll 13 (T.map rowD) = true ∧ PyData.bulkAll (T.map rowD) = T.length * (n + 1)
  | [], _ => ⟨rfl, rfl, (Nat.zero_mul _).symm⟩
  | r :: T, h => by
    obtain ⟨a, b, c⟩ := tab_show (T := T) fun z hz => h z (List.mem_cons_of_mem _ hz)
    obtain ⟨l, wi⟩ := h r List.mem_cons_self
    obtain ⟨d, e, g⟩ := ints_show wi
    refine ⟨?_, ?_, ?_⟩
    · show (PyData.showableAll (r.map PyData.int) && PyData.showableAll (T.map rowD)) = true
      rw [a, d]
      rfl
    · show (PyData.leavesShortAll 13 (r.map PyData.int) && PyData.leavesShortAll 13 (T.map rowD)) = true
      rw [b, e]
      rfl
    · show PyData.bulkAll (r.map PyData.int) + 1 + PyData.bulkAll (T.map rowD) = (T.length + 1) * (n + 1)
      rw [c, g, l, Nat.succ_mul]
      omega
theorem ints_depth : ∀ r : List Int, PyData.depthAll (r.map PyData.int) = 0
  | [] => rfl
  | i :: r => by
    show max _ (PyData.depthAll (r.map PyData.int)) = 0
    rw [ints_depth r]
    rfl
theorem tab_depth : ∀ T : List (List Int), PyData.depthAll (T.map rowD) ≤ 1
  | [] => Nat.zero_le _
  | r :: T => by
    show max (PyData.depth (rowD r)) (PyData.depthAll (T.map rowD)) ≤ 1
    have q := tab_depth T
    have e : PyData.depth (rowD r) = 1 := by
      show PyData.depthAll (r.map PyData.int) + 1 = 1
      rw [ints_depth]
    omega
theorem ints_nodict : ∀ r : List Int, PyData.hasDictAll (r.map PyData.int) = false
  | [] => rfl
  | i :: r => ints_nodict r
theorem tab_nodict : ∀ T : List (List Int), PyData.hasDictAll (T.map rowD) = false
  | [] => rfl
  | r :: T => by
    show (PyData.hasDictAll (r.map PyData.int) || PyData.hasDictAll (T.map rowD)) = false
    rw [ints_nodict, tab_nodict]
    rfl
def rRepr : List V → Hp → VK → Prop := fun vs H Q => ∃ (a : Addr) (m n : Nat) (T : List (List Int)), vs = [.ref a] ∧ Tab0 H a T ∧ Dims T m n ten9 ∧ m ≤ 1000 ∧ n ≤ 1000 ∧ Q (.str (tabD T).shown) H
theorem call_reprT {X : Cx} (gd : X.A.guards = some []) (un : X.A.units + 64 < cLine) : CallR X (.builtin "repr") rRepr := by
  intro pins s σ H xs us Q I vals ⟨a, m, n, T, exs, tab, dm, m1, n1, q⟩
  subst exs
  obtain ⟨val, rfl, rel⟩ := vals1 vals
  obtain rfl : val = Value.ref a := rel
  obtain ⟨as, rd⟩ := reads_tab I tab
  obtain ⟨sh, lf, bk⟩ := tab_show (n := n) (T := T) fun r hr => ⟨dm.r r hr, dm.q r hr⟩
  have dp : (tabD T).depth ≤ 2 := by
    show PyData.depthAll (T.map rowD) + 1 ≤ 2
    have := tab_depth T
    omega
  have nodict : (tabD T).hasDict = false := tab_nodict T
  have bk2 : (tabD T).bulk ≤ 2 ^ 20 := by
    have e : (tabD T).bulk = T.length * (n + 1) := bk
    rw [e, dm.m]
    have q : m * (n + 1) ≤ 1000 * (1000 + 1) := Nat.mul_le_mul m1 (Nat.succ_le_succ n1)
    omega
  have fits : (tabD T).shown.length ≤ sizeLine := PyData.shown_fits_bulk (B := 13) (by decide) (by decide) lf bk2
  refine repr_of_reads' rd sh (fun hd => by rw [nodict] at hd; cases hd) gd (by omega) (fun b o e => e) (fun h' u tk kp => ?_) fits
  exact ⟨.str _, H, I.kept kp, ⟨_, rfl⟩, q⟩
end
end Sa
namespace Sa
open PySem PyProof.Rows L2
section
variable {base : Heap} {mg : Str → Option Value} {w : World} {P : Program} {K : PySem.W.Frag}
/-! ### _law_is -/
def spIs : Sp := fun vs H Q _ => ∃ (a : Addr) (m n due : Nat) (U : List (List Int)), vs = [.ref a, .int due] ∧ Tab0 H a U ∧ Dims U m n ten9 ∧ 0 < m ∧ m ≤ 128 ∧ 0 < n ∧ n ≤ 128 ∧ RK.Rk (RK.ent U) m n due ∧ ∀ H', Same H H' → Q (.bl true) H'
theorem ok_is (d : DefAt K mg "_law_is" sIs) (dR : DefAt K mg "rank" sRank) (dTb : DefAt K mg "is_table" sTab) (dI : DefAt K mg "is_integer" sInt) (dO : DefAt K mg "rank_of" sRankOf) (T : Bt mg) : FnG P w K mg base 4 d.f d.fd ["_law_table", "_law_due"] spIs := by
  have GR : FnOk P w K mg base CX0 3 dR.f dR.fd _ spRank := ok_rank dR dTb dI dO T
  have bR : Binds K dR.fd ["table"] [] := dR.F.binds fun _ _ _ _ _ _ us hl => match us, hl with | [_], _ => rfl
  refine fnG d.F scIs (fun vs H Q E h => ?_) (fun cdv A outer s H vs Q E gd hr h => ?_)
  · obtain ⟨a, m, n, due, U, rfl, _⟩ := h
    rfl
  · obtain ⟨a, m, n, due, U, rfl, tab, dm, m0, m1, n0, n1, rk, k⟩ := h
    have lm := dm.m
    refine ⟨_, (pss_cons (ps_set (i := 2) scIs.nd rfl (Or.inl rfl) (pe_callB (id := "repr") (call_reprT gd hr.units) (by rfl) T.repr (by decide +kernel) (pa_cons (pv 0) pa_nil))) (pss_cons (ps_set (i := 3) scIs.nd rfl (Or.inl rfl) (pe_call GR hr (by rfl) dR.g dR.F.kp bR .nil pass0 (pa_cons (pv 0) pa_nil))) (pss_one (ps_ret (pe_and (pe_callB (id := "isinstance") (r := rIsi K) call_isi (by rfl) T.isinstance (by decide +kernel) (pa_cons (pv 3) (pa_cons (pe_bltn (v := .ty "int") (u := .type "int") (by rfl) T.int (by decide +kernel) rfl) pa_nil))) (pe_and (pe_not (pe_callB (id := "isinstance") (r := rIsi K) call_isi (by rfl) T.isinstance (by decide +kernel) (pa_cons (pv 3) (pa_cons (pe_bltn (v := .ty "bool") (u := .type "bool") (by rfl) T.bool (by decide +kernel) rfl) pa_nil)))) (pe_and (pe_cmpR op_eq (pv 3) (pv 1) (nomark _)) (pe_one (pe_cmpR op_eq (pe_callB (id := "repr") (call_reprT gd hr.units) (by rfl) T.repr (by decide +kernel) (pa_cons (pv 0) pa_nil)) (pv 2) (nomark _)))))))))), ?_⟩
    refine ⟨_, rfl, a, m, n, U, rfl, tab, dm, by omega, by omega, ?_⟩
    refine ⟨_, rfl, a, n, U, rfl, tab, by rw [lm]; exact dm, by omega, by omega, n0, n1, fun f H1 s1 hf => ?_⟩
    obtain rfl := hf due (by rw [lm]; exact rk)
    refine ⟨_, rfl, _, _, _, _, true, rfl, .ty _, .base (.int _), kit_ty (by decide +kernel), true, rfl, _, rfl, _, _, _, _, false, rfl, .ty _, .base (.int _), kit_ty (by decide +kernel), false, rfl, true, rfl, ?_⟩
    refine ⟨_, rfl, _, rfl, rfl, true, congrArg V.bl (decide_eq_true rfl), _, rfl, a, m, n, U, rfl, tab.same s1, dm, by omega, by omega, _, rfl, rfl, ?_⟩
    rw [decide_eq_true rfl]
    exact k H1 s1
end
end Sa
namespace Sa
open PySem PyProof.Rows L2
section
variable {base : Heap} {mg : Str → Option Value} {w : World} {P : Program} {K : PySem.W.Frag}
/-! ### the rank of a product -/
theorem sum_range {r : Nat} {f : Nat → Int} : ((List.range r).map f).sum = RK.S r f := by
  induction r with
  | zero => rfl
  | succ r ih =>
    rw [range_map, List.sum_append, ih]
    show RK.S r f + (f r + 0) = RK.S r f + f r
    rw [Int.add_zero]
theorem prod_ent {L R : List (List Int)} {r i j : Nat} (hi : i < L.length) (hj : j < R.length) : RK.ent (prodT r L R) i j = RK.S r fun k => RK.ent L i k * RK.ent R j k := by
  have e1 : (prodT r L R).getD i [] = R.map fun o => dot r (L.getD i []) o := by
    unfold prodT
    rw [List.getD_eq_getElem?_getD, List.getElem?_map, getD_some hi]
    rfl
  have e2 : (R.map fun o => dot r (L.getD i []) o).getD j 0 = dot r (L.getD i []) (R.getD j []) := by
    rw [List.getD_eq_getElem?_getD, List.getElem?_map, getD_some hj]
    rfl
  unfold RK.ent
  rw [e1, e2]
  exact sum_range
theorem prod_rk {L R : List (List Int)} {m n r : Nat} (hL : L.length = m) (hR : R.length = n) (sL : Stepped L m r) (sR : Stepped R n r) : RK.Rk (RK.ent (prodT r L R)) m n r := by
  obtain ⟨σ, hσ, h1⟩ := sL
  obtain ⟨τ, hτ, h2⟩ := sR
  refine (RK.Rk.product (L := RK.ent L) (R := RK.ent R) hσ hτ (fun k l hk hl q => (h1 k hk).2 l hl q) (fun k hk e => ?_) (fun k l hk hl q => (h2 k hk).2 l hl q) (fun k hk e => ?_)).congr fun i hi j hj => prod_ent (by omega) (by omega)
  · have := (h1 k hk).1
    omega
  · have := (h2 k hk).1
    omega
theorem S_small {r : Nat} {f : Nat → Int} {b : Int} (h : ∀ k, k < r → -b ≤ f k ∧ f k ≤ b) : -((r : Int) * b) ≤ RK.S r f ∧ RK.S r f ≤ (r : Int) * b := by
  induction r with
  | zero =>
    show -((0 : Int) * b) ≤ 0 ∧ (0 : Int) ≤ (0 : Int) * b
    rw [Int.zero_mul]
    decide
  | succ r ih =>
    obtain ⟨a, c⟩ := ih fun k hk => h k (by omega)
    obtain ⟨d, e⟩ := h r (by omega)
    have q : ((r + 1 : Nat) : Int) * b = (r : Int) * b + b := by
      rw [show ((r + 1 : Nat) : Int) = (r : Int) + 1 by omega, Int.add_mul, Int.one_mul]
    rw [q]
    show -((r : Int) * b + b) ≤ RK.S r f + f r ∧ RK.S r f + f r ≤ (r : Int) * b + b
    constructor <;> omega
theorem within_ent {q : Int} {r : List Int} (h : Within q r) (hq : 0 ≤ q) (k : Nat) : -q ≤ r.getD k 0 ∧ r.getD k 0 ≤ q := by
  by_cases hk : k < r.length
  · exact h.get hk
  · rw [List.getD_eq_getElem?_getD, List.getElem?_eq_none (by omega)]
    show -q ≤ 0 ∧ (0 : Int) ≤ q
    omega
theorem dot_small {r : Nat} {q : Int} {l o : List Int} (hr : r ≤ 7) (h0 : 0 ≤ q) (h1 : q ≤ 9999) (hl : Within q l) (ho : Within q o) : -ten9 ≤ dot r l o ∧ dot r l o ≤ ten9 := by
  unfold dot
  rw [sum_range]
  have z : ∀ k, k < r → -99980001 ≤ l.getD k 0 * o.getD k 0 ∧ l.getD k 0 * o.getD k 0 ≤ 99980001 := fun k _ => by
    have a := within_ent hl h0 k
    have b := within_ent ho h0 k
    have c : (l.getD k 0 * o.getD k 0).natAbs ≤ 9999 * 9999 := by
      rw [Int.natAbs_mul]
      exact Nat.mul_le_mul (by omega) (by omega)
    omega
  have q := S_small (b := 99980001) z
  unfold ten9
  constructor <;> omega
theorem prod_dims {L R : List (List Int)} {m n r : Nat} {q : Int} (dL : Dims L m r q) (dR : Dims R n r q) (hr : r ≤ 7) (h0 : 0 ≤ q) (h1 : q ≤ 9999) : Dims (prodT r L R) m n ten9 := by
  refine ⟨by unfold prodT; rw [List.length_map]; exact dL.m, fun x hx => ?_, fun x hx => ?_⟩
  · obtain ⟨l, _, rfl⟩ := List.mem_map.mp hx
    rw [List.length_map]
    exact dR.m
  · obtain ⟨l, hl, rfl⟩ := List.mem_map.mp hx
    intro z hz
    obtain ⟨o, ho, rfl⟩ := List.mem_map.mp hz
    exact dot_small hr h0 h1 (dL.q l hl) (dR.q o ho)
/-! ### rows again and again -/
def again (N : Nat) (U : List (List Int)) : List (List Int) := (List.range N).map fun k => U.getD (k % U.length) []
theorem again_rk {N m n r : Nat} {U : List (List Int)} (hm : U.length = m) (m0 : 0 < m) (hN : m ≤ N) (k : RK.Rk (RK.ent U) m n r) : RK.Rk (RK.ent (again N U)) N n r := by
  have lN : (again N U).length = N := by
    unfold again
    simp only [List.length_range, List.length_map]
  subst hm
  have q := rk_sub (U := again N U) k (fun x hx => ?_) (fun x hx => ?_)
  · rw [lN] at q
    exact q
  · obtain ⟨i, _, rfl⟩ := List.mem_map.mp hx
    exact mem_one (ix_mem (Nat.mod_lt _ m0))
  · obtain ⟨i, hi, rfl⟩ := mem_ix hx
    exact List.mem_map.mpr ⟨i, List.mem_range.mpr (by omega), by rw [Nat.mod_eq_of_lt hi]⟩
theorem again_dims {N m n : Nat} {q : Int} {U : List (List Int)} (m0 : 0 < m) (d : Dims U m n q) : Dims (again N U) N n q := by
  have mem : ∀ x, x ∈ again N U → x ∈ U := fun x hx => by
    obtain ⟨i, _, rfl⟩ := List.mem_map.mp hx
    exact ix_mem (Nat.mod_lt _ (by rw [d.m]; exact m0))
  exact ⟨by unfold again; rw [List.length_map, List.length_range], fun x hx => d.r x (mem x hx), fun x hx => d.q x (mem x hx)⟩
theorem min2_int (a b : Int) : ∃ z : Int, nuMin2 (.int a) (.int b) = some (.int z) ∧ z ≤ a ∧ z ≤ b ∧ (z = a ∨ z = b) := by
  unfold nuMin2
  by_cases h : b < a
  · have e : nuLt (.int b) (.int a) = some true := congrArg some (decide_eq_true h)
    rw [e]
    exact ⟨b, rfl, by omega, by omega, .inr rfl⟩
  · have e : nuLt (.int b) (.int a) = some false := congrArg some (decide_eq_false h)
    rw [e]
    exact ⟨a, rfl, by omega, by omega, .inl rfl⟩
theorem min3_int (a b c : Int) : ∃ z : Int, nuMin3 (.int a) (.int b) (.int c) = some (.int z) ∧ z ≤ a ∧ z ≤ b ∧ z ≤ c ∧ (z = a ∨ z = b ∨ z = c) := by
  obtain ⟨x, e1, h1, h2, h3⟩ := min2_int a b
  obtain ⟨y, e2, h4, h5, h6⟩ := min2_int x c
  unfold nuMin3
  rw [e1]
  exact ⟨y, e2, by omega, by omega, h5, by omega⟩
def rLenB (K : PySem.W.Frag) : List V → Hp → VK → Prop := fun given H Q => ∃ at_ ys, given = [.ref at_] ∧ (SqL K H at_ ys ∨ SqT K H at_ ys) ∧ Q (.int ys.length) H
/-! ### law -/
def spLaw (K : PySem.W.Frag) : Sp := fun vs H Q _ => ∃ (script : Addr) (ns : List Int), vs = [.ref script] ∧ SqL K H script (ns.map V.int) ∧ ns.length ≤ 63 ∧ ∀ H2, Q (.bl true) H2
theorem ok_law (d : DefAt K mg "law" sLaw) (dHd : DefAt K mg "_law_hand" sHand) (dD : DefAt K mg "_law_draw" sDraw) (dS : DefAt K mg "_law_shuffled" sShuf) (dSg : DefAt K mg "_law_signed" sSign) (dHs : DefAt K mg "_law_heads" sHeads) (dP : DefAt K mg "_law_product" sProd)
    (dN : DefAt K mg "_law_near" sNear) (dG : DefAt K mg "_law_great" sGreat) (dE : DefAt K mg "_law_determined" sDet) (dT : DefAt K mg "_law_turned" sTurn) (dM : DefAt K mg "_law_mixed" sMix) (dL : DefAt K mg "_law_longer" sLong) (dIs : DefAt K mg "_law_is" sIs)
    (dR : DefAt K mg "rank" sRank) (dTb : DefAt K mg "is_table" sTab) (dI : DefAt K mg "is_integer" sInt) (dO : DefAt K mg "rank_of" sRankOf) (T : Bt mg) : FnG P w K mg base 5 d.f d.fd ["_law_script"] (spLaw K) := by
  have GD : FnOk P w K mg base CX0 1 dD.f dD.fd _ spDraw := ok_draw dD T
  have bD : Binds K dD.fd ["_law_hand_here", "_law_many"] [] := dD.F.binds fun _ _ _ _ _ _ us hl => match us, hl with | [_, _], _ => rfl
  have GT : FnOk P w K mg base CX0 1 dT.f dT.fd _ spTurn := ok_turn dT T
  have bT : Binds K dT.fd ["_law_table"] [] := dT.F.binds fun _ _ _ _ _ _ us hl => match us, hl with | [_], _ => rfl
  have GH : FnOk P w K mg base CX0 1 dHd.f dHd.fd _ (spHand K) := ok_hand dHd T
  have bH : Binds K dHd.fd ["_law_script"] [] := dHd.F.binds fun _ _ _ _ _ _ us hl => match us, hl with | [_], _ => rfl
  have GHs : FnOk P w K mg base CX0 3 dHs.f dHs.fd _ spHeads := ok_heads dHs dS dSg dD T
  have bHs : Binds K dHs.fd ["_law_hand_here", "_law_many", "_law_size", "_law_most"] [] := dHs.F.binds fun _ _ _ _ _ _ us hl => match us, hl with | [_, _, _, _], _ => rfl
  have GP : FnOk P w K mg base CX0 1 dP.f dP.fd _ spProd := ok_prod dP T
  have bP : Binds K dP.fd ["_law_left", "_law_right", "_law_size"] [] := dP.F.binds fun _ _ _ _ _ _ us hl => match us, hl with | [_, _, _], _ => rfl
  have GG : FnOk P w K mg base CX0 3 dG.f dG.fd _ spGreat := ok_great dG dN dS dD T
  have bG : Binds K dG.fd ["_law_hand_here"] [] := dG.F.binds fun _ _ _ _ _ _ us hl => match us, hl with | [_], _ => rfl
  have GE : FnOk P w K mg base CX0 2 dE.f dE.fd _ spDet := ok_det dE dD T
  have bE : Binds K dE.fd ["_law_hand_here"] [] := dE.F.binds fun _ _ _ _ _ _ us hl => match us, hl with | [_], _ => rfl
  have GM : FnOk P w K mg base CX0 3 dM.f dM.fd _ spMix := ok_mix dM dS dT dD T
  have bM : Binds K dM.fd ["_law_hand_here", "_law_table"] [] := dM.F.binds fun _ _ _ _ _ _ us hl => match us, hl with | [_, _], _ => rfl
  have GL : FnOk P w K mg base CX0 2 dL.f dL.fd _ spLong := ok_long dL dD T
  have bL : Binds K dL.fd ["_law_hand_here", "_law_table"] [] := dL.F.binds fun _ _ _ _ _ _ us hl => match us, hl with | [_, _], _ => rfl
  have GI : FnG P w K mg base 4 dIs.f dIs.fd _ spIs := ok_is dIs dR dTb dI dO T
  have bI : Binds K dIs.fd ["_law_table", "_law_due"] [] := dIs.F.binds fun _ _ _ _ _ _ us hl => match us, hl with | [_, _], _ => rfl
  refine fnG d.F scLaw (fun vs H Q E h => ?_) (fun cdv A outer s H vs Q E gd hr h => ?_)
  · obtain ⟨a, ns, rfl, _⟩ := h
    rfl
  · obtain ⟨a, ns, rfl, scr, few, k⟩ := h
    have hr3 : Room 3 _ := hr.mono (by decide)
    have hr2 : Room 2 _ := Room.mono hr (by decide)
    have hr1 : Room 1 _ := Room.mono hr (by decide)
    refine ⟨_, (pss_cons (ps_set (i := 1) scLaw.nd rfl (Or.inl rfl) (pe_call GH hr1 (by rfl) dHd.g dHd.F.kp bH .nil pass0 (pa_cons (pv 0) pa_nil))) (pss_cons (ps_set (i := 2) scLaw.nd rfl (Or.inl rfl) (pe_call GD hr1 (by rfl) dD.g dD.F.kp bD .nil pass0 (pa_cons (pv 1) (pa_cons pe_int pa_nil)))) (pss_cons (ps_set (i := 3) scLaw.nd rfl (Or.inl rfl) (pe_op op_add pe_int (pe_call GD hr1 (by rfl) dD.g dD.F.kp bD .nil pass0 (pa_cons (pv 1) (pa_cons pe_int pa_nil))))) (pss_cons (ps_set (i := 4) scLaw.nd rfl (Or.inl rfl) (pe_op op_add pe_int (pe_call GD hr1 (by rfl) dD.g dD.F.kp bD .nil pass0 (pa_cons (pv 1) (pa_cons pe_int pa_nil))))) (pss_cons (ps_set (i := 5) scLaw.nd rfl (Or.inl rfl) (pe_call GD hr1 (by rfl) dD.g dD.F.kp bD .nil pass0 (pa_cons (pv 1) (pa_cons (pe_op op_add (pe_callB (id := "min") (call_min3Nu rfl) (by rfl) T.min (by decide +kernel) (pa_cons (pv 3) (pa_cons (pv 4) (pa_cons pe_int pa_nil)))) pe_int) pa_nil)))) (pss_cons (ps_set (i := 6) scLaw.nd rfl (Or.inl rfl) (pe_ix ix_list (pe_lst (pa_cons pe_int (pa_cons pe_int (pa_cons pe_int (pa_cons pe_int pa_nil))))) (pe_call GD hr1 (by rfl) dD.g dD.F.kp bD .nil pass0 (pa_cons (pv 1) (pa_cons pe_int pa_nil))) (fun _ _ => rfl))) (C8.pss_cut (ps_if (pt_cmpR op_lt (pv 2) pe_int (nomark _)) (pss_one (ps_asg (pe_call GG hr3 (by rfl) dG.g dG.F.kp bG .nil pass0 (pa_cons (pv 1) pa_nil)) (pg_tup (n := 2) rfl (pgs_cons (pg_name (i := 7) scLaw.nd rfl (Or.inr rfl)) (pgs_cons (pg_name (i := 5) scLaw.nd rfl (Or.inl rfl)) pgs_nil))))) (pss_one (ps_if (pt_cmpR op_gt (pv 2) pe_int (nomark _)) (pss_one (ps_asg (pe_call GE hr2 (by rfl) dE.g dE.F.kp bE .nil pass0 (pa_cons (pv 1) pa_nil)) (pg_tup (n := 2) rfl (pgs_cons (pg_name (i := 7) scLaw.nd rfl (Or.inr rfl)) (pgs_cons (pg_name (i := 5) scLaw.nd rfl (Or.inl rfl)) pgs_nil))))) (pss_one (ps_set (i := 7) scLaw.nd rfl (Or.inr rfl) (pe_call GP hr1 (by rfl) dP.g dP.F.kp bP .nil pass0 (pa_cons (pe_call GHs hr3 (by rfl) dHs.g dHs.F.kp bHs .nil pass0 (pa_cons (pv 1) (pa_cons (pv 3) (pa_cons (pv 5) (pa_cons (pv 6) pa_nil))))) (pa_cons (pe_call GHs hr3 (by rfl) dHs.g dHs.F.kp bHs .nil pass0 (pa_cons (pv 1) (pa_cons (pv 4) (pa_cons (pv 5) (pa_cons (pv 6) pa_nil))))) (pa_cons (pv 5) pa_nil))))))))) (pss_cons (ps_if (PW.pt (pw_or (pt_not (pt_val (pe_callG GI gd hr (by rfl) dIs.g dIs.F.kp bI pass0 (pa_cons (pv 7) (pa_cons (pv 5) pa_nil))))) (pw_or1 (pt_not (pt_val (pe_callG GI gd hr (by rfl) dIs.g dIs.F.kp bI pass0 (pa_cons (pe_call GT hr1 (by rfl) dT.g dT.F.kp bT .nil pass0 (pa_cons (pv 7) pa_nil)) (pa_cons (pv 5) pa_nil)))))))) (pss_one (ps_ret pe_bl)) pss_nil) (pss_cons (ps_set (i := 8) scLaw.nd rfl (Or.inl rfl) (pe_call GM hr3 (by rfl) dM.g dM.F.kp bM .nil pass0 (pa_cons (pv 1) (pa_cons (pv 7) pa_nil)))) (pss_cons (ps_set (i := 9) scLaw.nd rfl (Or.inl rfl) (pe_call GL hr2 (by rfl) dL.g dL.F.kp bL .nil pass0 (pa_cons (pv 1) (pa_cons (pv 8) pa_nil)))) (pss_cons (ps_set (i := 10) scLaw.nd rfl (Or.inl rfl) (pe_call GT hr1 (by rfl) dT.g dT.F.kp bT .nil pass0 (pa_cons (pe_call GL hr2 (by rfl) dL.g dL.F.kp bL .nil pass0 (pa_cons (pv 1) (pa_cons (pe_call GT hr1 (by rfl) dT.g dT.F.kp bT .nil pass0 (pa_cons (pv 9) pa_nil)) pa_nil))) pa_nil))) (pss_cons (ps_if (PW.pt (pw_or (pt_not (pt_val (pe_callG GI gd hr (by rfl) dIs.g dIs.F.kp bI pass0 (pa_cons (pv 8) (pa_cons (pv 5) pa_nil))))) (pw_or (pt_not (pt_val (pe_callG GI gd hr (by rfl) dIs.g dIs.F.kp bI pass0 (pa_cons (pv 9) (pa_cons (pv 5) pa_nil))))) (pw_or1 (pt_not (pt_val (pe_callG GI gd hr (by rfl) dIs.g dIs.F.kp bI pass0 (pa_cons (pv 10) (pa_cons (pv 5) pa_nil))))))))) (pss_one (ps_ret pe_bl)) pss_nil) (pss_cons (ps_if (pt_cmpR op_eq (pv 2) pe_int (nomark _)) (pss_cons (ps_setLc (i := 11) (own := [("_law_k", 12)]) (g := gName 12) (tt := tYes) rfl scLaw.nd rfl rfl (sw_true rfl rfl rfl (by decide +kernel)) (pi_range1 (by rfl) T.range (pa_cons (pe_op op_add pe_int (pe_call GD hr1 (by rfl) dD.g dD.F.kp bD .nil pass0 (pa_cons (pv 1) (pa_cons pe_int pa_nil)))) pa_nil)) (blkOk_by (N := ["_law_script", "_law_hand_here", "_law_way", "_law_many", "_law_wide", "_law_due", "_law_most", "_law_table", "_law_mixed_here", "_law_longer_here", "_law_wider", "_law_rows", "_law_k"]) (sc := defScope sLaw) (own := [("_law_k", 12)]) (by decide +kernel)) (fun _ _ _ _ _ => pg_name (i := 12) scLaw.nd rfl (Or.inl rfl)) (fun _ _ _ _ _ => pts_nil) (fun _ _ _ _ _ => (pe_callTy (T := "list") (r := rListOf K) call_list_of (by rfl) T.list (by decide +kernel) (pa_cons (pe_ix (r := rIxL K) ix_list (pv 7) (pe_op op_mod (pv 12) (pe_callB (id := "len") (r := rLenB K) call_len_seq (by rfl) T.len PySem.boot_len (pa_cons (pv 7) pa_nil))) (fun _ _ => rfl)) pa_nil)))) (pss_one (ps_ret (pe_and (pe_callG GI gd hr (by rfl) dIs.g dIs.F.kp bI pass0 (pa_cons (pv 11) (pa_cons (pv 5) pa_nil))) (pe_one (pe_callG GI gd hr (by rfl) dIs.g dIs.F.kp bI pass0 (pa_cons (pe_call GT hr1 (by rfl) dT.g dT.F.kp bT .nil pass0 (pa_cons (pv 11) pa_nil)) (pa_cons (pv 5) pa_nil)))))))) pss_nil) (pss_one (ps_ret (pe_callG GI gd hr (by rfl) dIs.g dIs.F.kp bI pass0 (pa_cons (pv 7) (pa_cons (pv 5) pa_nil)))))))))))))))))), ?_⟩
    refine ⟨_, rfl, a, ns, rfl, scr, few, fun h H1 s1 nh hx => ?_⟩
    obtain ⟨c, hh1⟩ := hx
    refine ⟨_, rfl, h, c, _, rfl, hh1, by decide, by decide, fun wy H2 _ _ sm2 hh2 => ?_⟩
    refine ⟨_, rfl, h, c, _, rfl, hh2, by decide, by decide, fun my H3 my0 my1 sm3 hh3 => ⟨_, _, rfl, rfl, ?_⟩⟩
    obtain ⟨m, em⟩ : ∃ m : Nat, 1 + my = (m : Int) := ⟨(1 + my).toNat, by omega⟩
    show gName 3 (V.int (1 + my)) _ _ _
    rw [em]
    refine ⟨_, rfl, h, c, _, rfl, hh3, by decide, by decide, fun ny H4 ny0 ny1 sm4 hh4 => ⟨_, _, rfl, rfl, ?_⟩⟩
    obtain ⟨n, en⟩ : ∃ n : Nat, 1 + ny = (n : Int) := ⟨(1 + ny).toNat, by omega⟩
    show gName 4 (V.int (1 + ny)) _ _ _
    rw [en]
    obtain ⟨z, ez, z1, z2, z3, z4⟩ := min3_int (m : Int) (n : Int) 7
    refine ⟨_, rfl, _, rfl, _, rfl, _, _, _, _, rfl, ez, _, _, rfl, rfl, h, c, _, rfl, hh4, by omega, by omega, fun dy H5 dy0 dy1 sm5 hh5 => ?_⟩
    obtain ⟨due, rfl⟩ : ∃ due : Nat, dy = (due : Int) := ⟨dy.toNat, by omega⟩
    refine ⟨(by show 4 ≤ sizeLine; decide), fun g ng => ?_⟩
    have gh := (hh5.ne ng).1
    refine ⟨_, rfl, h, c, _, rfl, hh5.new ng, by decide, by decide, fun e H6 e0 e1 sm6 hh6 => ?_⟩
    obtain ⟨me, hme, me0, me1⟩ : ∃ me : Int, ([V.int 1, V.int 2, V.int 9, V.int 9999] : List V)[e.toNat]? = some (V.int me) ∧ 1 ≤ me ∧ me ≤ 9999 := by
      rcases (show e = 0 ∨ e = 1 ∨ e = 2 ∨ e = 3 by omega) with q | q | q | q <;> subst q
      · exact ⟨1, rfl, by decide, by decide⟩
      · exact ⟨2, rfl, by decide, by decide⟩
      · exact ⟨9, rfl, by decide, by decide⟩
      · exact ⟨9999, rfl, by decide, by decide⟩
    refine ⟨g, _, e, _, rfl, rfl, SqL.of (sm6 _ _ gh upd_same), at_of (j := e.toNat) (by omega) hme, ?_⟩
    -- the table
    refine ⟨fun σ H' => ∃ (t : Addr) (U : List (List Int)) (p q r : Nat), σ = [some (.ref a), some (.ref h), some (.int wy), some (.int m), some (.int n), some (.int r), some (.int me), some (.ref t), none, none, none, none, none] ∧ Hand H' h c ∧ Tab h H' t U ∧ Dims U p q ten9 ∧ 0 < p ∧ p ≤ 10 ∧ 0 < q ∧ q ≤ 10 ∧ RK.Rk (RK.ent U) p q r, ?_, ?_⟩
    · refine ⟨_, rfl, _, _, rfl, rfl, _, rfl, ite2 (fun _ => ?_) (fun _ => ?_)⟩
      · refine ⟨_, rfl, h, c, rfl, hh6, fun tp t H7 p r U sm7 hh7 ep tab dm p2 p5 rk => ?_⟩
        exact ⟨tp, _, rfl, .inl (.inl ep), rfl, _, _, rfl, _, _, rfl, rfl, t, U, p, 3, r, rfl, hh7, tab, dm, by omega, by omega, by decide, by decide, rk⟩
      · refine ⟨_, rfl, _, _, rfl, rfl, _, rfl, ite2 (fun _ => ?_) (fun _ => ?_)⟩
        · refine ⟨_, rfl, h, c, rfl, hh6, fun tp t H7 p U sm7 hh7 ep tab dm p2 p5 rk => ?_⟩
          exact ⟨tp, _, rfl, .inl (.inl ep), rfl, _, _, rfl, _, _, rfl, rfl, t, U, p, p, p, rfl, hh7, tab, dm, by omega, by omega, by omega, by omega, rk⟩
        · refine ⟨_, rfl, _, rfl, _, rfl, _, rfl, h, c, m, due, me, rfl, hh6, by omega, by omega, by omega, by omega, fun tL H7 L sm7 hh7 tabL dL' stL => ?_⟩
          refine ⟨_, rfl, _, rfl, _, rfl, _, rfl, h, c, n, due, me, rfl, hh7, by omega, by omega, by omega, by omega, fun tR H8 R sm8 hh8 tabR dR' stR => ?_⟩
          refine ⟨_, rfl, tL, tR, due, m, n, me, L, R, rfl, (tabL.keep sm8).tab0, tabR.tab0, dL', dR', by omega, by omega, by omega, by omega, fun t H9 s9 nt gr => ?_⟩
          exact ⟨t, _, m, n, due, rfl, hh8.same s9, gr.tab hh8.some (hh8.ne nt).1, prod_dims dL' dR' (by omega) (by omega) (by omega), by omega, by omega, by omega, by omega, prod_rk dL'.m dR'.m stL stR⟩
    clear sm2 hh2 sm3 hh3 sm4 hh4 sm5 hh5 sm6 hh6 hh1 ez z1 z2 z3 z4 dy0 dy1 hme e0 e1 gh ng due
    rintro σ H6 ⟨t, U, p, q, r, rfl, hh6, tab, dm, p0, p1, q0, q1, rk⟩
    -- it and what is turned
    refine ⟨_, rfl, _, rfl, t, p, q, r, U, rfl, tab.tab0, dm, p0, by omega, q0, by omega, rk, fun H7 s7 => ⟨true, rfl, ?_⟩⟩
    have hh7 := hh6.same s7
    have tab7 := tab.keep (.of s7)
    refine ⟨_, rfl, t, p, q, ten9, U, rfl, tab7.tab0, dm, p0, by omega, by omega, fun t1 H8 s8 nt1 gr1 => ?_⟩
    refine ⟨_, rfl, t1, q, p, r, _, rfl, gr1.tab0, dims_turn dm, q0, by omega, p0, by omega, rk_turn dm.m rk, fun H9 s9 => ⟨true, rfl, ?_⟩⟩
    have hh9 := (hh7.same s8).same s9
    have tab9 := (tab7.keep (.of s8)).keep (.of s9)
    -- mixed, longer, wider
    refine ⟨_, rfl, _, rfl, h, c, t, p, q, ten9, U, rfl, hh9, tab9, dm, p0, q0, by omega, by omega, fun t2 H10 U2 sm10 hh10 tab2 dm2 rk2 => ?_⟩
    have tab10 := tab9.keep sm10
    refine ⟨_, rfl, _, rfl, h, c, t2, p, q, U2, rfl, hh10, tab2, dm2, p0, q0, by omega, by omega, fun t3 H11 U3 sm11 hh11 tab3 dm3 rk3 => ?_⟩
    have tab11 := tab10.keep sm11
    have tab2' := tab2.keep sm11
    refine ⟨_, rfl, _, rfl, t3, p + 1, q, ten9, U3, rfl, tab3.tab0, dm3, by omega, by omega, by omega, fun t4 H12 s12 nt4 gr4 => ?_⟩
    have hh12 := hh11.same s12
    have tab4 := gr4.tab hh11.some (hh11.ne nt4).1
    refine ⟨h, c, t4, q, p + 1, _, rfl, hh12, tab4, dims_turn dm3, q0, by omega, by omega, by omega, fun t5 H13 U5 sm13 hh13 tab5 dm5 rk5 => ?_⟩
    refine ⟨t5, q + 1, p + 1, ten9, U5, rfl, tab5.tab0, dm5, by omega, by omega, by omega, fun t6 H14 s14 nt6 gr6 => ?_⟩
    have sm14 : SmX h H11 H14 := ((SmX.of s12).trans sm13).trans (.of s14)
    have hh14 := hh13.same s14
    have rkT := rk2 r rk
    have rkT3 := rk3 r rkT
    have rkT5 := rk5 r (rk_turn dm3.m rkT3)
    refine ⟨_, rfl, _, rfl, t2, p, q, r, U2, rfl, (tab2'.keep sm14).tab0, dm2, p0, by omega, q0, by omega, rkT, fun H15 s15 => ⟨true, rfl, ?_⟩⟩
    refine ⟨_, rfl, _, rfl, t3, p + 1, q, r, U3, rfl, ((tab3.keep sm14).keep (.of s15)).tab0, dm3, by omega, by omega, q0, by omega, rkT3, fun H16 s16 => ⟨true, rfl, ?_⟩⟩
    refine ⟨_, rfl, _, rfl, t6, p + 1, q + 1, r, _, rfl, (gr6.tab0.same s15).same s16, dims_turn dm5, by omega, by omega, by omega, by omega, rk_turn dm5.m rkT5, fun H17 s17 => ⟨true, rfl, ?_⟩⟩
    have hh17 := ((hh14.same s15).same s16).same s17
    have tab17 := (((tab11.keep sm14).keep (.of s15)).keep (.of s16)).keep (.of s17)
    refine ⟨_, rfl, rfl, _, rfl, ite2 (fun _ => ?_) (fun _ => ?_)⟩
    · refine ⟨_, rfl, h, c, _, rfl, hh17, by decide, by decide, fun jy H18 j0 j1 sm18 hh18 => ?_⟩
      obtain ⟨j, rfl⟩ : ∃ j : Nat, jy = (j : Int) := ⟨jy.toNat, by omega⟩
      have tab18 := tab17.keep sm18
      obtain ⟨rs, et, rows, th, rsh⟩ := tab18
      have lrs : (rs.map V.ref).length = p := by rw [List.length_map, rows.length, dm.m]
      refine ⟨_, _, rfl, rfl, ((117 + j : Nat) : Int), congrArg (fun z => [V.int z]) (show (117 : Int) + (j : Int) = ((117 + j : Nat) : Int) by omega), by omega, by omega, fun b nb => ?_⟩
      have bh := (hh18.ne nb).1
      refine lc_range (lo := 0) (n := 117 + j) (fun i H' => Same H18 H' ∧ Grow H18 H' b (again i U)) ⟨same_upd nb, .nil upd_same⟩ ?_ ?_
      · rintro i H' hi ⟨sm, gr⟩
        have hip : i % p < p := Nat.mod_lt _ p0
        obtain ⟨a1, h1, e1⟩ := rows.at (i := i % p) (by rw [dm.m]; exact hip)
        have ei : (0 + (i : Int)) % (((rs.map V.ref).length : Nat) : Int) = ((i % p : Nat) : Int) := by rw [Int.zero_add, lrs, Int.natCast_emod]
        refine ⟨rfl, _, rfl, _, rfl, _, rfl, t, _, rfl, .inl (SqL.of (sm _ _ et)), _, _, rfl, rfl, by omega, t, _, _, V.ref a1, rfl, rfl, SqL.of (sm _ _ et), at_of (j := i % p) ei (by rw [List.getElem?_map, h1]; rfl), a1, _, rfl, .inl (SqL.of (sm _ _ e1)), fun l nl => ?_⟩
        obtain ⟨acc, eac, la, gr2⟩ := gr.push (r := U.getD (i % p) []) (sm.free nl) nl (gr.keepS (same_upd nl)) (fun rs e => same_upd nl _ _ e) upd_same
        refine ⟨acc, eac, small1000 (by rw [la]; unfold again; rw [List.length_map, List.length_range]; omega), same_put (sm.trans (same_upd nl)) nb, ?_⟩
        have e2 : again (i + 1) U = again i U ++ [U.getD (i % p) []] := by
          unfold again
          rw [range_map, dm.m]
        rw [e2]
        exact gr2
      · rintro H19 ⟨sm, gr⟩
        have dmA : Dims (again (117 + j) U) (117 + j) q ten9 := again_dims p0 dm
        have rkA := again_rk (N := 117 + j) dm.m p0 (by omega) rk
        refine ⟨_, rfl, _, rfl, b, 117 + j, q, r, _, rfl, gr.tab0, dmA, by omega, by omega, q0, by omega, rkA, fun H20 s20 => ⟨true, rfl, ?_⟩⟩
        refine ⟨_, rfl, b, 117 + j, q, ten9, _, rfl, gr.tab0.same s20, dmA, by omega, by omega, by omega, fun t7 H21 s21 nt7 gr7 => ?_⟩
        exact ⟨_, rfl, t7, q, 117 + j, r, _, rfl, gr7.tab0, dims_turn dmA, q0, by omega, by omega, by omega, rk_turn dmA.m rkA, fun H22 _ => k H22⟩
    · exact ⟨_, rfl, _, rfl, t, p, q, r, U, rfl, tab17.tab0, dm, p0, by omega, q0, by omega, rk, fun H18 _ => k H18⟩
end
end Sa
namespace Sa
open PySem PyProof.Rows L2
section
variable {base : Heap} {mg : Str → Option Value} {w : World} {P : Program} {K : PySem.W.Frag}
/-! ### the law's call, within no display -/
theorem call_in {mb : Str → Option Value} {k : Nat} {fa a : Addr} {fd : FuncData} {x : Str} {sp : Sp} {z : Shared} {us : List Value} {ns : List Int} {H : Hp}
    (kin : K.In z.heap) (gs : z.heap.Ns mainGlobals mg) (bs : z.heap.Ns builtinsNs mb) (boot : ∀ y : Str, y ≠ "__name__" → mb y = bootBuiltins y) (nol : z.heap.NoLimit) (nog : z.gens = #[])
    (script : z.heap.get? a = some { cls := .type "list", data := .seq us.toArray }) (room : Room k callerA)
    (F : ∀ base : Heap, K.In base → base.Ns mainGlobals mg → FnG P w K mg base k fa fd [x] sp) (bind : ∀ (s : Shared) (u : Value), BindsTo s fd ⟨[u], []⟩ [(x, u)])
    (only : Only H) (ok : HOk P w H z.heap) (one : ∀ b, H b ≠ none → b = a) (out : H a ≠ none → K.lookup a = none)
    (prom : sp [.ref a] H (fun v _ => v = .bl true) fun _ _ _ => False) :
    codeAny (model P w) callerA (.call (.ref fa) ⟨[.ref a], []⟩) (fun res z2 => res = .ok (.ret (.bool true)) ∧ OldK z.heap z2.heap ∧ z2.os = z.os ∧ AllBare z2.gens) z := by
  have hid : ∀ {b : Addr} {o : Obj}, z.heap.get? b = some o → H b = none → (hidT z.heap H).get? b = some o := fun e q => hidT_get e q
  have dictFree : ∀ {b : Addr} {o : Obj} {es : Array DictEntry} {n : Nat}, z.heap.get? b = some o → o.data = .dict es n → H b = none := by
    intro b o es n e d
    refine Classical.byContradiction fun q => ?_
    obtain rfl := one b q
    rw [script] at e
    obtain rfl := Option.some.inj e
    exact nomatch (show Data.seq us.toArray _ = Data.dict es n from d)
  have ns2 : ∀ {b : Addr} {m : Str → Option Value}, z.heap.Ns b m → (hidT z.heap H).Ns b m := by
    rintro b m ⟨o, es, n, e, d, rest⟩
    exact ⟨o, es, n, hid e (dictFree e d), d, rest⟩
  have kin2 : K.In (hidT z.heap H) := fun b o e => hid (kin b o e) (Classical.byContradiction fun q => by
    obtain rfl := one b q
    rw [out q] at e
    exact nomatch e)
  have md : Mod K mg (hidT z.heap H) := by
    obtain ⟨mc, c1, c2⟩ := nol
    exact ⟨kin2, ns2 gs, ⟨mb, ns2 bs, boot⟩, ⟨mc, ns2 c1, c2⟩⟩
  have env : Env0 P w K mg (hidT z.heap H) callerA [] z H := by
    refine ⟨rfl, md, fun b o e => of_hidT e, Nat.le_of_eq (hidT_size _ _), trivial, fun b hb => ?_, ok, .of_eq nog⟩
    exact absurd (show b ∈ ([] : List Addr) from hb) List.not_mem_nil
  refine codeAny_mono ((F _ kin2 (ns2 gs)).go callerA [] z H ⟨[.ref a], []⟩ [.ref a] [.ref a] _ _ rfl room env (bind z (.ref a)) (.cons rfl .nil) prom) fun res z2 fin => ?_
  match res, fin with
  | .error _, fin => exact False.elim fin
  | .ok .next, fin => exact fin.elim
  | .ok .brk, fin => exact fin.elim
  | .ok .cont, fin => exact fin.elim
  | .ok (.ret u), ⟨v, H2, os, bare, un, ok2, rel, q⟩ =>
    have q : v = .bl true := q
    subst q
    obtain rfl : u = Value.bool true := rel
    refine ⟨rfl, OldK.of_keep fun b ob e => ?_, os, bare⟩
    rcases only b with n | ⟨oz, xs, n⟩
    · exact un.keep b ob e n List.not_mem_nil List.not_mem_nil
    · obtain ⟨e1, _⟩ := ok b _ n
      obtain ⟨e2, _⟩ := ok2 b _ (un.frzs b oz _ n)
      rw [e] at e1
      cases Option.some.inj e1
      exact e2
theorem call_law {mb : Str → Option Value} {k : Nat} {fa a : Addr} {fd : FuncData} {x : Str} {sp : Sp} {z : Shared} {us : List Value} {ns : List Int}
    (kin : K.In z.heap) (gs : z.heap.Ns mainGlobals mg) (bs : z.heap.Ns builtinsNs mb) (boot : ∀ y : Str, y ≠ "__name__" → mb y = bootBuiltins y) (nol : z.heap.NoLimit) (nog : z.gens = #[])
    (script : z.heap.get? a = some { cls := .type "list", data := .seq us.toArray }) (nums : IntsAre us ns) (few : ns.length ≤ sizeLine) (room : Room k callerA)
    (F : ∀ base : Heap, K.In base → base.Ns mainGlobals mg → FnG P w K mg base k fa fd [x] sp) (bind : ∀ (s : Shared) (u : Value), BindsTo s fd ⟨[u], []⟩ [(x, u)])
    (prom : ∀ H : Hp, Only H → SqL K H a (ns.map V.int) → sp [.ref a] H (fun v _ => v = .bl true) fun _ _ _ => False) :
    codeAny (model P w) callerA (.call (.ref fa) ⟨[.ref a], []⟩) (fun res z2 => res = .ok (.ret (.bool true)) ∧ OldK z.heap z2.heap ∧ z2.os = z.os ∧ AllBare z2.gens) z := by
  have vals := vals_ints nums
  cases look : K.lookup a with
  | some o =>
    have e := kin a o look
    rw [script] at e
    obtain rfl := Option.some.inj e
    have sq : SqL K (fun _ => none) a (ns.map V.int) := .inr ⟨_, us.toArray, _, look, rfl, rfl, rfl, by rw [List.size_toArray, nums.length]; exact few, by simpa using vals⟩
    exact call_in (ns := ns) kin gs bs boot nol nog script room F bind (H := fun _ => none) (fun _ => .inl rfl) (fun b u q => nomatch (show (none : Option HO) = some u from q)) (fun b q => absurd rfl q) (fun q => absurd rfl q) (prom _ (fun _ => .inl rfl) sq)
  | none =>
    have H1 : ∀ b u, (if b = a then some (HO.frz { cls := .type "list", data := .seq us.toArray } (.lst (ns.map V.int))) else none) = some u → b = a ∧ u = .frz { cls := .type "list", data := .seq us.toArray } (.lst (ns.map V.int)) := by
      intro b u q
      by_cases hb : b = a
      · rw [if_pos hb] at q
        exact ⟨hb, (Option.some.inj q).symm⟩
      · rw [if_neg hb] at q
        exact nomatch q
    have only : Only fun b => if b = a then some (.frz { cls := .type "list", data := .seq us.toArray } (.lst (ns.map V.int))) else none := fun b => by
      by_cases hb : b = a
      · exact Or.inr ⟨_, _, if_pos hb⟩
      · exact .inl (if_neg hb)
    refine call_in (ns := ns) kin gs bs boot nol nog script room F bind (H := fun b => if b = a then some (.frz { cls := .type "list", data := .seq us.toArray } (.lst (ns.map V.int))) else none) only (fun b u q => ?_) (fun b q => ?_) (fun _ => look) (prom _ only (.inl (.inr ⟨_, if_pos rfl⟩)))
    · obtain ⟨rfl, rfl⟩ := H1 b u q
      exact ⟨script, by rw [List.length_map]; exact few, us, _, vals, script⟩
    · refine Classical.byContradiction fun hb => q ?_
      exact if_neg hb
end
abbrev PartOf {K : PySem.W.Frag} {h : Heap} (_ : K.In h) : PySem.W.Frag := K
/-- the end: what k_head leaves, from the promise of the law's def -/
theorem law_end {l : PySem.W.OpenLaw} {n k : Nat} {q : Program} {loose : List Str} {XP : (Str → Option Value) → Heap → Prop} {YP : World → Heap → Prop} {d : DefRec} {K : Params → PySem.W.Frag} {sp : World → Sp} {x : Str}
    (most : l.most = some n) (few : n ≤ sizeLine) (nodef : d.params.defaults = []) (room : Room k callerA) (part : ∀ (w : World) (h : Heap), YP w h → (K w.params).In h)
    (F : ∀ (w : World) (names : Str → Option Value) (fa : Addr) (h : Heap), (K w.params).In h → h.Ns mainGlobals names → names d.name = some (.ref fa) →
      ∃ fd : FuncData, (∀ (s : Shared) (u : Value), BindsTo s fd ⟨[u], []⟩ [(x, u)]) ∧ ∀ base : Heap, (K w.params).In base → base.Ns mainGlobals names → FnG l.prog w (K w.params) names base k fa fd [x] (sp w))
    (prom : ∀ (w : World) (H : Hp) (a : Addr) (ns : List Int), ns.length ≤ n → Only H → SqL (K w.params) H a (ns.map V.int) → sp w [.ref a] H (fun v _ => v = .bl true) fun _ _ _ => False) : PySem.W.WalkO q loose XP YP l.row.toRowW d [] (fun f vs => PySem.call f vs) := by
  refine Att.attach_call most nodef fun w z0 z1 mg mb fa o pm cd doc a us ns G Y at_ dat rec named script nums le nog => ?_
  have kin := part w _ Y
  obtain ⟨fd, bind, go⟩ := F w mg fa _ kin G.T.g named
  exact call_law kin G.T.g G.T.b G.T.builtins G.T.nolimit nog script nums (Nat.le_trans le few) room go bind fun H only sq => prom w H a ns le only sq
theorem def_mk {K : PySem.W.Frag} {h : Heap} {mg : Str → Option Value} (X : K.In h) (G : h.Ns mainGlobals mg) {name : Str} {st : Stmt} {f : Addr} {oc kV doc pm cd ct : Value} {od an : Option Addr} {sl : Array (Option Value)}
    (a : PySem.W.nsIn K mainGlobals name = some (some (.ref f))) (l : K.lookup f = some ⟨oc, od, .func (PySem.W.fnOf name name (defArgs st) (defBody st) (defScope st) .none kV doc pm an cd ct), sl⟩) (c : PySem.W.codeIn K cd name = true) (k : PySem.W.keepIn K (.ref f) = true) : Nonempty (DefAt K mg name st) :=
  ⟨⟨f, _, fun_mk l c k, PySem.W.mg_of X G a⟩⟩
/-- all that the law's promise asks of the top -/
theorem promised {l : PySem.W.OpenLaw} {w : World} {K : PySem.W.Frag} {h : Heap} {mg : Str → Option Value} {fa fl : Addr} (X : K.In h) (G : h.Ns mainGlobals mg) (named : mg "law" = some (.ref fa))
    {oc kV doc pm cd ct : Value} {od an : Option Addr} {sl : Array (Option Value)}
    (al : PySem.W.nsIn K mainGlobals "law" = some (some (.ref fl))) (ll : K.lookup fl = some ⟨oc, od, .func (PySem.W.fnOf "law" "law" (defArgs sLaw) (defBody sLaw) (defScope sLaw) .none kV doc pm an cd ct), sl⟩) (cl : PySem.W.codeIn K cd "law" = true) (kl : PySem.W.keepIn K (.ref fl) = true)
    (dHd : Nonempty (DefAt K mg "_law_hand" sHand)) (dD : Nonempty (DefAt K mg "_law_draw" sDraw)) (dS : Nonempty (DefAt K mg "_law_shuffled" sShuf)) (dSg : Nonempty (DefAt K mg "_law_signed" sSign)) (dHs : Nonempty (DefAt K mg "_law_heads" sHeads)) (dP : Nonempty (DefAt K mg "_law_product" sProd))
    (dN : Nonempty (DefAt K mg "_law_near" sNear)) (dG : Nonempty (DefAt K mg "_law_great" sGreat)) (dE : Nonempty (DefAt K mg "_law_determined" sDet)) (dT : Nonempty (DefAt K mg "_law_turned" sTurn)) (dM : Nonempty (DefAt K mg "_law_mixed" sMix)) (dL : Nonempty (DefAt K mg "_law_longer" sLong)) (dIs : Nonempty (DefAt K mg "_law_is" sIs))
    (dR : Nonempty (DefAt K mg "rank" sRank)) (dTb : Nonempty (DefAt K mg "is_table" sTab)) (dI : Nonempty (DefAt K mg "is_integer" sInt)) (dO : Nonempty (DefAt K mg "rank_of" sRankOf)) (T : Bt mg) :
    ∃ fd : FuncData, (∀ (s : Shared) (v : Value), BindsTo s fd ⟨[v], []⟩ [("_law_script", v)]) ∧ ∀ base : Heap, K.In base → base.Ns mainGlobals mg → FnG l.prog w K mg base 5 fa fd ["_law_script"] (spLaw K) := by
  have e := named.symm.trans (PySem.W.mg_of X G al)
  obtain rfl := Value.ref.inj (Option.some.inj e)
  obtain ⟨dHd⟩ := dHd
  obtain ⟨dD⟩ := dD
  obtain ⟨dS⟩ := dS
  obtain ⟨dSg⟩ := dSg
  obtain ⟨dHs⟩ := dHs
  obtain ⟨dP⟩ := dP
  obtain ⟨dN⟩ := dN
  obtain ⟨dG⟩ := dG
  obtain ⟨dE⟩ := dE
  obtain ⟨dT⟩ := dT
  obtain ⟨dM⟩ := dM
  obtain ⟨dL⟩ := dL
  obtain ⟨dIs⟩ := dIs
  obtain ⟨dR⟩ := dR
  obtain ⟨dTb⟩ := dTb
  obtain ⟨dI⟩ := dI
  obtain ⟨dO⟩ := dO
  refine ⟨PySem.W.fnOf "law" "law" (defArgs sLaw) (defBody sLaw) (defScope sLaw) .none kV doc pm an cd ct, fun s v => .of_eq rfl, fun base _ _ => ?_⟩
  exact ok_law ⟨fa, _, fun_mk ll cl kl, named⟩ dHd dD dS dSg dHs dP dN dG dE dT dM dL dIs dR dTb dI dO T
end Sa
open PySem PySem.W PyProof.Rows in
set_option maxRecDepth 100000 in
set_option maxHeartbeats 0 in
theorem PySem.Challenge.cw_saidacross_k67_whole_ranks_that_are_know_holds : PySem.Challenge.rw_saidacross_k67_whole_ranks_that_are_know.Holds := by
  w_on; o_law; k_head; (case hw => w_witness2)
  k_fill
  refine Sa.law_end (l := PySem.Challenge.rw_saidacross_k67_whole_ranks_that_are_know) (n := 63) (k := 5) (x := "_law_script") (sp := fun w => Sa.spLaw _) rfl (by decide) rfl ⟨rfl, by decide, by decide⟩ (fun w h Y => PySem.W.kIn_of Y) ?F (fun _ _ a ns le _ sq => ⟨a, ns, rfl, sq, le, fun _ => rfl⟩)
  case F =>
    intro w mg fa h KX G named
    have dHd : Nonempty (Sa.DefAt (Sa.PartOf KX) mg "_law_hand" Sa.sHand) := by
      refine' Sa.def_mk KX G ?a ?l ?c ?k; (case a => k_is); (case l => k_is); (case c => k_is); (case k => k_is)
    have dD : Nonempty (Sa.DefAt (Sa.PartOf KX) mg "_law_draw" Sa.sDraw) := by
      refine' Sa.def_mk KX G ?a ?l ?c ?k; (case a => k_is); (case l => k_is); (case c => k_is); (case k => k_is)
    have dS : Nonempty (Sa.DefAt (Sa.PartOf KX) mg "_law_shuffled" Sa.sShuf) := by
      refine' Sa.def_mk KX G ?a ?l ?c ?k; (case a => k_is); (case l => k_is); (case c => k_is); (case k => k_is)
    have dSg : Nonempty (Sa.DefAt (Sa.PartOf KX) mg "_law_signed" Sa.sSign) := by
      refine' Sa.def_mk KX G ?a ?l ?c ?k; (case a => k_is); (case l => k_is); (case c => k_is); (case k => k_is)
    have dHs : Nonempty (Sa.DefAt (Sa.PartOf KX) mg "_law_heads" Sa.sHeads) := by
      refine' Sa.def_mk KX G ?a ?l ?c ?k; (case a => k_is); (case l => k_is); (case c => k_is); (case k => k_is)
    have dP : Nonempty (Sa.DefAt (Sa.PartOf KX) mg "_law_product" Sa.sProd) := by
      refine' Sa.def_mk KX G ?a ?l ?c ?k; (case a => k_is); (case l => k_is); (case c => k_is); (case k => k_is)
    have dN : Nonempty (Sa.DefAt (Sa.PartOf KX) mg "_law_near" Sa.sNear) := by
      refine' Sa.def_mk KX G ?a ?l ?c ?k; (case a => k_is); (case l => k_is); (case c => k_is); (case k => k_is)
    have dG : Nonempty (Sa.DefAt (Sa.PartOf KX) mg "_law_great" Sa.sGreat) := by
      refine' Sa.def_mk KX G ?a ?l ?c ?k; (case a => k_is); (case l => k_is); (case c => k_is); (case k => k_is)
    have dE : Nonempty (Sa.DefAt (Sa.PartOf KX) mg "_law_determined" Sa.sDet) := by
      refine' Sa.def_mk KX G ?a ?l ?c ?k; (case a => k_is); (case l => k_is); (case c => k_is); (case k => k_is)
    have dT : Nonempty (Sa.DefAt (Sa.PartOf KX) mg "_law_turned" Sa.sTurn) := by
      refine' Sa.def_mk KX G ?a ?l ?c ?k; (case a => k_is); (case l => k_is); (case c => k_is); (case k => k_is)
    have dM : Nonempty (Sa.DefAt (Sa.PartOf KX) mg "_law_mixed" Sa.sMix) := by
      refine' Sa.def_mk KX G ?a ?l ?c ?k; (case a => k_is); (case l => k_is); (case c => k_is); (case k => k_is)
    have dL : Nonempty (Sa.DefAt (Sa.PartOf KX) mg "_law_longer" Sa.sLong) := by
      refine' Sa.def_mk KX G ?a ?l ?c ?k; (case a => k_is); (case l => k_is); (case c => k_is); (case k => k_is)
    have dIs : Nonempty (Sa.DefAt (Sa.PartOf KX) mg "_law_is" Sa.sIs) := by
      refine' Sa.def_mk KX G ?a ?l ?c ?k; (case a => k_is); (case l => k_is); (case c => k_is); (case k => k_is)
    have dR : Nonempty (Sa.DefAt (Sa.PartOf KX) mg "rank" Sa.sRank) := by
      refine' Sa.def_mk KX G ?a ?l ?c ?k; (case a => k_is); (case l => k_is); (case c => k_is); (case k => k_is)
    have dTb : Nonempty (Sa.DefAt (Sa.PartOf KX) mg "is_table" Sa.sTab) := by
      refine' Sa.def_mk KX G ?a ?l ?c ?k; (case a => k_is); (case l => k_is); (case c => k_is); (case k => k_is)
    have dI : Nonempty (Sa.DefAt (Sa.PartOf KX) mg "is_integer" Sa.sInt) := by
      refine' Sa.def_mk KX G ?a ?l ?c ?k; (case a => k_is); (case l => k_is); (case c => k_is); (case k => k_is)
    have dO : Nonempty (Sa.DefAt (Sa.PartOf KX) mg "rank_of" Sa.sRankOf) := by
      refine' Sa.def_mk KX G ?a ?l ?c ?k; (case a => k_is); (case l => k_is); (case c => k_is); (case k => k_is)
    have n_isinstance : mg "isinstance" = none := by
      refine' PySem.W.mg_none_of KX G ?a; (case a => k_is)
    have n_int : mg "int" = none := by
      refine' PySem.W.mg_none_of KX G ?a; (case a => k_is)
    have n_bool : mg "bool" = none := by
      refine' PySem.W.mg_none_of KX G ?a; (case a => k_is)
    have n_list : mg "list" = none := by
      refine' PySem.W.mg_none_of KX G ?a; (case a => k_is)
    have n_len : mg "len" = none := by
      refine' PySem.W.mg_none_of KX G ?a; (case a => k_is)
    have n_all : mg "all" = none := by
      refine' PySem.W.mg_none_of KX G ?a; (case a => k_is)
    have n_abs : mg "abs" = none := by
      refine' PySem.W.mg_none_of KX G ?a; (case a => k_is)
    have n_range : mg "range" = none := by
      refine' PySem.W.mg_none_of KX G ?a; (case a => k_is)
    have n_zip : mg "zip" = none := by
      refine' PySem.W.mg_none_of KX G ?a; (case a => k_is)
    have n_repr : mg "repr" = none := by
      refine' PySem.W.mg_none_of KX G ?a; (case a => k_is)
    have n_sum : mg "sum" = none := by
      refine' PySem.W.mg_none_of KX G ?a; (case a => k_is)
    have n_max : mg "max" = none := by
      refine' PySem.W.mg_none_of KX G ?a; (case a => k_is)
    have n_min : mg "min" = none := by
      refine' PySem.W.mg_none_of KX G ?a; (case a => k_is)
    have c_lines : ∃ t, mg "MOST_LINES" = some (.int 128 t) := by
      have q : ∃ u : Value, mg "MOST_LINES" = some u ∧ ∃ t, u = .int 128 t := by
        refine' ⟨_, PySem.W.mg_of KX G ?a, ?b⟩; (case a => k_is); (case b => exact ⟨_, rfl⟩)
      obtain ⟨u, e, t, rfl⟩ := q
      exact ⟨t, e⟩
    have c_number : ∃ t, mg "MOST_NUMBER" = some (.int 1000000000 t) := by
      have q : ∃ u : Value, mg "MOST_NUMBER" = some u ∧ ∃ t, u = .int 1000000000 t := by
        refine' ⟨_, PySem.W.mg_of KX G ?a, ?b⟩; (case a => k_is); (case b => exact ⟨_, rfl⟩)
      obtain ⟨u, e, t, rfl⟩ := q
      exact ⟨t, e⟩
    have bt : Sa.Bt mg := ⟨n_isinstance, n_int, n_bool, n_list, n_len, n_all, n_abs, n_range, n_zip, n_repr, n_sum, n_max, n_min, c_lines, c_number⟩
    refine' Sa.promised KX G named ?a ?l ?c ?k dHd dD dS dSg dHs dP dN dG dE dT dM dL dIs dR dTb dI dO bt; (case a => k_is); (case l => k_is); (case c => k_is); (case k => k_is)
