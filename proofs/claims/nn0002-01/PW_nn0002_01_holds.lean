import PyProof.Rows.All
import Wide.All
import OpenK.AllK
import Wide.FinOn
import Lean
import PySem.Challenge.RW_nn0002_01
open PySem PySem.W PyProof.Rows
set_option Elab.async false

namespace Mine
set_option maxRecDepth 100000 in
set_option maxHeartbeats 8000000 in
open_top hd for PySem.Challenge.rw_nn0002_01
end Mine

namespace Mine

/-- the digits of n to the base b, the least one first, no nought at the end -/
def limbs (b n : Nat) : List Int :=
  if _h : 2 ≤ b ∧ 0 < n then ((n % b : Nat) : Int) :: limbs b (n / b) else []
termination_by n
decreasing_by exact Nat.div_lt_self _h.2 _h.1

/-- the lowest i digits of n to the base b -/
def digs (b : Nat) : Nat → Nat → List Int
  | 0, _ => []
  | i + 1, n => digs b i n ++ [((n / b ^ i % b : Nat) : Int)]

/-- a call of f with vs, what it hands on being told by Ret -/
def Con (w : World) (f : Addr) (vs : List Value) (need : Nat) (news : List (Addr × Obj)) (Ret : Heap → Addr → (Str → Option Value) → (Nat → Value → Heap → Prop) → Prop) : Prop :=
  ∀ (loose : List Str) (mean : ExcName → Option Value) (mg mb : Str → Option Value) (dp un : Nat) (gd : Option (List Code)) (cn : Str) (cs : Scope) (a : Addr) (ccd : Value) (cl : List (Str × Addr)) (outer : List Env) (A₀ : Around) (base h₀ : Heap) (L : Addr) (m : Str → Option Value) (s : Shared) (Q E : Value → Shared → Prop),
    Below A₀ base outer h₀ → Fr h₀ L s.heap m → (hd.heap_39 w.params).In h₀ → News h₀ L s.heap news → Top topProg loose mean mg mb h₀ → cs.kind = .function → dp + need < recursionLimit → un + 8 * need < cLine →
    Ret h₀ L m (fun tk r h => Q r { s with heap := h, toks := tk }) →
    wpAny (model PySem.Challenge.rw_nn0002_01.prog w) (ktrTop dp un gd cn cs L a ccd cl outer) (call (.ref f) vs) Q E s

theorem Con.use {w : World} {f : Addr} {vs : List Value} {need : Nat} {news : List (Addr × Obj)} {Ret : Heap → Addr → (Str → Option Value) → (Nat → Value → Heap → Prop) → Prop} (C : Con w f vs need news Ret)
    {loose : List Str} {mean : ExcName → Option Value} {mg mb : Str → Option Value} {dp un : Nat} {gd : Option (List Code)} {cn : Str} {cs : Scope} {a : Addr} {ccd : Value} {cl : List (Str × Addr)} {outer : List Env} {A₀ : Around} {base h₀ : Heap} {L : Addr} {m : Str → Option Value} {s : Shared} {Q E : Value → Shared → Prop}
    (B : Below A₀ base outer h₀) (F : Fr h₀ L s.heap m) (X : (hd.heap_39 w.params).In h₀) (N : News h₀ L s.heap news) (T : Top topProg loose mean mg mb h₀) (hk : cs.kind = .function) (hd : dp + need < recursionLimit) (hu : un + 8 * need < cLine)
    (R : Ret h₀ L m (fun tk r h => Q r { s with heap := h, toks := tk })) :
    wpAny (model PySem.Challenge.rw_nn0002_01.prog w) (ktrTop dp un gd cn cs L a ccd cl outer) (call (.ref f) vs) Q E s :=
  C _ _ _ _ _ _ _ _ _ _ _ _ _ _ _ _ _ _ _ _ _ B F X N T hk hd hu R
/-- it hands on a new list of the ints R -/
def RetL (news : List (Addr × Obj)) (R : List Int) (h₀ : Heap) (L : Addr) (m : Str → Option Value) (Q : Nat → Value → Heap → Prop) : Prop :=
  ∀ (l : Addr) (us : List Value) (nn : Nat) (h' : Heap) (tk : Nat), Fr h₀ L h' m → News h₀ L h' ((l, listOf us.toArray nn) :: news) → (∀ p ∈ news, p.1 < l) → IntsAre us R → Q tk (.ref l) h'
/-- it hands on the int R -/
def RetI (news : List (Addr × Obj)) (R : Int) (h₀ : Heap) (L : Addr) (m : Str → Option Value) (Q : Nat → Value → Heap → Prop) : Prop :=
  ∀ (t : Nat) (h' : Heap) (tk : Nat), Fr h₀ L h' m → News h₀ L h' news → Q tk (.int R t) h'
theorem news_head {h₀ h : Heap} {L a : Addr} {o : Obj} {news : List (Addr × Obj)} (_N : News h₀ L h ((a, o) :: news)) : ∃ x, x = a := ⟨a, rfl⟩
theorem news_front {h₀ h : Heap} {L : Addr} {p : Addr × Obj} {news : List (Addr × Obj)} (N : News h₀ L h news) (hp : p ∈ news) : News h₀ L h (p :: news) := fun q hq => by
  rcases List.mem_cons.mp hq with rfl | hq
  · exact N _ hp
  · exact N _ hq
theorem news_second {h₀ h : Heap} {L a : Addr} {o : Obj} {p : Addr × Obj} {news : List (Addr × Obj)} (_N : News h₀ L h (p :: (a, o) :: news)) : ∃ x, x = a := ⟨a, rfl⟩
theorem news_drop1 {h₀ h : Heap} {L : Addr} {p : Addr × Obj} {news : List (Addr × Obj)} (N : News h₀ L h (p :: news)) : News h₀ L h news := fun q hq => N q (List.mem_cons_of_mem _ hq)
theorem news_drop2 {h₀ h : Heap} {L : Addr} {p q : Addr × Obj} {news : List (Addr × Obj)} (N : News h₀ L h (p :: q :: news)) : News h₀ L h (p :: news) := fun r hr => by
  rcases List.mem_cons.mp hr with rfl | hr
  · exact N _ List.mem_cons_self
  · exact N _ (List.mem_cons_of_mem _ (List.mem_cons_of_mem _ hr))
theorem mem_app3 {a b c : Addr × Obj} {n o : List (Addr × Obj)} : ∀ p ∈ a :: b :: c :: n, p ∈ a :: b :: c :: (n ++ o) := by
  intro p hp
  simp only [List.mem_cons, List.mem_append] at hp ⊢
  rcases hp with h | h | h | h <;> simp [h]
theorem own_app3 {a b c : Addr × Obj} {n o : List (Addr × Obj)} : ∀ p ∈ o, p ∈ a :: b :: c :: (n ++ o) := by
  intro p hp
  simp only [List.mem_cons, List.mem_append]
  simp [hp]
theorem mem_app2 {a b : Addr × Obj} {n o : List (Addr × Obj)} : ∀ p ∈ a :: b :: n, p ∈ a :: b :: (n ++ o) := by
  intro p hp
  simp only [List.mem_cons, List.mem_append] at hp ⊢
  rcases hp with h | h | h <;> simp [h]
theorem own_app2 {a b : Addr × Obj} {n o : List (Addr × Obj)} : ∀ p ∈ o, p ∈ a :: b :: (n ++ o) := by
  intro p hp
  simp only [List.mem_cons, List.mem_append]
  simp [hp]
end Mine

namespace Mine
theorem limbs_zero {b : Nat} : limbs b 0 = [] := by rw [limbs]; simp
theorem limbs_pos {b n : Nat} (hb : 2 ≤ b) (hn : 0 < n) : limbs b n = ((n % b : Nat) : Int) :: limbs b (n / b) := by
  rw [limbs, dif_pos ⟨hb, hn⟩]
theorem div_step {b i n : Nat} : n / b / b ^ i = n / b ^ (i + 1) := by
  rw [Nat.div_div_eq_div_mul, Nat.pow_succ, Nat.mul_comm]
theorem div_step' {b i n : Nat} : n / b ^ i / b = n / b ^ (i + 1) := by
  rw [Nat.div_div_eq_div_mul, Nat.pow_succ]
theorem digs_cons {b : Nat} : ∀ i n, digs b (i + 1) n = ((n % b : Nat) : Int) :: digs b i (n / b)
  | 0, n => by simp [digs]
  | i + 1, n => by
    rw [digs, digs_cons i n, digs, List.cons_append, div_step]
theorem digs_length {b n D : Nat} : (digs b n D).length = n := by
  induction n with
  | zero => rfl
  | succ n ih => rw [digs, List.length_append, ih]; rfl
theorem digs_limbs {b : Nat} (hb : 2 ≤ b) : ∀ i n, n < b ^ i → (i = 0 ∨ b ^ (i - 1) ≤ n) → digs b i n = limbs b n
  | 0, n, h, _ => by
    have : n = 0 := by simpa using h
    subst this
    rw [limbs_zero, digs]
  | i + 1, n, h, h2 => by
    have h3 : b ^ i ≤ n := by rcases h2 with h2 | h2; cases h2; simpa using h2
    have hp : 0 < b ^ i := Nat.pow_pos (by omega)
    rw [limbs_pos hb (by omega), digs_cons, digs_limbs hb i (n / b)]
    · rw [Nat.div_lt_iff_lt_mul (by omega), ← Nat.pow_succ]; exact h
    · cases i with
      | zero => exact .inl rfl
      | succ i =>
        right
        rw [Nat.le_div_iff_mul_le (by omega)]
        simpa [Nat.pow_succ] using h3
theorem limbs_le_iff {b : Nat} (hb : 2 ≤ b) : ∀ i n, (limbs b n).length ≤ i ↔ n < b ^ i
  | i, 0 => by
    rw [limbs_zero]
    have : 0 < b ^ i := Nat.pow_pos (by omega)
    simp [this]
  | 0, n + 1 => by
    rw [limbs_pos hb (by omega)]
    simp
  | i + 1, n + 1 => by
    rw [limbs_pos hb (by omega), List.length_cons, Nat.add_le_add_iff_right, limbs_le_iff hb i, Nat.div_lt_iff_lt_mul (by omega), ← Nat.pow_succ]
theorem limbs_getD {b : Nat} (hb : 2 ≤ b) : ∀ j n, (limbs b n).getD j 0 = ((n / b ^ j % b : Nat) : Int)
  | j, 0 => by rw [limbs_zero]; simp
  | 0, n + 1 => by rw [limbs_pos hb (by omega)]; simp
  | j + 1, n + 1 => by
    rw [limbs_pos hb (by omega), List.getD_cons_succ, limbs_getD hb j, div_step]
theorem limbs_mem {b : Nat} (hb : 2 ≤ b) {n : Nat} : ∀ x ∈ limbs b n, 0 ≤ x ∧ x < (b : Int) := by
  intro x hx
  obtain ⟨j, hj, rfl⟩ := List.getElem_of_mem hx
  have h := limbs_getD hb j n
  have e : (limbs b n).getD j 0 = (limbs b n)[j] := by simp [List.getD, hj]
  rw [← e, h]
  have := Nat.mod_lt (n / b ^ j) (show 0 < b by omega)
  omega
theorem limbs_nil {b n : Nat} (h : limbs b n = []) (hb : 2 ≤ b) : n = 0 := by
  have := (limbs_le_iff hb 0 n).mp (by rw [h]; simp)
  simpa using this
theorem two_le_b {k : Int} (h3 : 3 ≤ k) : 2 ≤ 2 ^ k.toNat := by
  have : 2 ^ 1 ≤ 2 ^ k.toNat := Nat.pow_le_pow_right (by omega) (by omega)
  omega
theorem digs_getD {b : Nat} : ∀ n D e, e < n → (digs b n D).getD e 0 = ((D / b ^ e % b : Nat) : Int)
  | 0, D, e, h => by omega
  | n + 1, D, 0, h => by rw [digs_cons]; simp
  | n + 1, D, e + 1, h => by rw [digs_cons, List.getD_cons_succ, digs_getD n _ e (by omega), div_step]
theorem digs_take {b : Nat} : ∀ n D e, e ≤ n → (digs b n D).take e = digs b e D
  | n, D, 0, h => by simp [digs]
  | 0, D, e + 1, h => by omega
  | n + 1, D, e + 1, h => by rw [digs_cons, List.take_succ_cons, digs_take n _ e (by omega), digs_cons]
theorem cast_b {k : Int} : (((2 ^ k.toNat : Nat)) : Int) = (2 : Int) ^ k.toNat := by norm_cast
-- row
def CAP : Nat := 300
structure Fits (N : Nat) : Prop where
  lt : N < 2 ^ 300
theorem Fits.le {a b : Nat} (h : Fits b) (hab : a ≤ b) : Fits a := ⟨Nat.lt_of_le_of_lt hab h.lt⟩
def RowP (N : Nat) (k n : Int) (found : List Int) : Prop := ∃ i : Nat, i ≤ CAP ∧ (i = 0 ∨ (2 ^ k.toNat) ^ (i - 1) ≤ N) ∧ n = ((N / (2 ^ k.toNat) ^ i : Nat) : Int) ∧ found = digs (2 ^ k.toNat) i N
theorem row_start {N : Nat} {k : Int} : RowP N k (N : Int) [] := ⟨0, by decide, .inl rfl, by simp, rfl⟩
theorem row_turn {N : Nat} {k n : Int} {found : List Int} (h : RowP N k n found) (h3 : 3 ≤ k) (hn : 0 < n) (hN : Fits N) : RowP N k (n.fdiv (2 ^ k.toNat)) (found ++ [n.fmod (2 ^ k.toNat)]) := by
  obtain ⟨i, hi, _, rfl, rfl⟩ := h
  have hb := two_le_b h3
  have hpos : 0 < (2 ^ k.toNat) ^ i := Nat.pow_pos (by omega)
  have hge : (2 ^ k.toNat) ^ i ≤ N := by
    refine Nat.le_of_not_lt fun hc => ?_
    rw [Nat.div_eq_of_lt hc] at hn
    simp at hn
  refine ⟨i + 1, ?_, .inr (by simpa using hge), ?_, ?_⟩
  · have : i < CAP := by
      refine Nat.lt_of_not_le fun hc => ?_
      have h1 : 2 ^ 300 ≤ (2 ^ k.toNat) ^ i := by
        rw [← Nat.pow_mul]
        refine Nat.pow_le_pow_right (by omega) ?_
        have : 1 * 300 ≤ k.toNat * i := Nat.mul_le_mul (by omega) hc
        omega
      exact absurd hN.lt (Nat.not_lt.mpr (Nat.le_trans h1 hge))
    exact this
  · rw [← cast_b, Int.fdiv_eq_ediv_of_nonneg _ (by omega), ← Int.natCast_ediv, div_step']
  · rw [digs, ← cast_b, Int.fmod_eq_emod_of_nonneg _ (by omega), ← Int.natCast_emod]
theorem row_len {N : Nat} {k n : Int} {found : List Int} (h : RowP N k n found) : found.length ≤ 300 := by
  obtain ⟨i, hi, _, _, rfl⟩ := h
  rw [digs_length]
  exact hi
theorem row_less {k n : Int} (h3 : 3 ≤ k) (hn : 0 < n) : (n.fdiv (2 ^ k.toNat)).toNat < n.toNat := by
  have hb := two_le_b h3
  obtain ⟨m, rfl⟩ : ∃ m : Nat, n = (m : Int) := ⟨n.toNat, by omega⟩
  rw [← cast_b, Int.fdiv_eq_ediv_of_nonneg _ (by omega), ← Int.natCast_ediv]
  have := Nat.div_lt_self (show 0 < m by omega) (show 1 < 2 ^ k.toNat by omega)
  omega
theorem row_end {N : Nat} {k n : Int} {found : List Int} (h : RowP N k n found) (h3 : 3 ≤ k) (hn : ¬ 0 < n) : found = limbs (2 ^ k.toNat) N := by
  obtain ⟨i, hi, hc, rfl, rfl⟩ := h
  have hb := two_le_b h3
  refine digs_limbs hb i N ?_ hc
  have hpos : 0 < (2 ^ k.toNat) ^ i := Nat.pow_pos (by omega)
  have h0 : N / (2 ^ k.toNat) ^ i = 0 := by generalize N / (2 ^ k.toNat) ^ i = q at *; omega
  exact (Nat.div_eq_zero_iff_lt hpos).mp h0
-- cmp
theorem cmp_len {M N : Nat} {k : Int} {xs ys : List Int} (h3 : 3 ≤ k) (ex : xs = limbs (2 ^ k.toNat) M) (ey : ys = limbs (2 ^ k.toNat) N) (h : N ≤ M) : ys.length ≤ xs.length := by
  have hb := two_le_b h3
  rw [ey, limbs_le_iff hb]
  exact Nat.lt_of_le_of_lt h ((limbs_le_iff hb _ _).mp (by rw [ex]; exact Nat.le_refl _))
theorem cmp_turn {M N j : Nat} {k : Int} {xs ys : List Int} (h3 : 3 ≤ k) (ex : xs = limbs (2 ^ k.toNat) M) (ey : ys = limbs (2 ^ k.toNat) N) (h : M / (2 ^ k.toNat) ^ (j + 1) = N / (2 ^ k.toNat) ^ (j + 1)) (he : xs.getD j 0 = ys.getD j 0) :
    M / (2 ^ k.toNat) ^ j = N / (2 ^ k.toNat) ^ j := by
  have hb := two_le_b h3
  rw [ex, ey, limbs_getD hb, limbs_getD hb] at he
  rw [← div_step', ← div_step'] at h
  have h1 := Nat.div_add_mod (M / (2 ^ k.toNat) ^ j) (2 ^ k.toNat)
  have h2 := Nat.div_add_mod (N / (2 ^ k.toNat) ^ j) (2 ^ k.toNat)
  rw [h] at h1
  omega
theorem cmp_less {M N j : Nat} {k : Int} {xs ys : List Int} (h3 : 3 ≤ k) (ex : xs = limbs (2 ^ k.toNat) M) (ey : ys = limbs (2 ^ k.toNat) N) (h : M / (2 ^ k.toNat) ^ (j + 1) = N / (2 ^ k.toNat) ^ (j + 1)) (hNM : N ≤ M) : ¬ xs.getD j 0 < ys.getD j 0 := by
  have hb := two_le_b h3
  intro he
  rw [ex, ey, limbs_getD hb, limbs_getD hb] at he
  rw [← div_step', ← div_step'] at h
  have h1 := Nat.div_add_mod (M / (2 ^ k.toNat) ^ j) (2 ^ k.toNat)
  have h2 := Nat.div_add_mod (N / (2 ^ k.toNat) ^ j) (2 ^ k.toNat)
  rw [h] at h1
  have h4 : N / (2 ^ k.toNat) ^ j ≤ M / (2 ^ k.toNat) ^ j := Nat.div_le_div_right hNM
  omega
theorem cmp_start {M N j : Nat} {k : Int} {xs ys : List Int} (h3 : 3 ≤ k) (ex : xs = limbs (2 ^ k.toNat) M) (ey : ys = limbs (2 ^ k.toNat) N) (hj : xs.length ≤ j) (hj' : ys.length ≤ j) : M / (2 ^ k.toNat) ^ j = N / (2 ^ k.toNat) ^ j := by
  have hb := two_le_b h3
  rw [ex, limbs_le_iff hb] at hj
  rw [ey, limbs_le_iff hb] at hj'
  rw [Nat.div_eq_of_lt hj, Nat.div_eq_of_lt hj']
-- norm
/-- the digits from e on are noughts -/
def NormP (b D e : Nat) : Prop := D < b ^ e
theorem norm_turn {k : Int} {D n e : Nat} {xs : List Int} (h3 : 3 ≤ k) (ex : xs = digs (2 ^ k.toNat) n D) (h : NormP (2 ^ k.toNat) D (e + 1)) (he : e + 1 ≤ n) (hz : xs.getD e 0 = 0) : NormP (2 ^ k.toNat) D e := by
  have hb := two_le_b h3
  have hpos : 0 < (2 ^ k.toNat) ^ e := Nat.pow_pos (by omega)
  rw [ex, digs_getD _ _ _ (by omega)] at hz
  unfold NormP at h ⊢
  rw [Nat.pow_succ, Nat.mul_comm, ← Nat.div_lt_iff_lt_mul hpos] at h
  rw [Nat.mod_eq_of_lt h] at hz
  exact (Nat.div_eq_zero_iff_lt hpos).mp (by omega)
theorem norm_end0 {k : Int} {D n : Nat} {xs : List Int} (h3 : 3 ≤ k) (ex : xs = digs (2 ^ k.toNat) n D) (h : NormP (2 ^ k.toNat) D 0) : xs.take 0 = limbs (2 ^ k.toNat) D := by
  unfold NormP at h
  have : D = 0 := by simpa using h
  subst this
  rw [limbs_zero]
  rfl
theorem norm_end1 {k : Int} {D n e : Nat} {xs : List Int} (h3 : 3 ≤ k) (ex : xs = digs (2 ^ k.toNat) n D) (h : NormP (2 ^ k.toNat) D (e + 1)) (he : e + 1 ≤ n) (hz : xs.getD e 0 ≠ 0) : xs.take (e + 1) = limbs (2 ^ k.toNat) D := by
  have hb := two_le_b h3
  rw [ex, digs_getD _ _ _ (by omega)] at hz
  rw [ex, digs_take _ _ _ he]
  refine digs_limbs hb _ _ h (.inr ?_)
  refine Nat.le_of_not_lt fun hc => hz ?_
  rw [Nat.add_sub_cancel] at hc
  rw [Nat.div_eq_of_lt hc]
  simp
-- sub
theorem getD_out {xs : List Int} {j : Nat} (h : xs.length ≤ j) : (0 : Int) = xs.getD j 0 := by
  simp [List.getD, List.getElem?_eq_none h]
def SubP (b M N : Nat) (i : Nat) (borrow : Int) (found : List Int) : Prop := borrow = (if M % b ^ i < N % b ^ i then 1 else 0) ∧ found = digs b i (M - N)
theorem sub_start {b M N : Nat} : SubP b M N 0 0 [] := by
  refine ⟨?_, rfl⟩
  simp [Nat.mod_one]
theorem sub_quot {M N P : Nat} (hP : 0 < P) (h : N ≤ M) : (((M - N) / P : Nat) : Int) = ((M / P : Nat) : Int) - ((N / P : Nat) : Int) - (if M % P < N % P then 1 else 0) := by
  have e1 := Nat.div_add_mod M P
  have e2 := Nat.div_add_mod N P
  have m1 := Nat.mod_lt M hP
  have m2 := Nat.mod_lt N hP
  have hq : N / P ≤ M / P := Nat.div_le_div_right h
  by_cases hc : M % P < N % P
  · rw [if_pos hc]
    have hq' : N / P < M / P := by
      refine Nat.lt_of_le_of_ne hq fun he => ?_
      rw [he] at e2
      omega
    have hq2 : P * (N / P + 1) ≤ P * (M / P) := Nat.mul_le_mul_left _ hq'
    have e3 : M - N = P * (M / P - N / P - 1) + (P + M % P - N % P) := by
      rw [Nat.mul_sub, Nat.mul_sub, Nat.mul_one]
      rw [Nat.mul_add, Nat.mul_one] at hq2
      omega
    have : (M - N) / P = M / P - N / P - 1 := by
      rw [e3, Nat.mul_add_div hP, Nat.div_eq_of_lt (show P + M % P - N % P < P by omega), Nat.add_zero]
    omega
  · rw [if_neg hc]
    have hq2 : P * (N / P) ≤ P * (M / P) := Nat.mul_le_mul_left _ hq
    have e3 : M - N = P * (M / P - N / P) + (M % P - N % P) := by
      rw [Nat.mul_sub]
      omega
    have : (M - N) / P = M / P - N / P := by
      rw [e3, Nat.mul_add_div hP, Nat.div_eq_of_lt (show M % P - N % P < P by omega), Nat.add_zero]
    omega
theorem lt_step {P x y m n : Nat} (hm : m < P) (hn : n < P) : P * x + m < P * y + n ↔ (x : Int) - y - (if m < n then 1 else 0) < 0 := by
  rcases Nat.lt_trichotomy x y with h | h | h
  · have : P * (x + 1) ≤ P * y := Nat.mul_le_mul_left _ h
    rw [Nat.mul_add] at this
    constructor
    · intro _; split <;> omega
    · intro _; omega
  · subst h
    by_cases hc : m < n
    · rw [if_pos hc]; omega
    · rw [if_neg hc]; omega
  · have : P * (y + 1) ≤ P * x := Nat.mul_le_mul_left _ h
    rw [Nat.mul_add] at this
    constructor
    · intro _; omega
    · intro h2; split at h2 <;> omega
theorem sub_turn {M N j b : Nat} {borrow x y : Int} {found : List Int} (h : SubP b M N j borrow found) (hb : 2 ≤ b) (hNM : N ≤ M) (hx : x = ((M / b ^ j % b : Nat) : Int)) (hy : y = ((N / b ^ j % b : Nat) : Int)) :
    SubP b M N (j + 1) (if x - borrow - y < 0 then 1 else 0) (found ++ [if x - borrow - y < 0 then x - borrow - y + b else x - borrow - y]) := by
  obtain ⟨rfl, rfl⟩ := h
  have hP : 0 < b ^ j := Nat.pow_pos (by omega)
  have hq := sub_quot hP hNM
  have mx := Nat.mod_lt (M / b ^ j) (show 0 < b by omega)
  have my := Nat.mod_lt (N / b ^ j) (show 0 < b by omega)
  have lt := lt_step (x := M / b ^ j % b) (y := N / b ^ j % b) (Nat.mod_lt M hP) (Nat.mod_lt N hP)
  have exy : x - (if M % b ^ j < N % b ^ j then 1 else 0) - y = x - y - (if M % b ^ j < N % b ^ j then 1 else 0) := by omega
  rw [exy]
  constructor
  · rw [Nat.mod_pow_succ, Nat.mod_pow_succ, Nat.add_comm (M % b ^ j), Nat.add_comm (N % b ^ j), hx, hy]
    by_cases hc : b ^ j * (M / b ^ j % b) + M % b ^ j < b ^ j * (N / b ^ j % b) + N % b ^ j
    · rw [if_pos hc, if_pos (lt.mp hc)]
    · rw [if_neg hc, if_neg (fun h => hc (lt.mpr h))]
  · rw [digs]
    congr 2
    rw [Int.natCast_emod, hq]
    have e1 : ((M / b ^ j : Nat) : Int) = b * ((M / b ^ j / b : Nat) : Int) + x := by
      rw [hx]
      have := Nat.div_add_mod (M / b ^ j) b
      exact_mod_cast this.symm
    have e2 : ((N / b ^ j : Nat) : Int) = b * ((N / b ^ j / b : Nat) : Int) + y := by
      rw [hy]
      have := Nat.div_add_mod (N / b ^ j) b
      exact_mod_cast this.symm
    rw [e1, e2]
    generalize ((M / b ^ j / b : Nat) : Int) = p
    generalize ((N / b ^ j / b : Nat) : Int) = q
    generalize hbr : (if M % b ^ j < N % b ^ j then (1 : Int) else 0) = br
    have hbr2 : br = 0 ∨ br = 1 := by rw [← hbr]; split <;> simp
    by_cases hc : x - y - br < 0
    · rw [if_pos hc]
      have e3 : (b : Int) * p + x - (b * q + y) - br = (x - y - br + b) + b * (p - q - 1) := by
        rw [Int.mul_sub, Int.mul_sub]; omega
      rw [e3, Int.add_mul_emod_self_left, Int.emod_eq_of_lt] <;> omega
    · rw [if_neg hc]
      have e3 : (b : Int) * p + x - (b * q + y) - br = (x - y - br) + b * (p - q) := by
        rw [Int.mul_sub]; omega
      rw [e3, Int.add_mul_emod_self_left, Int.emod_eq_of_lt] <;> omega
theorem sub_turn_neg {M N j : Nat} {k borrow y : Int} {found xs ys : List Int} (h : SubP (2 ^ k.toNat) M N j borrow found) (h3 : 3 ≤ k) (hNM : N ≤ M) (ex : xs = limbs (2 ^ k.toNat) M) (ey : ys = limbs (2 ^ k.toNat) N) (hy : y = ys.getD j 0) (hn : xs.getD j 0 - borrow - y < 0) :
    SubP (2 ^ k.toNat) M N (j + 1) 1 (found ++ [xs.getD j 0 - borrow - y + 1 * 2 ^ k.toNat]) := by
  have hb := two_le_b h3
  have := sub_turn h hb hNM (x := xs.getD j 0) (y := y) (by rw [ex, limbs_getD hb]) (by rw [hy, ey, limbs_getD hb])
  rw [if_pos hn, if_pos hn, cast_b] at this
  rwa [Int.one_mul]
theorem sub_turn_pos {M N j : Nat} {k borrow y : Int} {found xs ys : List Int} (h : SubP (2 ^ k.toNat) M N j borrow found) (h3 : 3 ≤ k) (hNM : N ≤ M) (ex : xs = limbs (2 ^ k.toNat) M) (ey : ys = limbs (2 ^ k.toNat) N) (hy : y = ys.getD j 0) (hn : ¬ xs.getD j 0 - borrow - y < 0) :
    SubP (2 ^ k.toNat) M N (j + 1) 0 (found ++ [xs.getD j 0 - borrow - y]) := by
  have hb := two_le_b h3
  have := sub_turn h hb hNM (x := xs.getD j 0) (y := y) (by rw [ex, limbs_getD hb]) (by rw [hy, ey, limbs_getD hb])
  rwa [if_neg hn, if_neg hn] at this
theorem sub_end {M N : Nat} {k borrow : Int} {found xs : List Int} (h : SubP (2 ^ k.toNat) M N xs.length borrow found) (ex : xs = limbs (2 ^ k.toNat) M) (hNM : N ≤ M) (h3 : 3 ≤ k) :
    found = digs (2 ^ k.toNat) xs.length (M - N) ∧ NormP (2 ^ k.toNat) (M - N) xs.length := by
  have hb := two_le_b h3
  refine ⟨h.2, ?_⟩
  have : M < (2 ^ k.toNat) ^ xs.length := (limbs_le_iff hb _ _).mp (by rw [ex]; exact Nat.le_refl _)
  exact Nat.lt_of_le_of_lt (Nat.sub_le _ _) this
-- add
def AddP (b M N : Nat) (i : Nat) (carry : Int) (found : List Int) : Prop := carry = (((M % b ^ i + N % b ^ i) / b ^ i : Nat) : Int) ∧ found = digs b i (M + N)
theorem add_start {b M N : Nat} : AddP b M N 0 0 [] := by
  refine ⟨?_, rfl⟩
  simp [Nat.mod_one]
theorem add_step {M N j b : Nat} {carry x y : Int} {found : List Int} (h : AddP b M N j carry found) (hb : 2 ≤ b) (hx : x = ((M / b ^ j % b : Nat) : Int)) (hy : y = ((N / b ^ j % b : Nat) : Int)) :
    AddP b M N (j + 1) ((carry + (x + y)) / b) (found ++ [(carry + (x + y)) % b]) := by
  obtain ⟨rfl, rfl⟩ := h
  have hP : 0 < b ^ j := Nat.pow_pos (by omega)
  subst hx hy
  rw [← Int.natCast_add, ← Int.natCast_add, ← Int.natCast_ediv, ← Int.natCast_emod]
  constructor
  · congr 1
    have e : M % b ^ (j + 1) + N % b ^ (j + 1) = b ^ j * (M / b ^ j % b + N / b ^ j % b) + (M % b ^ j + N % b ^ j) := by
      rw [Nat.mod_pow_succ, Nat.mod_pow_succ, Nat.mul_add]; omega
    rw [e, Nat.pow_succ, ← Nat.div_div_eq_div_mul, Nat.mul_add_div hP, Nat.add_comm]
  · rw [digs]
    congr 3
    have e : M + N = b ^ j * (M / b ^ j + N / b ^ j) + (M % b ^ j + N % b ^ j) := by
      have e1 := Nat.div_add_mod M (b ^ j)
      have e2 := Nat.div_add_mod N (b ^ j)
      rw [Nat.mul_add]; omega
    conv => rhs; rw [e, Nat.mul_add_div hP]
    rw [Nat.add_comm, Nat.add_mod, ← Nat.add_mod (M / b ^ j), ← Nat.add_mod]
theorem mask_b {k : Int} (s : Int) : Builtin.bitAnd s (1 * 2 ^ k.toNat - 1) = s % ((2 ^ k.toNat : Nat) : Int) := by
  rw [Int.one_mul, kbt_mask, cast_b]
theorem fdiv_b {k : Int} (s : Int) : s.fdiv (2 ^ k.toNat) = s / ((2 ^ k.toNat : Nat) : Int) := by
  rw [← cast_b, Int.fdiv_eq_ediv_of_nonneg _ (Int.natCast_nonneg _)]
theorem add_turn {M N j : Nat} {k carry : Int} {found xs ys : List Int} (h : AddP (2 ^ k.toNat) M N j carry found) (h3 : 3 ≤ k) (ex : xs = limbs (2 ^ k.toNat) M) (ey : ys = limbs (2 ^ k.toNat) N) :
    AddP (2 ^ k.toNat) M N (j + 1) ((carry + (xs.getD j 0 + ys.getD j 0)).fdiv (2 ^ k.toNat)) (found ++ [Builtin.bitAnd (carry + (xs.getD j 0 + ys.getD j 0)) (1 * 2 ^ k.toNat - 1)]) := by
  have hb := two_le_b h3
  rw [mask_b, fdiv_b]
  exact add_step h hb (by rw [ex, limbs_getD hb]) (by rw [ey, limbs_getD hb])
theorem add_turn1 {M N j : Nat} {k carry : Int} {found xs ys : List Int} (h : AddP (2 ^ k.toNat) M N j carry found) (h3 : 3 ≤ k) (ex : xs = limbs (2 ^ k.toNat) M) (ey : ys = limbs (2 ^ k.toNat) N) (hj : ys.length ≤ j) :
    AddP (2 ^ k.toNat) M N (j + 1) ((carry + xs.getD j 0).fdiv (2 ^ k.toNat)) (found ++ [Builtin.bitAnd (carry + xs.getD j 0) (1 * 2 ^ k.toNat - 1)]) := by
  have := add_turn h h3 ex ey
  rwa [← getD_out hj, Int.add_zero] at this
theorem add_end1 {M N : Nat} {k carry : Int} {found xs ys : List Int} (h : AddP (2 ^ k.toNat) M N xs.length carry found) (h3 : 3 ≤ k) (ex : xs = limbs (2 ^ k.toNat) M) (ey : ys = limbs (2 ^ k.toNat) N) (hj : ys.length ≤ xs.length) (hc : 0 < carry) :
    found ++ [carry] = limbs (2 ^ k.toNat) (M + N) := by
  have hb := two_le_b h3
  obtain ⟨h1, h2⟩ := h
  have hM : M < (2 ^ k.toNat) ^ xs.length := (limbs_le_iff hb _ _).mp (by rw [ex]; exact Nat.le_refl _)
  have hN : N < (2 ^ k.toNat) ^ xs.length := (limbs_le_iff hb _ _).mp (by rw [← ey]; exact hj)
  rw [Nat.mod_eq_of_lt hM, Nat.mod_eq_of_lt hN] at h1
  generalize (xs.length) = i at *
  have hpos : 0 < (2 ^ k.toNat) ^ i := Nat.pow_pos (by omega)
  have hge : (2 ^ k.toNat) ^ i ≤ M + N := by
    refine Nat.le_of_not_lt fun hlt => ?_
    rw [Nat.div_eq_of_lt hlt] at h1
    subst h1
    exact absurd hc (by decide)
  have hlt : M + N < (2 ^ k.toNat) ^ (i + 1) := by
    have : (2 ^ k.toNat) ^ i * 2 ≤ (2 ^ k.toNat) ^ (i + 1) := by rw [Nat.pow_succ]; exact Nat.mul_le_mul_left _ hb
    omega
  rw [← digs_limbs hb (i + 1) (M + N) hlt (.inr hge), digs, h2, h1]
  congr 3
  refine (Nat.mod_eq_of_lt ?_).symm
  rw [Nat.div_lt_iff_lt_mul hpos, Nat.mul_comm, ← Nat.pow_succ]
  exact hlt
theorem add_end0 {M N : Nat} {k carry : Int} {found xs ys : List Int} (h : AddP (2 ^ k.toNat) M N xs.length carry found) (h3 : 3 ≤ k) (ex : xs = limbs (2 ^ k.toNat) M) (ey : ys = limbs (2 ^ k.toNat) N) (hj : ys.length ≤ xs.length) (hc : ¬ 0 < carry) :
    found = limbs (2 ^ k.toNat) (M + N) := by
  have hb := two_le_b h3
  obtain ⟨h1, h2⟩ := h
  have hM : M < (2 ^ k.toNat) ^ xs.length := (limbs_le_iff hb _ _).mp (by rw [ex]; exact Nat.le_refl _)
  have hN : N < (2 ^ k.toNat) ^ xs.length := (limbs_le_iff hb _ _).mp (by rw [← ey]; exact hj)
  rw [Nat.mod_eq_of_lt hM, Nat.mod_eq_of_lt hN] at h1
  have hpos : 0 < (2 ^ k.toNat) ^ xs.length := Nat.pow_pos (by omega)
  have hlt : M + N < (2 ^ k.toNat) ^ xs.length := (Nat.div_eq_zero_iff_lt hpos).mp (by generalize (M + N) / (2 ^ k.toNat) ^ xs.length = q at h1; omega)
  rw [h2]
  refine digs_limbs hb _ _ hlt ?_
  cases hi : xs.length with
  | zero => exact .inl rfl
  | succ i =>
    right
    rw [Nat.add_sub_cancel]
    have : ¬ M < (2 ^ k.toNat) ^ i := fun hc => by
      have := (limbs_le_iff hb _ _).mpr hc
      rw [← ex, hi] at this
      omega
    omega
-- shift
theorem or_bit {c n : Int} (hc : c = 0 ∨ c = 1) : Builtin.bitOr c (n * 2 ^ (1 : Int).toNat) = c + (n + n) := by
  have e : n * 2 ^ (1 : Int).toNat = n + n := by
    have : (2 : Int) ^ (1 : Int).toNat = 2 := by decide
    rw [this]; omega
  rw [e, bitOr_and]
  rcases hc with rfl | rfl
  · have := kbt_mask (n + n) 0
    rw [bitAnd_comm]
    have e2 : ((2 : Int) ^ 0 - 1) = 0 := by decide
    rw [e2] at this
    rw [this]
    have : (n + n) % (2 : Int) ^ 0 = 0 := by rw [Int.pow_zero]; exact Int.emod_one _
    omega
  · have := kbt_mask (n + n) 1
    rw [bitAnd_comm]
    have e2 : ((2 : Int) ^ 1 - 1) = 1 := by decide
    rw [e2] at this
    rw [this]
    have e3 : ((2 : Int) ^ 1) = 2 := by decide
    rw [e3]
    omega
theorem shift_turn {M j : Nat} {k carry n : Int} {found xs : List Int} (h : AddP (2 ^ k.toNat) M M j carry found) (h3 : 3 ≤ k) (ex : xs = limbs (2 ^ k.toNat) M) (hn : xs[j]? = some n) :
    AddP (2 ^ k.toNat) M M (j + 1) ((Builtin.bitOr carry (n * 2 ^ (1 : Int).toNat)).fdiv (2 ^ k.toNat)) (found ++ [Builtin.bitAnd (Builtin.bitOr carry (n * 2 ^ (1 : Int).toNat)) (1 * 2 ^ k.toNat - 1)]) := by
  have hb := two_le_b h3
  have hc : carry = 0 ∨ carry = 1 := by
    have hpos : 0 < (2 ^ k.toNat) ^ j := Nat.pow_pos (by omega)
    have hlt := Nat.mod_lt M hpos
    have : (M % (2 ^ k.toNat) ^ j + M % (2 ^ k.toNat) ^ j) / (2 ^ k.toNat) ^ j < 2 := by
      rw [Nat.div_lt_iff_lt_mul hpos]; omega
    have h1 := h.1
    generalize (M % (2 ^ k.toNat) ^ j + M % (2 ^ k.toNat) ^ j) / (2 ^ k.toNat) ^ j = q at *
    omega
  have e : n = xs.getD j 0 := by rw [List.getD, hn]; rfl
  rw [or_bit hc, e]
  exact add_turn h h3 ex ex
-- sizes and digits
theorem limbs_len {k : Int} {M : Nat} (h3 : 3 ≤ k) (h : Fits M) : (limbs (2 ^ k.toNat) M).length ≤ 300 := by
  rw [limbs_le_iff (two_le_b h3), ← Nat.pow_mul]
  refine Nat.lt_of_lt_of_le h.lt (Nat.pow_le_pow_right (by omega) ?_)
  have : 1 * 300 ≤ k.toNat * 300 := Nat.mul_le_mul_right _ (by omega)
  omega
theorem limbs_dig {k : Int} {M : Nat} (h3 : 3 ≤ k) (h9 : k ≤ 9) : ∀ x ∈ limbs (2 ^ k.toNat) M, 0 ≤ x ∧ x < 512 := by
  intro x hx
  have h1 := limbs_mem (two_le_b h3) x hx
  have h2 : 2 ^ k.toNat ≤ 2 ^ 9 := Nat.pow_le_pow_right (by omega) (by omega)
  omega
end Mine

namespace Mine

set_option maxRecDepth 100000 in
set_option maxHeartbeats 8000000 in
theorem row_spec {w : World} {N : Nat} {k : Int} (t u : Nat) (news : List (Addr × Obj)) (h3 : 3 ≤ k) (h9 : k ≤ 9) (hN : Fits N) :
    Con w 128 [.int (N : Int) t, .int k u] 1 news (RetL news (limbs (2 ^ k.toNat) N)) := by
  unfold Con RetL
  k_fill
  w_top off
  k_with_none
  intro loose mean mg mb dp un gd cn cs a ccd cl outer A₀ base h₀ L m s Q E B F X N' T hk hd hu hret
  refine wpAny_call ?_
  k_dflt ktr_enter
  repeat' (first | (fail_if_success (with_reducible show wpAny _ _ (PySem.exec (Stmt.While _ _ _ _) _) _ _ _)); first | (k_unfold; (try dsimp only)) | (k_end; wrow_close) | walk1 | (dsimp only; walk1) | (leave1; walk_say "STEP leave1"; try dsimp only) | fail "no step")
  rename Fr _ _ _ _ => F1
  rename News _ _ _ _ => N1
  obtain ⟨l1, e1⟩ := news_head N1
  subst e1
  refine ksw_while (σ := Int × Nat × List Value × List Int × Nat) (fun c => (l1, listOf c.2.2.1.toArray c.2.2.2.2) :: news) (fun c => [(Str.ofString "number", .int c.1 c.2.1)]) (fun c => IntsAre c.2.2.1 c.2.2.2.1) []
    (fun c => RowP N k c.1 c.2.2.2.1) (fun c => c.1.toNat) ((N : Int), t, [], [], 0) F1 N1 .nil ?hk ?hp ?turn
  case hk => exact List.forall_mem_cons.mpr ⟨rfl, List.forall_mem_nil _⟩
  case hp => exact row_start
  rintro ⟨n, tn, us, found, cnt⟩ kU kH kTk kFacts kInv kFr kNews
  dsimp only [kstB] at kFr
  dsimp only at kNews kFacts kInv
  have kMark := kstMark
  have kLen := IntsAre.length kFacts
  have kB := row_len kInv
  try k_fold
  k_with_none
  k_with "state" => exact row_turn (by assumption) (by assumption) (by assumption) (by assumption)
  k_with "measure" => exact row_less (by assumption) (by assumption)
  k_steps
  rw [row_end kInv h3 (by assumption)] at kFacts
  exact hret _ _ _ _ _ (by assumption) (by assumption) (by assumption) kFacts
end Mine

namespace Mine
theorem an13 (n : Nat) : n + 1 ≠ n + 3 := by omega
theorem an03 (n : Nat) : n ≠ n + 3 := by omega
theorem an_lt {a n k : Nat} (h : a < n) : a ≠ n + k := by omega
theorem an_gt {a n k : Nat} (h : a < n) : n + k ≠ a := by omega
def EElt (s : Shared) (h : Heap) (P : Value → Prop) (y : Value) (s₂ : Shared) : Prop := ∃ tk', s₂ = { s with heap := h, toks := tk' } ∧ P y
section
open PySem.Calls PyProof.V PySem.Spec PyProof.Rows.LCg
set_option maxRecDepth 100000
set_option maxHeartbeats 2000000
variable {prog : Program} {w : World} {A : Around} {E : Value → Shared → Prop} {s : Shared} {h₀ : Heap} {L : Addr} {m : Str → Option Value} {env : Env}

/-- a comprehension over enumerate of a made list, the element without a store -/
theorem enum_comp {elt iter : PySem.Expr} {a b : Str} {pa pb tp : Pos} {kk : Nat} {scope : Scope} {cl : List (Str × Addr)} {pos : Pos} {Q : Value → Shared → Prop} {l : Addr} {vs : List Value} {nn : Nat} {news : List (Addr × Obj)}
    (El : Nat → Value → Value → Prop)
    (hh : A.handled = none) (F : Fr h₀ L s.heap m) (N : News h₀ L s.heap news) (hm : (l, listOf vs.toArray nn) ∈ news) (hsz : vs.length ≤ sizeLine)
    (hclos : closureFor scope env = pure cl) (hcell : ∀ y ∈ scope.names, y.2 ≠ .cell) (hkind : scope.kind = .function)
    (hnames : ∀ y ∈ scope.names, y.2 = .local → scope.names.lookup y.1 = some .local) (hxa : scope.names.lookup a = some .local) (hxb : scope.names.lookup b = some .local) (hab : ¬ a = b)
    (hiter : ∀ Q' : Value → Shared → Prop, wpAny (model prog w) A (call (.type "enumerate") [.ref l]) Q' E s → wpAny (model prog w) A (eval iter env) Q' E s)
    (helt : ∀ i x t C oC m₂ h tk E', vs[i]? = some x → NsObj oC m₂ → m₂ a = some (.int (i : Nat) t) → m₂ b = some x → Fr h₀ L h m → News h₀ L h ((C, oC) :: news) →
      wpAny (model prog w) A (eval elt (compEnvC scope cl C env)) (EElt s h (El i x)) E' { s with heap := h, toks := tk })
    (fin : ∀ D h tk ys, ys.length = vs.length → (∀ i x y, vs[i]? = some x → ys[i]? = some y → El i x y) → Fr h₀ L h m → News h₀ L h ((D, lst ys) :: news) → (∀ p ∈ news, p.1 < D) → Q (.ref D) { s with heap := h, toks := tk })
    (hs : ∀ x, foldedSetIterable iter env x = pure x := by intro _; rfl) :
    wpAny (model prog w) A (eval (.ListComp elt [⟨.Tuple [.Name a pa, .Name b pb] kk tp, iter, [], 0⟩] scope pos) env) Q E s := by
  rw [eval_ListComp]
  refine wpAny_comprehension_free (use := none) rfl hs hclos hkind hnames (hiter _ ?_)
  have hl : s.heap.IsList l vs.toArray := ⟨_, (N _ hm).1, rfl, nn, rfl⟩
  have hlt : l < s.heap.objs.size := Heap.lt_size (N _ hm).1
  refine call_enumerate_list hl fun h' hE hI hsz' hk => ?_
  refine wpAny_pyIter_enum hE ?_
  refine wpAny_newObj_type (wpAny_newFunctionEnv hcell (by intro y hy; simp at hy) (fun h₁ hns₁ hsb₁ => ?_) hkind)
  dsimp only at hns₁ hsb₁ ⊢
  have hC : (h'.push { cls := .type "list", dict := none, data := .seq ([] : List Value).toArray }).objs.size = s.heap.objs.size + 3 := by rw [Heap.size_push, hsz']
  have hacc₁ : h₁.get? (s.heap.objs.size + 2) = some (lst []) := by
    refine hsb₁.extBut _ _ (by rw [hC]; exact Nat.ne_of_lt (Nat.lt_succ_self _)) ?_
    rw [← hsz']
    exact Heap.get?_push_of_some _ (Heap.get?_push_size _ rfl)
  rw [hC] at hns₁ hsb₁ ⊢
  have old : ∀ b o, b < s.heap.objs.size + 2 → h'.get? b = some o → h₁.get? b = some o := fun b o hb e =>
    hsb₁.extBut b o (Nat.ne_of_lt (Nat.lt_succ_of_lt hb)) (Heap.get?_push_of_some _ (Heap.get?_push_of_some _ e))
  have old' : ∀ b o, s.heap.get? b = some o → h₁.get? b = some o := fun b o e => old b o (Nat.lt_succ_of_lt (Nat.lt_succ_of_lt (Heap.lt_size e))) (hk b o e)
  have W := WalksT.enumerate (prog := prog) (w := w) (A := A) hh (s.heap.objs.size + 1) s.heap.objs.size l (Nat.succ_ne_self _) (Nat.ne_of_lt (Nat.lt_succ_of_lt hlt)) (Nat.ne_of_lt hlt) vs.toArray
  have fresh₀ : ∀ a, s.heap.objs.size ≤ a → h₀.get? a = none := fun a ha => by
    cases e : h₀.get? a with
    | none => rfl
    | some o' => exact absurd (Heap.lt_size (F.keep a o' e)) (Nat.not_lt.mpr ha)
  have hLlt : L < s.heap.objs.size := F.ns.lt
  have newsLt : ∀ p ∈ news, p.1 < s.heap.objs.size := fun p hp => Heap.lt_size (N p hp).1
  rw [hsz']
  have loop : ∀ s₃ : Shared, s₃ = { s with heap := h₁, toks := s.toks + ([] : List (Str × Value)).length } →
      codeAny (model prog w) A (.compLoop (.ListComp elt [⟨.Tuple [.Name a pa, .Name b pb] kk tp, iter, [], 0⟩] scope pos) 0 (.ref (s.heap.objs.size + 1)) (.ref (s.heap.objs.size + 2)) (compEnvC scope cl (s.heap.objs.size + 3) env))
        (compPost (model prog w) A E none Q (.ref (s.heap.objs.size + 2)) (s.heap.objs.size + 3)) s₃ := by
    rintro s₃ rfl
    refine kcp_loop
      (fun k s' => ∃ h' tk i ys m', s' = { s with heap := h', toks := tk } ∧ i ≤ vs.length ∧ k = vs.length + 1 - i ∧ ys.length = i ∧ (∀ j x y, vs[j]? = some x → ys[j]? = some y → El j x y) ∧
        ((∃ old, IsEnum h' (s.heap.objs.size + 1) s.heap.objs.size i old) ∧ h'.IsListIter s.heap.objs.size l i ∧ h'.IsList l vs.toArray) ∧ Fr h₀ L h' m ∧ h'.Ns (s.heap.objs.size + 3) m' ∧ News h₀ L h' ((s.heap.objs.size + 2, lst ys) :: news)) ?_ (vs.length + 1)
      ⟨h₁, _, 0, [], _, rfl, Nat.zero_le _, rfl, rfl, by intro j x y _ h; simp at h, ⟨⟨_, old _ _ (Nat.lt_succ_self _) hE⟩, hI.at fun o e => old _ _ (Nat.lt_succ_of_lt (Nat.lt_succ_self _)) e, hl.at fun o e => old' _ _ e⟩, F.keeps old', hns₁, ?_⟩
    · rintro k s' ⟨h', tk, i, ys, m', rfl, hi, rfl, hyl, hEl, hst', F', hn', N'⟩
      by_cases hlt' : i < vs.length
      · refine W.item i _ _ _ (by simpa using hlt') hst' fun T vals h₂ tk₂ hP hTle hT hMd hk₂ => ?_
        obtain ⟨t, x, hx, rfl⟩ := hP
        have hx' : vs[i]? = some x := by simpa using hx
        refine W.go _ _ _ i T _ _ _ hMd fun h₃ hst₃ hk₃ => ?_
        have up₃ : ∀ c o, c ≠ s.heap.objs.size + 1 → c ≠ s.heap.objs.size → h'.get? c = some o → h₃.get? c = some o := fun c o h1 h2 e =>
          hk₃ c o (by simp [h1, h2]) (hk₂ c o (by simp [h1, h2]) e)
        have hT₃ : h₃.IsTuple T #[.int (i : Nat) t, x] := by
          have hTw := W.apart _ _ _ hMd
          obtain ⟨o, ho, r⟩ := hT
          exact ⟨o, hk₃ T o hTw ho, r⟩
        have hC1 : s.heap.objs.size + 3 ≠ s.heap.objs.size + 1 := by omega
        have hC0 : s.heap.objs.size + 3 ≠ s.heap.objs.size := by omega
        refine kcp_assign (env := compEnvC scope cl (s.heap.objs.size + 3) env) hh hT₃ (lookup_relabel_local hxa) (lookup_relabel_local hxb) (by simp [compEnvC, relabel, hkind]) (hn'.at' fun o e => up₃ _ o hC1 hC0 e) fun h₄ tk₄ hn₄ hs₄ => ?_
        have up : ∀ c o, c ≠ s.heap.objs.size + 1 → c ≠ s.heap.objs.size → c ≠ s.heap.objs.size + 3 → h'.get? c = some o → h₄.get? c = some o := fun c o h1 h2 h3 e => hs₄ c o h3 (up₃ c o h1 h2 e)
        have upN : ∀ c o, c < s.heap.objs.size → h'.get? c = some o → h₄.get? c = some o := fun c o hc e => up c o (by omega) (by omega) (by omega) e
        have F₄ : Fr h₀ L h₄ m := ⟨F'.ns.at' fun o e => upN _ o hLlt e, fun c o e => upN c o (Heap.lt_size (F.keep c o e)) (F'.keep c o e), F'.above⟩
        have N₄ : News h₀ L h₄ ((s.heap.objs.size + 2, lst ys) :: news) := fun q hq => by
          have z := N' q hq
          refine ⟨?_, z.2⟩
          rcases List.mem_cons.mp hq with rfl | hq
          · exact up _ _ (by show s.heap.objs.size + 2 ≠ _; omega) (by show s.heap.objs.size + 2 ≠ _; omega) (by show s.heap.objs.size + 2 ≠ _; omega) z.1
          · exact upN _ _ (newsLt q hq) z.1
        have N₄' : News h₀ L h₄ news := fun q hq => N₄ q (List.mem_cons_of_mem _ hq)
        have st₄ := W.frame _ _ h₄ hst₃ fun b hb o e => hs₄ b o (by
          have hb' : b = s.heap.objs.size + 1 ∨ b = s.heap.objs.size ∨ b = l := by simpa using hb
          show b ≠ s.heap.objs.size + 3
          rcases hb' with rfl | rfl | rfl
          · exact an13 _
          · exact an03 _
          · exact Nat.ne_of_lt (Nat.lt_of_lt_of_le hlt (Nat.le_add_right _ _))) e
        obtain ⟨oC, heC, hoC⟩ := ns_obj hn₄
        refine wpAny_mono (helt i x t _ oC _ h₄ tk₄ _ hx' hoC (by simp [hab]) (by simp) F₄ (fun q hq => by
          rcases List.mem_cons.mp hq with rfl | hq
          · exact ⟨heC, an_gt hLlt, fresh₀ _ (Nat.le_add_right _ _)⟩
          · exact N₄' q hq)) (fun y s₅ h₅ => ?_) fun _ _ e => e
        obtain ⟨tk₅, rfl, hy⟩ := h₅
        refine append_at (hsz := by show ys.toArray.size ≤ sizeLine; rw [List.size_toArray, hyl]; exact Nat.le_trans hi hsz) (N₄ _ List.mem_cons_self).1 fun h₆ hs₆ hD₆ => ?_
        have hDne : ∀ c, c < s.heap.objs.size → c ≠ s.heap.objs.size + 2 := fun c hc => by omega
        refine ⟨vs.length + 1 - (i + 1), by omega, h₆, tk₅, i + 1, ys ++ [y], _, rfl, hlt', rfl, by rw [List.length_append, List.length_singleton, hyl], ?_, W.frame _ _ h₆ st₄ (fun b hb o e => hs₆.extBut b o (by
          have hb' : b = s.heap.objs.size + 1 ∨ b = s.heap.objs.size ∨ b = l := by simpa using hb
          rcases hb' with rfl | rfl | rfl
          · exact fun h => absurd h (by show s.heap.objs.size + 1 ≠ s.heap.objs.size + 2; omega)
          · exact fun h => absurd h (by show s.heap.objs.size ≠ s.heap.objs.size + 2; omega)
          · exact hDne _ hlt) e), F₄.change hs₆ (fun h => absurd h.symm (hDne _ hLlt)) (fresh₀ _ (Nat.le_add_right _ _)), hn₄.sameBut hs₆ (by show s.heap.objs.size + 3 ≠ s.heap.objs.size + 2; omega), fun q hq => ?_⟩
        · intro j x' y' hx1 hy1
          by_cases hj : j < i
          · exact hEl j x' y' hx1 (by rw [List.getElem?_append_left (by omega)] at hy1; exact hy1)
          · have hj' : j = i := by
              have := (List.getElem?_eq_some_iff.mp hy1).1
              rw [List.length_append, List.length_singleton, hyl] at this
              omega
            subst hj'
            rw [hx'] at hx1
            obtain rfl := Option.some.inj hx1
            rw [← hyl, List.getElem?_append_right (Nat.le_refl _), Nat.sub_self] at hy1
            obtain rfl : y = y' := by simpa using hy1
            exact hy
        · rcases List.mem_cons.mp hq with rfl | hq
          · exact ⟨hD₆.trans (congrArg some (lst_snoc ys y)), fun h => absurd h.symm (hDne _ hLlt), fresh₀ _ (Nat.le_add_right _ _)⟩
          · have z := N₄' q hq
            exact ⟨hs₆.extBut _ _ (hDne _ (newsLt q hq)) z.1, z.2⟩
      · have hin : i = vs.length := Nat.le_antisymm hi (Nat.not_lt.mp hlt')
        have hin' : i = vs.toArray.size := by rw [List.size_toArray]; exact hin
        refine W.done _ _ _ (hin' ▸ hst') fun h₂ tk₂ hk₂ => ?_
        have up : ∀ c o, c ≠ s.heap.objs.size + 1 → c ≠ s.heap.objs.size → h'.get? c = some o → h₂.get? c = some o := fun c o h1 h2 e => hk₂ c o (by simp [h1, h2]) e
        refine ⟨m', hn'.at' fun o e => up _ _ (by show s.heap.objs.size + 3 ≠ _; omega) (by show s.heap.objs.size + 3 ≠ _; omega) e, fun h'' hs'' => ?_⟩
        have up2 : ∀ c o, c < s.heap.objs.size → h'.get? c = some o → h''.get? c = some o := fun c o hc e => hs''.extBut c o (an_lt hc) (up c o (an_lt hc) (Nat.ne_of_lt hc) e)
        refine fin _ h'' tk₂ ys (by rw [hyl, hin]) hEl ⟨F'.ns.at' fun o e => up2 _ o hLlt e, fun c o e => up2 c o (Heap.lt_size (F.keep c o e)) (F'.keep c o e), F'.above⟩ (fun q hq => ?_) fun p hp => Nat.lt_of_lt_of_le (newsLt p hp) (Nat.le_add_right _ _)
        have z := N' q hq
        refine ⟨?_, z.2⟩
        rcases List.mem_cons.mp hq with rfl | hq
        · exact hs''.extBut _ _ (by show s.heap.objs.size + 2 ≠ _; omega) (up _ _ (by show s.heap.objs.size + 2 ≠ _; omega) (by show s.heap.objs.size + 2 ≠ _; omega) z.1)
        · exact up2 _ _ (newsLt q hq) z.1
    · intro q hq
      rcases List.mem_cons.mp hq with rfl | hq
      · exact ⟨hacc₁, an_gt hLlt, fresh₀ _ (Nat.le_add_right _ _)⟩
      · exact ⟨old' _ _ (N q hq).1, (N q hq).2⟩
  exact codeAny_compStart_list (loop _ rfl) (W.self 0 _ _ _ ⟨⟨_, old _ _ (Nat.lt_succ_self _) hE⟩, hI.at fun o e => old _ _ (Nat.lt_succ_of_lt (Nat.lt_succ_self _)) e, hl.at fun o e => old' _ _ e⟩ (loop _ rfl))
end
end Mine

namespace Mine
def wmap (k : Int) : Nat → List Int → List Int
  | _, [] => []
  | j, x :: r => x * 2 ^ (k * (j : Int)).toNat :: wmap k (j + 1) r
def WEl (k : Int) (i : Nat) (x y : Value) : Prop := ∃ n t t', x = .int n t ∧ y = .int (n * 2 ^ (k * (i : Int)).toNat) t'
theorem wmap_are {k : Int} : ∀ {vs : List Value} {xs : List Int} {ys : List Value} {j : Nat}, IntsAre vs xs → ys.length = vs.length → (∀ i x y, vs[i]? = some x → ys[i]? = some y → WEl k (j + i) x y) → IntsAre ys (wmap k j xs)
  | _, _, [], j, .nil, _, _ => .nil
  | _, _, y :: ys, j, .nil, hl, _ => by simp at hl
  | _, _, [], j, .cons n t h, hl, _ => by simp at hl
  | _, _, y :: ys, j, .cons n t h, hl, he => by
    obtain ⟨n', t₁, t', e1, e2⟩ := he 0 _ y rfl rfl
    cases e1
    subst e2
    refine .cons _ _ (wmap_are h (by simpa using hl) fun i x' y' h1 h2 => ?_)
    have := he (i + 1) x' y' (by simpa using h1) (by simpa using h2)
    rwa [Nat.add_comm i 1, ← Nat.add_assoc] at this

theorem ki_le {k : Int} {i : Nat} (h3 : 3 ≤ k) (h9 : k ≤ 9) (hi : i ≤ 300) : k * (i : Int) ≤ 2700 := by
  have h1 : k * (i : Int) ≤ 9 * (i : Int) := Int.mul_le_mul_of_nonneg_right h9 (by omega)
  omega
set_option maxRecDepth 100000 in
set_option maxHeartbeats 8000000 in
theorem whole_spec {w : World} {k : Int} (u : Nat) (news : List (Addr × Obj)) {lr : Addr} {vs : List Value} {nr : Nat} {xs : List Int} (hr : (lr, listOf vs.toArray nr) ∈ news) (hi : IntsAre vs xs) (h3 : 3 ≤ k) (h9 : k ≤ 9) (hx : xs.length ≤ 300)
    (hd : ∀ x ∈ xs, 0 ≤ x ∧ x < 512) :
    Con w 133 [.ref lr, .int k u] 1 news (RetI news (wmap k 0 xs).sum) := by
  unfold Con RetI
  k_fill
  w_top off
  k_with_none
  intro loose mean mg mb dp un gd cn cs a ccd cl outer A₀ base h₀ L m s Q E B F X N' T hk hdp hu hret
  refine wpAny_call ?_
  k_dflt (refine' code_defC ?k1 ?k2 ?k3 ?k4 ?k5 ?kA ?kF ?kK ?k6 ?k7 ?k8 ?k9 ?kB ?kD ?_ ?c2 ?c3 ?c4; (case kA => exact rfl); (case kF => exact rfl); (case kK => assumption); (case k1 => k_asm); (case k2 => k_asm); (case k3 => k_asm); (case k4 => k_asm); (case k5 => k_asm); (case k6 => k_is); (case k7 => k_is); (case k8 => ktr_room); (case k9 => exact BindsTo.of_eq rfl); (case kB => exact rfl); (case kD => decide +kernel); (case c2 => exact rfl); (case c3 => exact rfl); (case c4 => exact rfl); k_whole; intro g' L' h' tk' cells' FG' F' N' Y' B' X' T' l1; (try k_lt l1); k_cells Y'; (try simp only [List.cons_append, List.nil_append] at N'); (try dsimp only); (try k_fold))
  have kMark := kstMark
  have kLen := IntsAre.length hi
  repeat' (first | (fail_if_success (with_reducible show wpAny _ _ (PySem.eval (Expr.ListComp _ _ _ _) _) _ _ _)); first | (k_unfold; (try dsimp only)) | (k_end; wrow_close) | walk1 | (dsimp only; walk1) | (leave1; walk_say "STEP leave1"; try dsimp only) | fail "no step")
  rename Fr _ _ _ _ => F1
  rename News _ _ _ _ => N1
  k_dflt (refine' enum_comp (l := lr) (vs := vs) (nn := nr) (WEl k) ?hh F1 N1 ?hm ?hsz ?hclos ?hcell ?hkind ?hnames ?hxa ?hxb ?hab ?hiter ?helt ?fin)
  case hh => with_unfolding_all rfl
  case hm => first | exact hr | exact List.mem_cons_of_mem _ hr
  case hsz => rw [kLen, PySem.sizeLine_eq]; omega
  case hclos => rfl
  case hcell => decide
  case hkind => rfl
  case hnames => decide
  case hxa => rfl
  case hxb => rfl
  case hab => decide
  case hiter =>
    intro Q' hq
    k_steps
    exact hq
  case helt =>
    intro i x t C oC m₂ h tk E' hvx hoC hma hmb F2 N2
    k_fold
    obtain ⟨n, tn, rfl, hxn⟩ := IntsAre.at hi i x hvx
    obtain ⟨hn0, hn1⟩ := hd n (List.mem_of_getElem? hxn)
    have hil : i < xs.length := (List.getElem?_eq_some_iff.mp hxn).1
    have hki0 : 0 ≤ k * (i : Int) := Int.mul_nonneg (by omega) (by omega)
    have hki1 : k * (i : Int) ≤ 2700 := ki_le h3 h9 (by omega)
    k_steps
    exact ⟨_, rfl, n, tn, _, rfl, rfl⟩
  case fin =>
    intro D h tk ys hyl hEl F2 N2 lD
    have hIy : IntsAre ys (wmap k 0 xs) := wmap_are hi hyl (by intro i x y a b; rw [Nat.zero_add]; exact hEl i x y a b)
    k_steps
    exact hret _ _ _ (by assumption) (fun p hp => (by assumption : News h₀ L _ _) p (by first | exact hp | exact List.mem_cons_of_mem _ hp | exact List.mem_cons_of_mem _ (List.mem_cons_of_mem _ hp)))
end Mine

namespace Mine
def fib : Nat → Nat
  | 0 => 0
  | 1 => 1
  | n + 2 => fib n + fib (n + 1)
def fibs (j : Nat) : List Int := (List.range j).map fun i => ((fib i : Nat) : Int)
theorem fibs_length {j : Nat} : (fibs j).length = j := by simp [fibs]
theorem fibs_succ {j : Nat} : fibs (j + 2) ++ [((fib (j + 2) : Nat) : Int)] = fibs (j + 3) := by
  simp [fibs, List.range_succ]
theorem fibs_getD {j i : Nat} (h : i < j) : (fibs j).getD i 0 = ((fib i : Nat) : Int) := by
  simp [fibs, List.getD, h]
theorem fibs_app {j : Nat} : fibs (j + 2) ++ [(fibs (j + 2)).getD (0 - 1 + ((fibs (j + 2)).length : Int)).toNat 0 + (fibs (j + 2)).getD (0 - 2 + ((fibs (j + 2)).length : Int)).toNat 0] = fibs (j + 3) := by
  rw [← fibs_succ, fibs_length]
  have e1 : (0 - 1 + ((j + 2 : Nat) : Int)).toNat = j + 1 := by omega
  have e2 : (0 - 2 + ((j + 2 : Nat) : Int)).toNat = j := by omega
  rw [e1, e2, fibs_getD (by omega), fibs_getD (by omega), fib]
  congr 2
  omega
set_option maxRecDepth 100000 in
set_option maxHeartbeats 8000000 in
theorem added_spec {w : World} {n : Nat} (u : Nat) (news : List (Addr × Obj)) (hn : n ≤ 400) :
    Con w 147 [.int (n : Int) u] 1 news (RetL news (fibs (n + 3))) := by
  unfold RetL
  unfold Con
  k_fill
  w_top off
  k_with_none
  intro loose mean mg mb dp un gd cn cs a ccd cl outer A₀ base h₀ L m s Q E B F X N' T hk hdp hu hret
  refine wpAny_call ?_
  k_dflt ktr_enter
  have kMark := kstMark
  repeat' (first | (fail_if_success (with_reducible show wpAny _ _ (PySem.exec (Stmt.While _ _ _ _) _) _ _ _)); (fail_if_success (with_reducible show InvPostN _ _ _ _ _ _ _ _ _)); (fail_if_success (with_reducible show KswPost _ _ _ _ _ _ _ _ _ _ _ _ _ _)); first | (k_unfold; (try dsimp only)) | (k_end; wrow_close) | walk1 | (dsimp only; walk1) | (leave1; walk_say "STEP leave1"; try dsimp only) | fail "no step")
  rename Fr _ _ _ _ => F1
  rename News _ _ _ _ => N1
  obtain ⟨l1, e1⟩ := news_head N1
  subst e1
  refine' ksw_while (σ := Nat × List Value × Nat) (fun c => (l1, listOf c.2.1.toArray c.2.2) :: news) (fun c => []) (fun c => IntsAre c.2.1 (fibs (c.1 + 2))) []
    (fun c => c.1 ≤ n + 1) (fun c => n + 1 - c.1) (0, [_, _], _) F1 N1 (.cons 0 _ (.cons 1 _ .nil)) (List.forall_mem_nil _) ?hp ?turn ?hE
  case hp => exact Nat.zero_le _
  case hE => with_unfolding_all passes_own
  case turn =>
    rintro ⟨j, us, cnt⟩ kU kH kTk kFacts kInv kFr kNews
    dsimp only [kstB] at kFr
    dsimp only at kNews kFacts kInv
    have kLen := IntsAre.length kFacts
    have kLen2 : (fibs (j + 2)).length = j + 2 := fibs_length
    try dsimp only
    try k_fold
    repeat' (first | (fail_if_success (with_reducible show InvPostN _ _ _ _ _ _ _ _ _)); (fail_if_success (with_reducible show KswPost _ _ _ _ _ _ _ _ _ _ _ _ _ _)); first | (k_unfold; (try dsimp only)) | (k_end; wrow_close) | walk1 | (dsimp only; walk1) | (leave1; walk_say "STEP leave1"; try dsimp only) | fail "no step")
    · rename Fr _ _ _ _ => F2
      rename News _ _ _ _ => N2
      simp only [List.push_toArray] at N2
      refine ksw_end (c' := (j + 1, _, _)) F2 N2 (fun p hp => hp) ?hf (List.forall_mem_nil _) (by ksw_same) ?hp ?hm
      case hf =>
        dsimp only
        rw [← fibs_app (j := j)]
        exact IntsAre.append kFacts (.cons _ _ .nil)
      case hp => dsimp only; rw [kLen2] at *; omega
      case hm => dsimp only; rw [kLen2] at *; omega
    · rename Fr _ _ _ _ => F2
      rename News _ _ _ _ => N2
      have ej : j = n + 1 := by rw [kLen2] at *; omega
      subst ej
      exact hret _ _ _ _ _ F2 N2 (by assumption) kFacts
end Mine

namespace Mine
theorem pow_step {k : Int} {j : Nat} (h3 : 3 ≤ k) : (2 : Int) ^ (k * ((j + 1 : Nat) : Int)).toNat = 2 ^ (k * (j : Int)).toNat * ((2 ^ k.toNat : Nat) : Int) := by
  rw [cast_b, ← Int.pow_add]
  congr 1
  have h0 : 0 ≤ k * (j : Int) := Int.mul_nonneg (by omega) (by omega)
  have e : k * ((j + 1 : Nat) : Int) = k * (j : Int) + k := by rw [Int.natCast_add, Int.mul_add]; simp
  rw [e]
  omega
theorem wmap_sum' {k : Int} (h3 : 3 ≤ k) : ∀ (c M j : Nat), M < c → (wmap k j (limbs (2 ^ k.toNat) M)).sum = (M : Int) * 2 ^ (k * (j : Int)).toNat
  | 0, M, j, h => by omega
  | c + 1, 0, j, h => by rw [limbs_zero]; simp [wmap]
  | c + 1, M + 1, j, h => by
    have hb := two_le_b h3
    have hlt := Nat.div_lt_self (show 0 < M + 1 by omega) (show 1 < 2 ^ k.toNat by omega)
    rw [limbs_pos hb (by omega), wmap, List.sum_cons, wmap_sum' h3 c _ (j + 1) (by omega), pow_step h3]
    have e := Nat.div_add_mod (M + 1) (2 ^ k.toNat)
    generalize (2 : Int) ^ (k * (j : Int)).toNat = P
    have e2 : ((M + 1 : Nat) : Int) = ((2 ^ k.toNat : Nat) : Int) * (((M + 1) / 2 ^ k.toNat : Nat) : Int) + (((M + 1) % 2 ^ k.toNat : Nat) : Int) := by exact_mod_cast e.symm
    rw [e2]
    generalize (((M + 1) % 2 ^ k.toNat : Nat) : Int) = r
    generalize (((M + 1) / 2 ^ k.toNat : Nat) : Int) = q
    generalize ((2 ^ k.toNat : Nat) : Int) = b
    rw [Int.add_mul, Int.mul_comm P b, ← Int.mul_assoc, Int.mul_comm q b, Int.add_comm]
theorem wmap_sum {k : Int} {M : Nat} (h3 : 3 ≤ k) : (wmap k 0 (limbs (2 ^ k.toNat) M)).sum = (M : Int) := by
  rw [wmap_sum' h3 (M + 1) M 0 (by omega)]
  simp
theorem fib_add : ∀ m n : Nat, fib (m + n + 1) = fib m * fib n + fib (m + 1) * fib (n + 1)
  | 0, n => by simp [fib]
  | m + 1, n => by
    have h := fib_add m (n + 1)
    have e : m + 1 + n + 1 = m + (n + 1) + 1 := by omega
    rw [e, h, fib, fib, Nat.mul_add, Nat.add_mul]
    omega
theorem fib_le2 {m : Nat} : fib m ≤ fib (m + 1) + fib (m + 1) := by
  cases m with
  | zero => simp [fib]
  | succ m => rw [fib]; omega
theorem fib_dbl1 {m : Nat} : fib m * fib m + fib (m + 1) * fib (m + 1) = fib (2 * m + 1) := by
  rw [← fib_add, Nat.two_mul]
theorem fib_dbl {m : Nat} : fib m * (fib (m + 1) + fib (m + 1) - fib m) = fib (2 * m) := by
  cases m with
  | zero => simp [fib]
  | succ p =>
    have e : 2 * (p + 1) = p + (p + 1) + 1 := by omega
    have e2 : fib (p + 1 + 1) + fib (p + 1 + 1) - fib (p + 1) = fib p + fib (p + 2) := by rw [fib]; omega
    rw [e, fib_add p (p + 1), e2, Nat.mul_add, Nat.mul_comm (fib p)]
theorem fib_three : ∀ i : Nat, fib (2 * i + 1) ≤ 3 ^ i ∧ fib (2 * i + 2) ≤ 3 ^ i
  | 0 => by simp [fib]
  | i + 1 => by
    obtain ⟨h1, h2⟩ := fib_three i
    have e1 : fib (2 * (i + 1) + 1) = fib (2 * i + 1) + fib (2 * i + 2) := by
      have : 2 * (i + 1) + 1 = 2 * i + 1 + 2 := by omega
      rw [this, fib]
    have e2 : fib (2 * (i + 1) + 2) = fib (2 * i + 2) + fib (2 * (i + 1) + 1) := by
      have : 2 * (i + 1) + 2 = 2 * i + 2 + 2 := by omega
      rw [this, fib]
      rfl
    rw [Nat.pow_succ]
    omega
theorem three_lt : 3 ^ 154 < 2 ^ 300 := by decide +kernel
theorem fib_fits {m : Nat} (h : m ≤ 310) : Fits (fib m) := by
  have hp : ∀ i, i ≤ 154 → ∀ x, x ≤ 3 ^ i → Fits x := fun i hi x hx =>
    ⟨Nat.lt_of_le_of_lt hx (Nat.lt_of_le_of_lt (Nat.pow_le_pow_right (by omega) hi) three_lt)⟩
  rcases Nat.eq_zero_or_pos m with rfl | hm
  · exact hp 0 (by omega) _ (by simp [fib])
  · rcases Nat.mod_two_eq_zero_or_one m with he | he
    · obtain ⟨i, rfl⟩ : ∃ i, m = 2 * i + 2 := ⟨m / 2 - 1, by omega⟩
      exact hp i (by omega) _ (fib_three i).2
    · obtain ⟨i, rfl⟩ : ∃ i, m = 2 * i + 1 := ⟨m / 2, by omega⟩
      exact hp i (by omega) _ (fib_three i).1
end Mine

namespace Mine

set_option maxRecDepth 100000 in
set_option maxHeartbeats 8000000 in
theorem add_spec {w : World} {M N : Nat} {k : Int} (u : Nat) (news : List (Addr × Obj)) {la lb : Addr} {vs ws : List Value} {na nb : Nat} {xs ys : List Int} (ha : (la, listOf vs.toArray na) ∈ news) (hb : (lb, listOf ws.toArray nb) ∈ news)
    (hi : IntsAre vs xs) (hj : IntsAre ws ys) (hxM : xs = limbs (2 ^ k.toNat) M) (hyN : ys = limbs (2 ^ k.toNat) N) (h3 : 3 ≤ k) (h9 : k ≤ 9) (hx : xs.length ≤ 300) (hy : ys.length ≤ 300) (hdx : ∀ x ∈ xs, 0 ≤ x ∧ x < 512) (hdy : ∀ x ∈ ys, 0 ≤ x ∧ x < 512) :
    Con w 60 [.ref la, .ref lb, .int k u] 1 news (RetL news (limbs (2 ^ k.toNat) (M + N))) := by
  unfold RetL
  unfold Con
  k_fill
  w_top off
  k_with_none
  intro loose mean mg mb dp un gd cn cs a ccd cl outer A₀ base h₀ L m s Q E B F X N' T hk hdp hu hret
  refine wpAny_call ?_
  replace N' := news_front (news_front N' hb) (List.mem_cons_of_mem _ ha)
  k_dflt ktr_enter
  have kMark := kstMark
  have kLen := IntsAre.length hi
  have kLen2 := IntsAre.length hj
  repeat' (first | (fail_if_success (with_reducible show wpAny _ _ (PySem.exec (Stmt.For _ _ _ _ _) _) _ _ _)); (fail_if_success (with_reducible show InvPostN _ _ _ _ _ _ _ _ _)); (fail_if_success (with_reducible show KswPost _ _ _ _ _ _ _ _ _ _ _ _ _ _)); first | (k_unfold; (try dsimp only)) | (k_end; wrow_close) | walk1 | (dsimp only; walk1) | (leave1; walk_say "STEP leave1"; try dsimp only) | fail "no step")
  all_goals (
    rename Fr _ _ _ _ => F1
    with_unfolding_all refine' For_invVF F1 ?k1 ?k2 ?_
    case k1 => exact rfl
    case k2 => exact rfl
    repeat' (first | (fail_if_success (with_reducible show wpAny _ _ (pyIter (Value.ref _)) _ _ _)); (fail_if_success (with_reducible show InvPostN _ _ _ _ _ _ _ _ _)); (fail_if_success (with_reducible show KswPost _ _ _ _ _ _ _ _ _ _ _ _ _ _)); first | (k_unfold; (try dsimp only)) | (k_end; wrow_close) | walk1 | (dsimp only; walk1) | (leave1; walk_say "STEP leave1"; try dsimp only) | fail "no step"))
  · rename IsRange _ _ _ _ _ _ _ _ => R1
    rename Fr _ _ _ _ => F1
    rename News _ _ _ _ => N1
    obtain ⟨l1, e1⟩ := news_second N1
    subst e1
    have hlt : AllLt l1 news := by first | exact (by assumption : _ ∧ _ ∧ _ ∧ AllLt l1 news).2.2.2 | exact (by assumption : _ ∧ _ ∧ AllLt l1 news).2.2
    replace N1 := news_drop2 (news_drop1 N1)
    refine' kst_range (σ := Int × Nat × List Value × List Int × Nat) (n := (((xs.length : Nat) : Int) - 0).toNat) (fun c => (l1, listOf c.2.2.1.toArray c.2.2.2.2) :: (la, listOf vs.toArray na) :: (lb, listOf ws.toArray nb) :: news) (fun c => [(Str.ofString "carry", .int c.1 c.2.1)]) (fun c => IntsAre c.2.2.1 c.2.2.2.1) []
      (fun pre c => AddP (2 ^ k.toNat) N M (0 + pre.length) c.1 c.2.2.2.1 ∧ c.2.2.2.1.length = 0 + pre.length) (0, _, [], [], 0) (by with_unfolding_all rfl) R1 (small_one (by omega) (by omega) (by omega) (by omega)) (rangeSize_nat _ _) F1 N1 ?hf ?hk ?hp ?turn ?done
    case hf => first | exact .nil | assumption
    case hk => exact List.forall_mem_cons.mpr ⟨by with_unfolding_all rfl, List.forall_mem_nil _⟩
    case hp => exact ⟨add_start, rfl⟩
    case turn =>
      rintro ⟨carry, tn, us, found, cnt⟩ pre i t kU kH kTk own hik hin hoff kFacts ⟨kInv, kLf⟩ kFr kNews
      dsimp only [kstB] at kFr
      dsimp only at kNews kFacts kInv kLf hoff
      simp only [List.nil_append, List.cons_append] at kNews
      simp only [List.map_cons] at hoff
      have kLen3 := IntsAre.length kFacts
      have hi0 : 0 ≤ i := by omega
      have hi1 : i < (ys.length : Int) := by omega
      try dsimp only
      try k_fold
      repeat' (first | (fail_if_success (with_reducible show InvPostN _ _ _ _ _ _ _ _ _)); (fail_if_success (with_reducible show KswPost _ _ _ _ _ _ _ _ _ _ _ _ _ _)); first | (k_unfold; (try dsimp only)) | (k_end; wrow_close) | walk1 | (dsimp only; walk1) | (leave1; walk_say "STEP leave1"; try dsimp only) | fail "no step")
      rename Fr _ _ _ _ => F2
      rename News _ _ _ _ => N2
      simp only [List.push_toArray] at N2
      refine kst_end (c := ((carry + (ys.getD i.toNat 0 + xs.getD i.toNat 0)).fdiv (2 ^ k.toNat), _, _, _, _)) F2 N2 mem_app3 own_app3 rfl (IntsAre.append kFacts (.cons _ _ .nil)) (List.forall_mem_cons.mpr ⟨by with_unfolding_all rfl, List.forall_mem_nil _⟩) (by kst_same) ?_
      dsimp only
      have e1 : i.toNat = 0 + pre.length := by omega
      rw [e1, List.length_append, List.length_append, List.length_singleton, kLf]
      exact ⟨add_turn kInv h3 hyN hxM, rfl⟩
    case done =>
      rintro ⟨carry, tn, us, found, cnt⟩ kU kH kTk kFacts ⟨kInv, kLf⟩ kFr kNews
      dsimp only [kstB] at kFr
      dsimp only at kNews kFacts kInv kLf
      rw [rangeKs_length] at kInv kLf
      have kLen3 := IntsAre.length kFacts
      (try dsimp only)
      (try k_fold)

      have e0 : 0 + (((xs.length : Nat) : Int) - 0).toNat = xs.length := by omega
      rw [e0] at kInv kLf
      repeat' (first | (fail_if_success (with_reducible show wpAny _ _ (PySem.exec (Stmt.For _ _ _ _ _) _) _ _ _)); (fail_if_success (with_reducible show InvPostN _ _ _ _ _ _ _ _ _)); (fail_if_success (with_reducible show KswPost _ _ _ _ _ _ _ _ _ _ _ _ _ _)); first | (k_unfold; (try dsimp only)) | (k_end; wrow_close) | walk1 | (dsimp only; walk1) | (leave1; walk_say "STEP leave1"; try dsimp only) | fail "no step")
      rename Fr _ _ _ _ => F1
      with_unfolding_all refine' For_invVF F1 ?k1 ?k2 ?_
      case k1 => exact rfl
      case k2 => exact rfl
      repeat' (first | (fail_if_success (with_reducible show wpAny _ _ (pyIter (Value.ref _)) _ _ _)); (fail_if_success (with_reducible show InvPostN _ _ _ _ _ _ _ _ _)); (fail_if_success (with_reducible show KswPost _ _ _ _ _ _ _ _ _ _ _ _ _ _)); first | (k_unfold; (try dsimp only)) | (k_end; wrow_close) | walk1 | (dsimp only; walk1) | (leave1; walk_say "STEP leave1"; try dsimp only) | fail "no step")
      rename IsRange _ _ _ _ _ _ _ _ => R1
      rename Fr _ _ _ _ => F1
      rename News _ _ _ _ => N1
      refine' kst_range (σ := Int × Nat × List Value × List Int × Nat) (n := (((ys.length : Nat) : Int) - ((xs.length : Nat) : Int)).toNat) (fun c => (l1, listOf c.2.2.1.toArray c.2.2.2.2) :: (la, listOf vs.toArray na) :: (lb, listOf ws.toArray nb) :: news) (fun c => [(Str.ofString "carry", .int c.1 c.2.1)]) (fun c => IntsAre c.2.2.1 c.2.2.2.1) []
        (fun pre c => AddP (2 ^ k.toNat) N M (xs.length + pre.length) c.1 c.2.2.2.1 ∧ c.2.2.2.1.length = xs.length + pre.length) (carry, tn, us, found, cnt) (by with_unfolding_all rfl) R1 (small_one (by omega) (by omega) (by omega) (by omega)) (rangeSize_nat _ _) F1 N1 ?hf ?hk ?hp ?turn ?done
      case hf => first | exact .nil | assumption
      case hk => exact List.forall_mem_cons.mpr ⟨by with_unfolding_all rfl, List.forall_mem_nil _⟩
      case hp => exact ⟨kInv, kLf⟩
      case turn =>
        rintro ⟨carry, tn, us, found, cnt⟩ pre i t kU kH kTk own hik hin hoff kFacts ⟨kInv, kLf⟩ kFr kNews
        dsimp only [kstB] at kFr
        dsimp only at kNews kFacts kInv kLf hoff
        simp only [List.nil_append, List.cons_append] at kNews
        simp only [List.map_cons] at hoff
        have kLen3 := IntsAre.length kFacts
        have hi0 : 0 ≤ i := by omega
        have hi1 : i < (ys.length : Int) := by omega
        try dsimp only
        try k_fold
        repeat' (first | (fail_if_success (with_reducible show InvPostN _ _ _ _ _ _ _ _ _)); (fail_if_success (with_reducible show KswPost _ _ _ _ _ _ _ _ _ _ _ _ _ _)); first | (k_unfold; (try dsimp only)) | (k_end; wrow_close) | walk1 | (dsimp only; walk1) | (leave1; walk_say "STEP leave1"; try dsimp only) | fail "no step")
        rename Fr _ _ _ _ => F2
        rename News _ _ _ _ => N2
        simp only [List.push_toArray] at N2
        refine kst_end (c := ((carry + ys.getD i.toNat 0).fdiv (2 ^ k.toNat), _, _, _, _)) F2 N2 mem_app3 own_app3 rfl (IntsAre.append kFacts (.cons _ _ .nil)) (List.forall_mem_cons.mpr ⟨by with_unfolding_all rfl, List.forall_mem_nil _⟩) (by kst_same) ?_
        dsimp only
        have e1 : i.toNat = xs.length + pre.length := by omega
        rw [e1, List.length_append, List.length_append, List.length_singleton, kLf]
        exact ⟨add_turn1 kInv h3 hyN hxM (Nat.le_add_right _ _), rfl⟩
      case done =>
        rintro ⟨carry, tn, us, found, cnt⟩ kU kH kTk kFacts ⟨kInv, kLf⟩ kFr kNews
        dsimp only [kstB] at kFr
        dsimp only at kNews kFacts kInv kLf
        rw [rangeKs_length] at kInv kLf
        have kLen3 := IntsAre.length kFacts
        (try dsimp only)
        (try k_fold)

        have e0 : xs.length + (((ys.length : Nat) : Int) - ((xs.length : Nat) : Int)).toNat = ys.length := by omega
        rw [e0] at kInv kLf
        repeat' (first | (fail_if_success (with_reducible show InvPostN _ _ _ _ _ _ _ _ _)); (fail_if_success (with_reducible show KswPost _ _ _ _ _ _ _ _ _ _ _ _ _ _)); first | (k_unfold; (try dsimp only)) | (k_end; wrow_close) | walk1 | (dsimp only; walk1) | (leave1; walk_say "STEP leave1"; try dsimp only) | fail "no step")
        · rename Fr _ _ _ _ => F9
          rename News _ _ _ _ => N9
          simp only [List.push_toArray] at N9
          rw [Nat.add_comm M N, ← add_end1 kInv h3 hyN hxM (by omega) (by assumption)] at hret
          exact hret _ _ _ _ _ F9 (news_drop2 (news_drop2 N9)) (kst_ltOf hlt) (IntsAre.append kFacts (.cons _ _ .nil))
        · rename Fr _ _ _ _ => F9
          rename News _ _ _ _ => N9
          rw [Nat.add_comm M N, ← add_end0 kInv h3 hyN hxM (by omega) (by assumption)] at hret
          exact hret _ _ _ _ _ F9 (news_drop2 (news_drop2 N9)) (kst_ltOf hlt) kFacts
  · rename IsRange _ _ _ _ _ _ _ _ => R1
    rename Fr _ _ _ _ => F1
    rename News _ _ _ _ => N1
    obtain ⟨l1, e1⟩ := news_second N1
    subst e1
    have hlt : AllLt l1 news := by first | exact (by assumption : _ ∧ _ ∧ _ ∧ AllLt l1 news).2.2.2 | exact (by assumption : _ ∧ _ ∧ AllLt l1 news).2.2
    replace N1 := news_drop1 N1
    refine' kst_range (σ := Int × Nat × List Value × List Int × Nat) (n := (((ys.length : Nat) : Int) - 0).toNat) (fun c => (l1, listOf c.2.2.1.toArray c.2.2.2.2) :: (la, listOf vs.toArray na) :: (lb, listOf ws.toArray nb) :: news) (fun c => [(Str.ofString "carry", .int c.1 c.2.1)]) (fun c => IntsAre c.2.2.1 c.2.2.2.1) []
      (fun pre c => AddP (2 ^ k.toNat) M N (0 + pre.length) c.1 c.2.2.2.1 ∧ c.2.2.2.1.length = 0 + pre.length) (0, _, [], [], 0) (by with_unfolding_all rfl) R1 (small_one (by omega) (by omega) (by omega) (by omega)) (rangeSize_nat _ _) F1 N1 ?hf ?hk ?hp ?turn ?done
    case hf => first | exact .nil | assumption
    case hk => exact List.forall_mem_cons.mpr ⟨by with_unfolding_all rfl, List.forall_mem_nil _⟩
    case hp => exact ⟨add_start, rfl⟩
    case turn =>
      rintro ⟨carry, tn, us, found, cnt⟩ pre i t kU kH kTk own hik hin hoff kFacts ⟨kInv, kLf⟩ kFr kNews
      dsimp only [kstB] at kFr
      dsimp only at kNews kFacts kInv kLf hoff
      simp only [List.nil_append, List.cons_append] at kNews
      simp only [List.map_cons] at hoff
      have kLen3 := IntsAre.length kFacts
      have hi0 : 0 ≤ i := by omega
      have hi1 : i < (xs.length : Int) := by omega
      try dsimp only
      try k_fold
      repeat' (first | (fail_if_success (with_reducible show InvPostN _ _ _ _ _ _ _ _ _)); (fail_if_success (with_reducible show KswPost _ _ _ _ _ _ _ _ _ _ _ _ _ _)); first | (k_unfold; (try dsimp only)) | (k_end; wrow_close) | walk1 | (dsimp only; walk1) | (leave1; walk_say "STEP leave1"; try dsimp only) | fail "no step")
      rename Fr _ _ _ _ => F2
      rename News _ _ _ _ => N2
      simp only [List.push_toArray] at N2
      refine kst_end (c := ((carry + (xs.getD i.toNat 0 + ys.getD i.toNat 0)).fdiv (2 ^ k.toNat), _, _, _, _)) F2 N2 mem_app3 own_app3 rfl (IntsAre.append kFacts (.cons _ _ .nil)) (List.forall_mem_cons.mpr ⟨by with_unfolding_all rfl, List.forall_mem_nil _⟩) (by kst_same) ?_
      dsimp only
      have e1 : i.toNat = 0 + pre.length := by omega
      rw [e1, List.length_append, List.length_append, List.length_singleton, kLf]
      exact ⟨add_turn kInv h3 hxM hyN, rfl⟩
    case done =>
      rintro ⟨carry, tn, us, found, cnt⟩ kU kH kTk kFacts ⟨kInv, kLf⟩ kFr kNews
      dsimp only [kstB] at kFr
      dsimp only at kNews kFacts kInv kLf
      rw [rangeKs_length] at kInv kLf
      have kLen3 := IntsAre.length kFacts
      (try dsimp only)
      (try k_fold)

      have e0 : 0 + (((ys.length : Nat) : Int) - 0).toNat = ys.length := by omega
      rw [e0] at kInv kLf
      repeat' (first | (fail_if_success (with_reducible show wpAny _ _ (PySem.exec (Stmt.For _ _ _ _ _) _) _ _ _)); (fail_if_success (with_reducible show InvPostN _ _ _ _ _ _ _ _ _)); (fail_if_success (with_reducible show KswPost _ _ _ _ _ _ _ _ _ _ _ _ _ _)); first | (k_unfold; (try dsimp only)) | (k_end; wrow_close) | walk1 | (dsimp only; walk1) | (leave1; walk_say "STEP leave1"; try dsimp only) | fail "no step")
      rename Fr _ _ _ _ => F1
      with_unfolding_all refine' For_invVF F1 ?k1 ?k2 ?_
      case k1 => exact rfl
      case k2 => exact rfl
      repeat' (first | (fail_if_success (with_reducible show wpAny _ _ (pyIter (Value.ref _)) _ _ _)); (fail_if_success (with_reducible show InvPostN _ _ _ _ _ _ _ _ _)); (fail_if_success (with_reducible show KswPost _ _ _ _ _ _ _ _ _ _ _ _ _ _)); first | (k_unfold; (try dsimp only)) | (k_end; wrow_close) | walk1 | (dsimp only; walk1) | (leave1; walk_say "STEP leave1"; try dsimp only) | fail "no step")
      rename IsRange _ _ _ _ _ _ _ _ => R1
      rename Fr _ _ _ _ => F1
      rename News _ _ _ _ => N1
      refine' kst_range (σ := Int × Nat × List Value × List Int × Nat) (n := (((xs.length : Nat) : Int) - ((ys.length : Nat) : Int)).toNat) (fun c => (l1, listOf c.2.2.1.toArray c.2.2.2.2) :: (la, listOf vs.toArray na) :: (lb, listOf ws.toArray nb) :: news) (fun c => [(Str.ofString "carry", .int c.1 c.2.1)]) (fun c => IntsAre c.2.2.1 c.2.2.2.1) []
        (fun pre c => AddP (2 ^ k.toNat) M N (ys.length + pre.length) c.1 c.2.2.2.1 ∧ c.2.2.2.1.length = ys.length + pre.length) (carry, tn, us, found, cnt) (by with_unfolding_all rfl) R1 (small_one (by omega) (by omega) (by omega) (by omega)) (rangeSize_nat _ _) F1 N1 ?hf ?hk ?hp ?turn ?done
      case hf => first | exact .nil | assumption
      case hk => exact List.forall_mem_cons.mpr ⟨by with_unfolding_all rfl, List.forall_mem_nil _⟩
      case hp => exact ⟨kInv, kLf⟩
      case turn =>
        rintro ⟨carry, tn, us, found, cnt⟩ pre i t kU kH kTk own hik hin hoff kFacts ⟨kInv, kLf⟩ kFr kNews
        dsimp only [kstB] at kFr
        dsimp only at kNews kFacts kInv kLf hoff
        simp only [List.nil_append, List.cons_append] at kNews
        simp only [List.map_cons] at hoff
        have kLen3 := IntsAre.length kFacts
        have hi0 : 0 ≤ i := by omega
        have hi1 : i < (xs.length : Int) := by omega
        try dsimp only
        try k_fold
        repeat' (first | (fail_if_success (with_reducible show InvPostN _ _ _ _ _ _ _ _ _)); (fail_if_success (with_reducible show KswPost _ _ _ _ _ _ _ _ _ _ _ _ _ _)); first | (k_unfold; (try dsimp only)) | (k_end; wrow_close) | walk1 | (dsimp only; walk1) | (leave1; walk_say "STEP leave1"; try dsimp only) | fail "no step")
        rename Fr _ _ _ _ => F2
        rename News _ _ _ _ => N2
        simp only [List.push_toArray] at N2
        refine kst_end (c := ((carry + xs.getD i.toNat 0).fdiv (2 ^ k.toNat), _, _, _, _)) F2 N2 mem_app3 own_app3 rfl (IntsAre.append kFacts (.cons _ _ .nil)) (List.forall_mem_cons.mpr ⟨by with_unfolding_all rfl, List.forall_mem_nil _⟩) (by kst_same) ?_
        dsimp only
        have e1 : i.toNat = ys.length + pre.length := by omega
        rw [e1, List.length_append, List.length_append, List.length_singleton, kLf]
        exact ⟨add_turn1 kInv h3 hxM hyN (Nat.le_add_right _ _), rfl⟩
      case done =>
        rintro ⟨carry, tn, us, found, cnt⟩ kU kH kTk kFacts ⟨kInv, kLf⟩ kFr kNews
        dsimp only [kstB] at kFr
        dsimp only at kNews kFacts kInv kLf
        rw [rangeKs_length] at kInv kLf
        have kLen3 := IntsAre.length kFacts
        (try dsimp only)
        (try k_fold)

        have e0 : ys.length + (((xs.length : Nat) : Int) - ((ys.length : Nat) : Int)).toNat = xs.length := by omega
        rw [e0] at kInv kLf
        repeat' (first | (fail_if_success (with_reducible show InvPostN _ _ _ _ _ _ _ _ _)); (fail_if_success (with_reducible show KswPost _ _ _ _ _ _ _ _ _ _ _ _ _ _)); first | (k_unfold; (try dsimp only)) | (k_end; wrow_close) | walk1 | (dsimp only; walk1) | (leave1; walk_say "STEP leave1"; try dsimp only) | fail "no step")
        · rename Fr _ _ _ _ => F9
          rename News _ _ _ _ => N9
          simp only [List.push_toArray] at N9
          rw [← add_end1 kInv h3 hxM hyN (by omega) (by assumption)] at hret
          exact hret _ _ _ _ _ F9 (news_drop2 (news_drop2 N9)) (kst_ltOf hlt) (IntsAre.append kFacts (.cons _ _ .nil))
        · rename Fr _ _ _ _ => F9
          rename News _ _ _ _ => N9
          rw [← add_end0 kInv h3 hxM hyN (by omega) (by assumption)] at hret
          exact hret _ _ _ _ _ F9 (news_drop2 (news_drop2 N9)) (kst_ltOf hlt) kFacts
end Mine

namespace Mine
theorem one_fdiv {k : Int} (h3 : 3 ≤ k) : (1 : Int).fdiv k = 0 := by
  rw [Int.fdiv_eq_ediv_of_nonneg _ (by omega)]
  exact Int.ediv_eq_zero_of_lt (by omega) (by omega)
theorem one_fmod {k : Int} (h3 : 3 ≤ k) : (1 : Int).fmod k = 1 := by
  rw [Int.fmod_eq_emod_of_nonneg _ (by omega)]
  exact Int.emod_eq_of_lt (by omega) (by omega)
set_option maxRecDepth 100000 in
set_option maxHeartbeats 8000000 in
theorem shift_spec {w : World} {M : Nat} {k : Int} (v u : Nat) (news : List (Addr × Obj)) {la : Addr} {vs : List Value} {na : Nat} {xs : List Int} (ha : (la, listOf vs.toArray na) ∈ news)
    (hi : IntsAre vs xs) (hxM : xs = limbs (2 ^ k.toNat) M) (h3 : 3 ≤ k) (h9 : k ≤ 9) (hx : xs.length ≤ 300) (hdx : ∀ x ∈ xs, 0 ≤ x ∧ x < 512) :
    Con w 74 [.ref la, .int 1 v, .int k u] 1 news (RetL news (limbs (2 ^ k.toNat) (M + M))) := by
  unfold RetL
  unfold Con
  k_fill
  w_top off
  k_with_none
  intro loose mean mg mb dp un gd cn cs a ccd cl outer A₀ base h₀ L m s Q E B F X N' T hk hdp hu hret
  refine wpAny_call ?_
  replace N' := news_front N' ha
  k_dflt ktr_enter
  have kMark := kstMark
  have kLen := IntsAre.length hi
  have h1d := one_fdiv h3
  have h1m := one_fmod h3
  repeat' (first | (fail_if_success (with_reducible show wpAny _ _ (PySem.exec (Stmt.Assign _ _ _) _) _ _ _)); (fail_if_success (with_reducible show InvPostN _ _ _ _ _ _ _ _ _)); (fail_if_success (with_reducible show KswPost _ _ _ _ _ _ _ _ _ _ _ _ _ _)); first | (k_unfold; (try dsimp only)) | (k_end; wrow_close) | walk1 | (dsimp only; walk1) | (leave1; walk_say "STEP leave1"; try dsimp only) | fail "no step")
  · have hnil : xs = [] := List.length_eq_zero_iff.mp (by omega)
    have hM : M = 0 := limbs_nil (hxM ▸ hnil) (two_le_b h3)
    rename Fr _ _ _ _ => F9
    rename News _ _ _ _ => N9
    subst hM
    rw [limbs_zero] at hret
    exact hret _ _ _ _ _ F9 (news_drop2 N9) (kst_ltOf (by exact (by assumption : _ ∧ AllLt _ news).2)) .nil
  · walk1
    repeat' (first | (fail_if_success (with_reducible show wpAny _ _ (PySem.exec (Stmt.Assign _ _ _) _) _ _ _)); (fail_if_success (with_reducible show InvPostN _ _ _ _ _ _ _ _ _)); (fail_if_success (with_reducible show KswPost _ _ _ _ _ _ _ _ _ _ _ _ _ _)); first | (k_unfold; (try dsimp only)) | (k_end; wrow_close) | walk1 | (dsimp only; walk1) | (leave1; walk_say "STEP leave1"; try dsimp only) | fail "no step")
    rename Fr _ _ _ _ => F1
    simp only [h1d, h1m] at F1
    repeat' (first | (fail_if_success (with_reducible show wpAny _ _ (PySem.exec (Stmt.For _ _ _ _ _) _) _ _ _)); (fail_if_success (with_reducible show InvPostN _ _ _ _ _ _ _ _ _)); (fail_if_success (with_reducible show KswPost _ _ _ _ _ _ _ _ _ _ _ _ _ _)); first | (k_unfold; (try dsimp only)) | (k_end; wrow_close) | walk1 | (dsimp only; walk1) | (leave1; walk_say "STEP leave1"; try dsimp only) | fail "no step")
    rename Fr _ _ _ _ => F1
    with_unfolding_all refine' For_invVF F1 ?k1 ?k2 ?_
    case k1 => exact rfl
    case k2 => exact rfl
    repeat' (first | (fail_if_success (with_reducible show wpAny _ _ (pyIter (Value.ref _)) _ _ _)); (fail_if_success (with_reducible show InvPostN _ _ _ _ _ _ _ _ _)); (fail_if_success (with_reducible show KswPost _ _ _ _ _ _ _ _ _ _ _ _ _ _)); first | (k_unfold; (try dsimp only)) | (k_end; wrow_close) | walk1 | (dsimp only; walk1) | (leave1; walk_say "STEP leave1"; try dsimp only) | fail "no step")
    rename Fr _ _ _ _ => F1
    rename News _ _ _ _ => N1
    obtain ⟨l1, e1⟩ := news_second N1
    subst e1
    have hlt : AllLt l1 news := (by assumption : _ ∧ _ ∧ _ ∧ AllLt l1 news).2.2.2
    have hlt2 : la < l1 := (by assumption : _ ∧ _ ∧ (la < l1) ∧ AllLt l1 news).2.2.1
    replace N1 := news_drop2 (news_drop2 (news_drop1 N1))
    refine' kst_listL (σ := Int × Nat × List Value × List Int × Nat) (l := la) (vs := vs) (ns := xs) (nn := na) (fun c => (l1, listOf c.2.2.1.toArray c.2.2.2.2) :: (la, listOf vs.toArray na) :: news) (fun c => [(Str.ofString "carry", .int c.1 c.2.1)]) (fun c => IntsAre c.2.2.1 c.2.2.2.1) []
      (fun pre c => AddP (2 ^ k.toNat) M M pre.length c.1 c.2.2.2.1 ∧ c.2.2.2.1.length = pre.length) (0, _, [], [], _) (by with_unfolding_all rfl) (fun _ => List.mem_cons_of_mem _ List.mem_cons_self) hi F1 N1 .nil ?hk ?hp ?turn ?done
    case hk => exact List.forall_mem_cons.mpr ⟨by with_unfolding_all rfl, List.forall_mem_nil _⟩
    case hp => exact ⟨add_start, rfl⟩
    case turn =>
      rintro ⟨carry, tn, us, found, cnt⟩ pre post n t kU kH kTk own hxe hn hoff kFacts ⟨kInv, kLf⟩ kFr kNews
      dsimp only [kstB] at kFr
      dsimp only at kNews kFacts kInv kLf hoff
      simp only [List.nil_append, List.cons_append] at kNews
      simp only [List.map_cons] at hoff
      have kLen3 := IntsAre.length kFacts
      obtain ⟨hn0, hn1⟩ := hdx n hn
      have hLp : pre.length + 1 ≤ xs.length := by rw [hxe, List.length_append, List.length_cons]; omega
      have hget : xs[pre.length]? = some n := by rw [hxe]; simp
      try dsimp only
      try k_fold
      repeat' (first | (fail_if_success (with_reducible show InvPostN _ _ _ _ _ _ _ _ _)); (fail_if_success (with_reducible show KswPost _ _ _ _ _ _ _ _ _ _ _ _ _ _)); first | (k_unfold; (try dsimp only)) | (k_end; wrow_close) | walk1 | (dsimp only; walk1) | (leave1; walk_say "STEP leave1"; try dsimp only) | fail "no step")
      rename Fr _ _ _ _ => F2
      rename News _ _ _ _ => N2
      simp only [List.push_toArray] at N2
      refine kst_end (c := ((Builtin.bitOr carry (n * 2 ^ (1 : Int).toNat)).fdiv (2 ^ k.toNat), _, _, _, _)) F2 N2 mem_app2 own_app2 rfl (IntsAre.append kFacts (.cons _ _ .nil)) (List.forall_mem_cons.mpr ⟨by with_unfolding_all rfl, List.forall_mem_nil _⟩) (by kst_same) ?_
      dsimp only
      rw [List.length_append, List.length_append, List.length_singleton, List.length_singleton, kLf]
      exact ⟨shift_turn kInv h3 hxM hget, rfl⟩
    case done =>
      rintro ⟨carry, tn, us, found, cnt⟩ kU kH kTk kFacts ⟨kInv, kLf⟩ kFr kNews
      dsimp only [kstB] at kFr
      dsimp only at kNews kFacts kInv kLf
      have kLen3 := IntsAre.length kFacts
      (try dsimp only)
      (try k_fold)
      repeat' (first | (fail_if_success (with_reducible show InvPostN _ _ _ _ _ _ _ _ _)); (fail_if_success (with_reducible show KswPost _ _ _ _ _ _ _ _ _ _ _ _ _ _)); first | (k_unfold; (try dsimp only)) | (k_end; wrow_close) | walk1 | (dsimp only; walk1) | (leave1; walk_say "STEP leave1"; try dsimp only) | fail "no step")
      · rename Fr _ _ _ _ => F9
        rename News _ _ _ _ => N9
        simp only [List.push_toArray] at N9
        rw [← add_end1 kInv h3 hxM hxM (Nat.le_refl _) (by assumption)] at hret
        exact hret _ _ _ _ _ F9 (news_drop2 N9) (kst_ltOf hlt) (IntsAre.append kFacts (.cons _ _ .nil))
      · rename Fr _ _ _ _ => F9
        rename News _ _ _ _ => N9
        rw [← add_end0 kInv h3 hxM hxM (Nat.le_refl _) (by assumption)] at hret
        exact hret _ _ _ _ _ F9 (news_drop2 N9) (kst_ltOf hlt) kFacts
end Mine

namespace Mine
theorem news_dropA {h₀ h : Heap} {L : Addr} {n o : List (Addr × Obj)} (N : News h₀ L h (n ++ o)) : News h₀ L h n := fun q hq => N q (List.mem_append.mpr (.inl hq))
theorem mem_app2' {a b : Addr × Obj} {n o : List (Addr × Obj)} : ∀ p ∈ a :: b :: n, p ∈ a :: b :: (n ++ o) := mem_app2
/-- it hands on an int that is not below nought -/
def RetNN (news : List (Addr × Obj)) (h₀ : Heap) (L : Addr) (m : Str → Option Value) (Q : Nat → Value → Heap → Prop) : Prop :=
  ∀ (r : Int) (t : Nat) (h' : Heap) (tk : Nat), 0 ≤ r → Fr h₀ L h' m → News h₀ L h' news → Q tk (.int r t) h'
set_option maxRecDepth 100000 in
set_option maxHeartbeats 8000000 in
theorem cmp_spec {w : World} {M N : Nat} {k : Int} (news : List (Addr × Obj)) {la lb : Addr} {vs ws : List Value} {na nb : Nat} {xs ys : List Int} (ha : (la, listOf vs.toArray na) ∈ news) (hb : (lb, listOf ws.toArray nb) ∈ news)
    (hi : IntsAre vs xs) (hj : IntsAre ws ys) (hxM : xs = limbs (2 ^ k.toNat) M) (hyN : ys = limbs (2 ^ k.toNat) N) (h3 : 3 ≤ k) (h9 : k ≤ 9) (hx : xs.length ≤ 300) (hy : ys.length ≤ 300) (hNM : N ≤ M) :
    Con w 53 [.ref la, .ref lb] 1 news (RetNN news) := by
  unfold RetNN
  unfold Con
  k_fill
  w_top off
  k_with_none
  intro loose mean mg mb dp un gd cn cs a ccd cl outer A₀ base h₀ L m s Q E B F X N' T hk hdp hu hret
  refine wpAny_call ?_
  replace N' := news_front (news_front N' hb) (List.mem_cons_of_mem _ ha)
  k_dflt ktr_enter
  have kMark := kstMark
  have kLen := IntsAre.length hi
  have kLen2 := IntsAre.length hj
  have hle := cmp_len h3 hxM hyN hNM
  repeat' (first | (fail_if_success (with_reducible show wpAny _ _ (PySem.exec (Stmt.For _ _ _ _ _) _) _ _ _)); (fail_if_success (with_reducible show InvPostN _ _ _ _ _ _ _ _ _)); (fail_if_success (with_reducible show KswPost _ _ _ _ _ _ _ _ _ _ _ _ _ _)); first | (k_unfold; (try dsimp only)) | (k_end; wrow_close) | walk1 | (dsimp only; walk1) | (leave1; walk_say "STEP leave1"; try dsimp only) | fail "no step")
  · exact hret _ _ _ _ (by decide) (by assumption) (news_drop1 (news_drop1 (by assumption)))
  · rename Fr _ _ _ _ => F1
    with_unfolding_all refine' For_invVF F1 ?k1 ?k2 ?_
    case k1 => exact rfl
    case k2 => exact rfl
    repeat' (first | (fail_if_success (with_reducible show wpAny _ _ (pyIter (Value.ref _)) _ _ _)); (fail_if_success (with_reducible show InvPostN _ _ _ _ _ _ _ _ _)); (fail_if_success (with_reducible show KswPost _ _ _ _ _ _ _ _ _ _ _ _ _ _)); first | (k_unfold; (try dsimp only)) | (k_end; wrow_close) | walk1 | (dsimp only; walk1) | (leave1; walk_say "STEP leave1"; try dsimp only) | fail "no step")
    rename IsRange _ _ _ _ _ _ _ _ => R1
    rename Fr _ _ _ _ => F1
    rename News _ _ _ _ => N1
    rename ((xs.length : Int) = (ys.length : Int)) => hll
    refine' kst_rangeD (σ := Unit) (n := ((xs.length : Int) - 1 - (-1)).toNat) (fun _ => (la, listOf vs.toArray na) :: (lb, listOf ws.toArray nb) :: news) (fun _ => []) (fun _ => True) []
      (fun pre _ => M / (2 ^ k.toNat) ^ (xs.length - pre.length) = N / (2 ^ k.toNat) ^ (xs.length - pre.length)) () (by with_unfolding_all rfl) R1 (small_down (by omega) (by omega) (by omega) (by omega)) (rangeSize_downNat _ _) F1 N1 trivial ?hk ?hp ?turn ?done
    case hk => exact List.forall_mem_nil _
    case hp => exact cmp_start h3 hxM hyN (by simp) (by simp; omega)
    case turn =>
      rintro _ pre i t kU kH kTk own hik hin hoff _ kInv kFr kNews
      (try dsimp only [kstB] at kFr)
      (try dsimp only at kNews)
      (try dsimp only at kInv)
      (try dsimp only at hoff)
      (try simp only [List.nil_append, List.cons_append] at kNews)
      (try simp only [List.map_cons] at hoff)
      have hi0 : 0 ≤ i := by omega
      have hi1 : i < (xs.length : Int) := by omega
      have e1 : xs.length - pre.length = i.toNat + 1 := by omega
      rw [e1] at kInv
      have hnl := cmp_less h3 hxM hyN kInv hNM
      try dsimp only
      try k_fold
      repeat' (first | (fail_if_success (with_reducible show InvPostN _ _ _ _ _ _ _ _ _)); (fail_if_success (with_reducible show KswPost _ _ _ _ _ _ _ _ _ _ _ _ _ _)); first | (k_unfold; (try dsimp only)) | (k_end; wrow_close) | walk1 | (dsimp only; walk1) | (leave1; walk_say "STEP leave1"; try dsimp only) | fail "no step")
      · dsimp only [InvPostN]
        repeat' (first | (fail_if_success (with_reducible show InvPostN _ _ _ _ _ _ _ _ _)); (fail_if_success (with_reducible show KswPost _ _ _ _ _ _ _ _ _ _ _ _ _ _)); first | (k_unfold; (try dsimp only)) | (k_end; wrow_close) | walk1 | (dsimp only; walk1) | (leave1; walk_say "STEP leave1"; try dsimp only) | fail "no step")
        exact hret _ _ _ _ (by decide) (by assumption) (news_dropA (news_drop1 (news_drop1 (by assumption))))
      · rename Fr _ _ _ _ => F2
        rename News _ _ _ _ => N2
        refine kst_end (c := ()) F2 N2 mem_app2' own_app2 rfl trivial (List.forall_mem_nil _) (by kst_same) ?_
        have e2 : xs.length - (pre ++ [i]).length = i.toNat := by rw [List.length_append, List.length_singleton]; omega
        rw [e2]
        exact cmp_turn h3 hxM hyN kInv (by assumption)
    case done =>
      rintro _ kU kH kTk kFacts kInv kFr kNews
      (try dsimp only [kstB] at kFr)
      (try dsimp only at kNews)
      (try dsimp only)
      (try k_fold)
      repeat' (first | (fail_if_success (with_reducible show InvPostN _ _ _ _ _ _ _ _ _)); (fail_if_success (with_reducible show KswPost _ _ _ _ _ _ _ _ _ _ _ _ _ _)); first | (k_unfold; (try dsimp only)) | (k_end; wrow_close) | walk1 | (dsimp only; walk1) | (leave1; walk_say "STEP leave1"; try dsimp only) | fail "no step")
      exact hret _ _ _ _ (by decide) (by assumption) (news_drop1 (news_drop1 (by assumption)))
end Mine

namespace Mine
set_option maxRecDepth 100000 in
set_option maxHeartbeats 8000000 in
theorem norm_spec {w : World} {D n : Nat} {k : Int} (news : List (Addr × Obj)) {la : Addr} {vs : List Value} {na : Nat} {xs : List Int} (ha : (la, listOf vs.toArray na) ∈ news)
    (hi : IntsAre vs xs) (hxD : xs = digs (2 ^ k.toNat) n D) (hD : NormP (2 ^ k.toNat) D n) (h3 : 3 ≤ k) (hx : n ≤ 300) :
    Con w 46 [.ref la] 1 news (RetL news (limbs (2 ^ k.toNat) D)) := by
  unfold RetL
  unfold Con
  k_fill
  w_top off
  k_with_none
  intro loose mean mg mb dp un gd cn cs a ccd cl outer A₀ base h₀ L m s Q E B F X N' T hk hdp hu hret
  refine wpAny_call ?_
  replace N' := news_front N' ha
  k_dflt ktr_enter
  have kMark := kstMark
  have kLen := IntsAre.length hi
  have hxl : xs.length = n := by rw [hxD]; exact digs_length
  repeat' (first | (fail_if_success (with_reducible show wpAny _ _ (PySem.exec (Stmt.While _ _ _ _) _) _ _ _)); (fail_if_success (with_reducible show InvPostN _ _ _ _ _ _ _ _ _)); (fail_if_success (with_reducible show KswPost _ _ _ _ _ _ _ _ _ _ _ _ _ _)); first | (k_unfold; (try dsimp only)) | (k_end; wrow_close) | walk1 | (dsimp only; walk1) | (leave1; walk_say "STEP leave1"; try dsimp only) | fail "no step")
  rename Fr _ _ _ _ => F1
  rename News _ _ _ _ => N1
  refine' ksw_while (σ := Int × Nat) (fun c => (la, listOf vs.toArray na) :: news) (fun c => [(Str.ofString "end", .int c.1 c.2)]) (fun c => True) []
    (fun c => 0 ≤ c.1 ∧ c.1 ≤ (n : Int) ∧ NormP (2 ^ k.toNat) D c.1.toNat) (fun c => c.1.toNat) ((xs.length : Int), _) F1 N1 trivial ?hk ?hp ?turn ?hE
  case hk => exact List.forall_mem_cons.mpr ⟨by with_unfolding_all rfl, List.forall_mem_nil _⟩
  case hp => exact ⟨by dsimp only; omega, by dsimp only; omega, by dsimp only; rw [hxl]; exact hD⟩
  case hE => with_unfolding_all passes_own
  case turn =>
    rintro ⟨e, tn⟩ kU kH kTk _ ⟨hP0, hP1, hP2⟩ kFr kNews
    dsimp only [kstB] at kFr
    dsimp only at kNews hP0 hP1 hP2
    try dsimp only
    try k_fold
    repeat' (first | (fail_if_success (with_reducible show InvPostN _ _ _ _ _ _ _ _ _)); (fail_if_success (with_reducible show KswPost _ _ _ _ _ _ _ _ _ _ _ _ _ _)); first | (k_unfold; (try dsimp only)) | (k_end; wrow_close) | walk1 | (dsimp only; walk1) | (leave1; walk_say "STEP leave1"; try dsimp only) | fail "no step")
    · rename Fr _ _ _ _ => F2
      rename News _ _ _ _ => N2
      rename (xs.getD (e - 1).toNat 0 = 0) => hz
      have e1 : e.toNat = (e - 1).toNat + 1 := by omega
      rw [e1] at hP2
      exact ksw_end (c' := (e - 1, _)) F2 N2 (fun p hp => hp) trivial (List.forall_mem_cons.mpr ⟨by with_unfolding_all rfl, List.forall_mem_nil _⟩) (by ksw_same) ⟨by dsimp only; omega, by dsimp only; omega, norm_turn h3 hxD hP2 (by omega) hz⟩ (by dsimp only; omega)
    · rename Fr _ _ _ _ => F2
      rename News _ _ _ _ => N2
      rename (xs.getD (e - 1).toNat 0 ≠ 0) => hz
      have e1 : e.toNat = (e - 1).toNat + 1 := by omega
      rename IntsAre _ (List.take e.toNat xs) => hI9
      rw [e1] at hP2 hI9
      rw [norm_end1 h3 hxD hP2 (by omega) hz] at hI9
      exact hret _ _ _ _ _ F2 (news_drop2 N2) (kst_ltOf (by assumption : _ ∧ AllLt _ news).2) hI9
    · rename Fr _ _ _ _ => F2
      rename News _ _ _ _ => N2
      have e1 : e.toNat = 0 := by omega
      rename IntsAre _ (List.take e.toNat xs) => hI9
      rw [e1] at hP2 hI9
      rw [norm_end0 h3 hxD hP2] at hI9
      exact hret _ _ _ _ _ F2 (news_drop2 N2) (kst_ltOf (by assumption : _ ∧ AllLt _ news).2) hI9
end Mine

namespace Mine
set_option maxRecDepth 100000 in
set_option maxHeartbeats 8000000 in
theorem sub_spec {w : World} {M N : Nat} {k : Int} (u : Nat) (news : List (Addr × Obj)) {la lb : Addr} {vs ws : List Value} {na nb : Nat} {xs ys : List Int} (ha : (la, listOf vs.toArray na) ∈ news) (hb : (lb, listOf ws.toArray nb) ∈ news)
    (hi : IntsAre vs xs) (hj : IntsAre ws ys) (hxM : xs = limbs (2 ^ k.toNat) M) (hyN : ys = limbs (2 ^ k.toNat) N) (h3 : 3 ≤ k) (h9 : k ≤ 9) (hx : xs.length ≤ 300) (hy : ys.length ≤ 300) (hNM : N ≤ M)
    (hdx : ∀ x ∈ xs, 0 ≤ x ∧ x < 512) (hdy : ∀ x ∈ ys, 0 ≤ x ∧ x < 512) :
    Con w 67 [.ref la, .ref lb, .int k u] 2 news (RetL news (limbs (2 ^ k.toNat) (M - N))) := by
  unfold RetL
  unfold Con
  k_fill
  w_top off
  k_with_none
  intro loose mean mg mb dp un gd cn cs a ccd cl outer A₀ base h₀ L m s Q E B F X N' T hk hdp hu hret
  refine wpAny_call ?_
  replace N' := news_front (news_front N' hb) (List.mem_cons_of_mem _ ha)
  k_dflt ktr_enter
  have kMark := kstMark
  have kLen := IntsAre.length hi
  have kLen2 := IntsAre.length hj
  have hle := cmp_len h3 hxM hyN hNM
  repeat' (first | (fail_if_success (with_reducible show wpAny _ _ (PySem.call (Value.ref _) _ _) _ _ _)); (fail_if_success (with_reducible show InvPostN _ _ _ _ _ _ _ _ _)); (fail_if_success (with_reducible show KswPost _ _ _ _ _ _ _ _ _ _ _ _ _ _)); first | (k_unfold; (try dsimp only)) | (k_end; wrow_close) | walk1 | (dsimp only; walk1) | (leave1; walk_say "STEP leave1"; try dsimp only) | fail "no step")
  (rename News _ _ _ _ => Nc); k_dflt (refine' Con.use (cmp_spec _ ?ma ?mb hi hj hxM hyN h3 h9 hx hy hNM) ?kB1 ?kF1 ?kX1 Nc ?kT1 ?kK1 ?kd1 ?ku1 ?kR1); (case kB1 => k_asm); (case kF1 => k_asm); (case kX1 => k_asm); (case kT1 => k_asm); (case kK1 => first | exact rfl | assumption); (case kd1 => ktr_room); (case ku1 => ktr_units)
  case ma => exact List.mem_cons_self
  case mb => exact List.mem_cons_of_mem _ List.mem_cons_self
  unfold RetNN
  intro r tr h1 tk1 hr0 F1 N1
  (try dsimp only)
  (try k_fold)
  repeat' (first | (fail_if_success (with_reducible show wpAny _ _ (PySem.exec (Stmt.For _ _ _ _ _) _) _ _ _)); (fail_if_success (with_reducible show InvPostN _ _ _ _ _ _ _ _ _)); (fail_if_success (with_reducible show KswPost _ _ _ _ _ _ _ _ _ _ _ _ _ _)); first | (k_unfold; (try dsimp only)) | (k_end; wrow_close) | walk1 | (dsimp only; walk1) | (leave1; walk_say "STEP leave1"; try dsimp only) | fail "no step")
  rename Fr _ _ _ _ => F1
  with_unfolding_all refine' For_invVF F1 ?k1 ?k2 ?_
  case k1 => exact rfl
  case k2 => exact rfl
  repeat' (first | (fail_if_success (with_reducible show wpAny _ _ (pyIter (Value.ref _)) _ _ _)); (fail_if_success (with_reducible show InvPostN _ _ _ _ _ _ _ _ _)); (fail_if_success (with_reducible show KswPost _ _ _ _ _ _ _ _ _ _ _ _ _ _)); first | (k_unfold; (try dsimp only)) | (k_end; wrow_close) | walk1 | (dsimp only; walk1) | (leave1; walk_say "STEP leave1"; try dsimp only) | fail "no step")
  rename IsRange _ _ _ _ _ _ _ _ => R1
  rename Fr _ _ _ _ => F1
  rename News _ _ _ _ => N1
  obtain ⟨l1, e1⟩ := news_second N1
  subst e1
  have hlt : AllLt l1 news := (by assumption : _ ∧ _ ∧ AllLt l1 news).2.2
  replace N1 := news_drop1 N1
  refine' kst_range (σ := Int × Nat × List Value × List Int × Nat) (n := ((xs.length : Int) - 0).toNat) (fun c => (l1, listOf c.2.2.1.toArray c.2.2.2.2) :: (la, listOf vs.toArray na) :: (lb, listOf ws.toArray nb) :: news) (fun c => [(Str.ofString "borrow", .int c.1 c.2.1)]) (fun c => IntsAre c.2.2.1 c.2.2.2.1) [Str.ofString "limb"]
    (fun pre c => SubP (2 ^ k.toNat) M N pre.length c.1 c.2.2.2.1 ∧ c.2.2.2.1.length = pre.length) (0, _, [], [], 0) (by with_unfolding_all rfl) R1 (small_one (by omega) (by omega) (by omega) (by omega)) (rangeSize_nat _ _) F1 N1 .nil ?hk ?hp ?turn ?done
  case hk => exact List.forall_mem_cons.mpr ⟨by with_unfolding_all rfl, List.forall_mem_nil _⟩
  case hp => exact ⟨sub_start, rfl⟩
  case turn =>
    rintro ⟨borrow, tn, us, found, cnt⟩ pre i t kU kH kTk own hik hin hoff kFacts ⟨kInv, kLf⟩ kFr kNews
    dsimp only [kstB] at kFr
    dsimp only at kNews kFacts kInv kLf hoff
    simp only [List.nil_append, List.cons_append] at kNews
    simp only [List.map_cons] at hoff
    have kLen3 := IntsAre.length kFacts
    have hi0 : 0 ≤ i := by omega
    have hi1 : i < (xs.length : Int) := by omega
    have e1 : i.toNat = pre.length := by omega
    try dsimp only
    try k_fold
    repeat' (first | (fail_if_success (with_reducible show InvPostN _ _ _ _ _ _ _ _ _)); (fail_if_success (with_reducible show KswPost _ _ _ _ _ _ _ _ _ _ _ _ _ _)); first | (k_unfold; (try dsimp only)) | (k_end; wrow_close) | walk1 | (dsimp only; walk1) | (leave1; walk_say "STEP leave1"; try dsimp only) | fail "no step")
    · rename Fr _ _ _ _ => F2
      rename News _ _ _ _ => N2
      simp only [List.push_toArray] at N2
      rename (xs.getD i.toNat 0 - borrow - ys.getD i.toNat 0 < 0) => hn
      refine kst_end (c := (1, _, _, _, _)) F2 N2 mem_app3 own_app3 rfl (IntsAre.append kFacts (.cons _ _ .nil)) (List.forall_mem_cons.mpr ⟨by with_unfolding_all rfl, List.forall_mem_nil _⟩) (by kst_same) ?_
      dsimp only
      rw [e1] at hn ⊢
      rw [List.length_append, List.length_append, List.length_singleton, List.length_singleton, kLf]
      exact ⟨sub_turn_neg kInv h3 hNM hxM hyN rfl hn, rfl⟩
    · rename Fr _ _ _ _ => F2
      rename News _ _ _ _ => N2
      simp only [List.push_toArray] at N2
      rename (¬ xs.getD i.toNat 0 - borrow - ys.getD i.toNat 0 < 0) => hn
      refine kst_end (c := (0, _, _, _, _)) F2 N2 mem_app3 own_app3 rfl (IntsAre.append kFacts (.cons _ _ .nil)) (List.forall_mem_cons.mpr ⟨by with_unfolding_all rfl, List.forall_mem_nil _⟩) (by kst_same) ?_
      dsimp only
      rw [e1] at hn ⊢
      rw [List.length_append, List.length_append, List.length_singleton, List.length_singleton, kLf]
      exact ⟨sub_turn_pos kInv h3 hNM hxM hyN rfl hn, rfl⟩
    · rename Fr _ _ _ _ => F2
      rename News _ _ _ _ => N2
      simp only [List.push_toArray] at N2
      rename (xs.getD i.toNat 0 - borrow - 0 < 0) => hn
      refine kst_end (c := (1, _, _, _, _)) F2 N2 mem_app3 own_app3 rfl (IntsAre.append kFacts (.cons _ _ .nil)) (List.forall_mem_cons.mpr ⟨by with_unfolding_all rfl, List.forall_mem_nil _⟩) (by kst_same) ?_
      dsimp only
      rw [e1] at hn ⊢
      rw [List.length_append, List.length_append, List.length_singleton, List.length_singleton, kLf]
      exact ⟨sub_turn_neg kInv h3 hNM hxM hyN (getD_out (by omega)) hn, rfl⟩
    · rename Fr _ _ _ _ => F2
      rename News _ _ _ _ => N2
      simp only [List.push_toArray] at N2
      rename (¬ xs.getD i.toNat 0 - borrow - 0 < 0) => hn
      refine kst_end (c := (0, _, _, _, _)) F2 N2 mem_app3 own_app3 rfl (IntsAre.append kFacts (.cons _ _ .nil)) (List.forall_mem_cons.mpr ⟨by with_unfolding_all rfl, List.forall_mem_nil _⟩) (by kst_same) ?_
      dsimp only
      rw [e1] at hn ⊢
      rw [List.length_append, List.length_append, List.length_singleton, List.length_singleton, kLf]
      exact ⟨sub_turn_pos kInv h3 hNM hxM hyN (getD_out (by omega)) hn, rfl⟩
  case done =>
    rintro ⟨borrow, tn, us, found, cnt⟩ kU kH kTk kFacts ⟨kInv, kLf⟩ kFr kNews
    dsimp only [kstB] at kFr
    dsimp only at kNews kFacts kInv kLf
    rw [rangeKs_length] at kInv kLf
    have kLen3 := IntsAre.length kFacts
    have e0 : ((xs.length : Int) - 0).toNat = xs.length := by omega
    rw [e0] at kInv kLf
    obtain ⟨hf, hD⟩ := sub_end kInv hxM hNM h3
    (try dsimp only)
    (try k_fold)
    repeat' (first | (fail_if_success (with_reducible show wpAny _ _ (PySem.call (Value.ref _) _ _) _ _ _)); (fail_if_success (with_reducible show InvPostN _ _ _ _ _ _ _ _ _)); (fail_if_success (with_reducible show KswPost _ _ _ _ _ _ _ _ _ _ _ _ _ _)); first | (k_unfold; (try dsimp only)) | (k_end; wrow_close) | walk1 | (dsimp only; walk1) | (leave1; walk_say "STEP leave1"; try dsimp only) | fail "no step")
    (rename News _ _ _ _ => Nc); k_dflt (refine' Con.use (norm_spec _ ?mc kFacts hf hD h3 hx) ?kB2 ?kF2 ?kX2 Nc ?kT2 ?kK2 ?kd2 ?ku2 ?kR2); (case kB2 => k_asm); (case kF2 => k_asm); (case kX2 => k_asm); (case kT2 => k_asm); (case kK2 => first | exact rfl | assumption); (case kd2 => ktr_room); (case ku2 => ktr_units)
    case mc => exact List.mem_cons_self
    unfold RetL
    intro l us2 nn2 h9 tk9 F9 N9 hl9 hI9
    (try dsimp only)
    (try k_fold)
    repeat' (first | (fail_if_success (with_reducible show InvPostN _ _ _ _ _ _ _ _ _)); (fail_if_success (with_reducible show KswPost _ _ _ _ _ _ _ _ _ _ _ _ _ _)); first | (k_unfold; (try dsimp only)) | (k_end; wrow_close) | walk1 | (dsimp only; walk1) | (leave1; walk_say "STEP leave1"; try dsimp only) | fail "no step")
    exact hret _ _ _ _ _ (by assumption) (news_drop2 (news_drop2 (news_drop2 (by assumption)))) (fun p hp => hl9 p (List.mem_cons_of_mem _ (List.mem_cons_of_mem _ (List.mem_cons_of_mem _ hp)))) hI9
end Mine

namespace Mine
def poolOf (lg : Addr) (i q : Int) (t1 t2 c : Nat) : Obj := listOf (#[.ref lg, .int i t1, .int q t2] : Array Value) c
def RetD (lp lg : Addr) (gs : List Value) (ng : Nat) (rest : List (Addr × Obj)) (many : Int) (h₀ : Heap) (L : Addr) (m : Str → Option Value) (Q : Nat → Value → Heap → Prop) : Prop :=
  ∀ (r : Int) (t : Nat) (i q : Int) (t1 t2 c : Nat) (h' : Heap) (tk : Nat), 0 ≤ r → r < many → 0 ≤ i → Fr h₀ L h' m → News h₀ L h' ((lp, listOf ([.ref lg, .int i t1, .int q t2] : List Value).toArray c) :: (lg, listOf gs.toArray ng) :: rest) → Q tk (.int r t) h'
theorem fmod_in {x many : Int} (h : 0 < many) : 0 ≤ x.fmod many ∧ x.fmod many < many := by
  rw [Int.fmod_eq_emod_of_nonneg _ (by omega)]
  exact ⟨Int.emod_nonneg _ (by omega), Int.emod_lt_of_pos _ h⟩
set_option maxRecDepth 100000 in
set_option maxHeartbeats 8000000 in
theorem draw_spec {w : World} {many : Int} (u : Nat) {lp lg : Addr} {i q : Int} {t1 t2 c : Nat} {gs : List Value} {xs : List Int} {ng : Nat} {rest : List (Addr × Obj)} (hi : IntsAre gs xs) (hx : xs.length ≤ 20) (h0 : 0 ≤ i) (hm : 0 < many)
    (hne : (lg : Nat) ≠ lp) (hoff : OwnOff rest [lp]) :
    Con w 116 [.ref lp, .int many u] 1 ((lp, listOf ([.ref lg, .int i t1, .int q t2] : List Value).toArray c) :: (lg, listOf gs.toArray ng) :: rest) (RetD lp lg gs ng rest many) := by
  unfold RetD
  unfold Con
  k_fill
  w_top off
  k_with_none
  intro loose mean mg mb dp un gd cn cs a ccd cl outer A₀ base h₀ L m s Q E B F X N' T hk hdp hu hret
  refine wpAny_call ?_
  k_dflt ktr_enter
  have kMark := kstMark
  have kLen := IntsAre.length hi
  repeat' (first | (fail_if_success (with_reducible show InvPostN _ _ _ _ _ _ _ _ _)); (fail_if_success (with_reducible show KswPost _ _ _ _ _ _ _ _ _ _ _ _ _ _)); first | (k_unfold; (try dsimp only)) | (k_end; wrow_close) | walk1 | (dsimp only; walk1) | (leave1; walk_say "STEP leave1"; try dsimp only) | fail "no step")
  all_goals (
    rename Fr _ _ _ _ => F9
    rename News _ _ _ _ => N9
    exact hret _ _ _ _ _ _ _ _ _ (fmod_in hm).1 (fmod_in hm).2 (by omega) F9 N9)
end Mine

namespace Mine
theorem news_perm {h₀ h : Heap} {L : Addr} {n₁ n₂ : List (Addr × Obj)} (N : News h₀ L h n₁) (hs : ∀ p ∈ n₂, p ∈ n₁) : News h₀ L h n₂ := fun p hp => N p (hs p hp)
theorem ownOff_cons {a l : Addr} {o : Obj} {n : List (Addr × Obj)} (h : a ≠ l) (H : OwnOff n [l]) : OwnOff ((a, o) :: n) [l] := by
  intro p hp q hq
  rcases List.mem_cons.mp hp with rfl | hp
  · rcases List.mem_singleton.mp hq with rfl
    exact h
  · exact H p hp q hq
theorem fib_two_le {m : Nat} : fib (m + 1) + fib (m + 1) ≤ fib (m + 3) := by
  have e : fib (m + 3) = fib (m + 1) + fib (m + 2) := rfl
  have e2 : fib (m + 2) = fib m + fib (m + 1) := rfl
  omega
/-- what a product hands on: a new list, and one more telling -/
def RetMul (lt : Addr) (j : Nat) (k : Int) (news : List (Addr × Obj)) (R : List Int) (h₀ : Heap) (L : Addr) (m : Str → Option Value) (Q : Nat → Value → Heap → Prop) : Prop :=
  ∀ (l : Addr) (us ts : List Value) (nn nt : Nat) (h' : Heap) (tk : Nat), Fr h₀ L h' m → News h₀ L h' ((l, listOf us.toArray nn) :: (lt, listOf ts.toArray nt) :: news) → (∀ p ∈ news, p.1 < l) → lt < l → IntsAre us R → IntsAre ts (List.replicate (j + 1) k) → Q tk (.ref l) h'
/-- f is a product of digit lists that tells each of its calls to the list at lt -/
def MulOk (w : World) (f lt : Addr) (k : Int) (base : List (Addr × Obj)) : Prop :=
  ∀ (news : List (Addr × Obj)) (la lb : Addr) (vs ws ts : List Value) (na nb nt M N j u : Nat), (∀ p ∈ base, p ∈ news) → OwnOff news [lt] → (la, listOf vs.toArray na) ∈ news → (lb, listOf ws.toArray nb) ∈ news → IntsAre vs (limbs (2 ^ k.toNat) M) → IntsAre ws (limbs (2 ^ k.toNat) N) →
    Fits M → Fits N → Fits (M * N) → IntsAre ts (List.replicate j k) → j ≤ 100 → Con w f [.ref la, .ref lb, .int k u] 3 ((lt, listOf ts.toArray nt) :: news) (RetMul lt j k news (limbs (2 ^ k.toNat) (M * N)))
abbrev tupOf (vs : List Value) : Obj := { cls := .type "tuple", data := .seq vs.toArray }
/-- a pair of new digit lists, and three more tellings -/
def RetDbl (lt : Addr) (j : Nat) (k : Int) (news : List (Addr × Obj)) (R S : List Int) (h₀ : Heap) (L : Addr) (m : Str → Option Value) (Q : Nat → Value → Heap → Prop) : Prop :=
  ∀ (lr l1 l2 : Addr) (us1 us2 ts : List Value) (n1 n2 nt : Nat) (h' : Heap) (tk : Nat), Fr h₀ L h' m → News h₀ L h' ((lr, tupOf [.ref l1, .ref l2]) :: (l1, listOf us1.toArray n1) :: (l2, listOf us2.toArray n2) :: (lt, listOf ts.toArray nt) :: news) →
    (∀ p ∈ news, p.1 < l1) → (∀ p ∈ news, p.1 < l2) → (∀ p ∈ news, p.1 < lr) → lt < l1 → lt < l2 → lt < lr → IntsAre us1 R → IntsAre us2 S → IntsAre ts (List.replicate (j + 3) k) → Q tk (.ref lr) h'
local macro_rules | `(tactic| walk_at "callWith ref") => `(tactic| (k_here; k_dflt (refine' callWith_F ?k1 ?_; (case k1 => exact FnAt.of (by k_asm) (by k_mem)); k_whole)))
set_option maxRecDepth 100000 in
set_option maxHeartbeats 8000000 in
theorem dbl_spec {w : World} {r j : Nat} {k : Int} (u : Nat) (news base : List (Addr × Obj)) {lp la lb lt f : Addr} {vs ws ts : List Value} {na nb nt : Nat} {oc : Value} {od : Option Addr} {fd : FuncData} {sl : Array (Option Value)}
    (hf : (f, (⟨oc, od, .func fd, sl⟩ : Obj)) ∈ news) (hp : (lp, tupOf [.ref la, .ref lb]) ∈ news) (ha : (la, listOf vs.toArray na) ∈ news) (hb : (lb, listOf ws.toArray nb) ∈ news) (hbase : ∀ p ∈ base, p ∈ news) (hoff : OwnOff news [lt]) (hmul : MulOk w f lt k base)
    (hi : IntsAre vs (limbs (2 ^ k.toNat) (fib r))) (hj : IntsAre ws (limbs (2 ^ k.toNat) (fib (r + 1)))) (ht : IntsAre ts (List.replicate j k)) (h3 : 3 ≤ k) (h9 : k ≤ 9) (hm : r ≤ 150) (hj9 : j ≤ 90) :
    Con w 88 [.ref lp, .int k u, .ref f] 4 ((lt, listOf ts.toArray nt) :: news) (RetDbl lt j k news (limbs (2 ^ k.toNat) (fib (2 * r))) (limbs (2 ^ k.toNat) (fib (2 * r + 1)))) := by
  unfold RetDbl
  unfold Con
  k_fill
  w_top off
  k_with_none
  intro loose mean mg mb dp un gd cn cs a ccd cl outer A₀ base h₀ L m s Q E B F X N' T hk hdp hu hret
  refine wpAny_call ?_
  replace N' := news_front (news_front (news_front (news_front N' (List.mem_cons_of_mem _ hf)) (List.mem_cons_of_mem _ (List.mem_cons_of_mem _ hb))) (List.mem_cons_of_mem _ (List.mem_cons_of_mem _ (List.mem_cons_of_mem _ ha)))) (List.mem_cons_of_mem _ (List.mem_cons_of_mem _ (List.mem_cons_of_mem _ (List.mem_cons_of_mem _ hp))))
  k_dflt ktr_enter
  have kMark := kstMark
  repeat' (first | (fail_if_success (with_reducible show wpAny _ _ (PySem.call (Value.ref _) _ _) _ _ _)); (fail_if_success (with_reducible show InvPostN _ _ _ _ _ _ _ _ _)); (fail_if_success (with_reducible show KswPost _ _ _ _ _ _ _ _ _ _ _ _ _ _)); first | (k_unfold; (try dsimp only)) | (k_end; wrow_close) | walk1 | (dsimp only; walk1) | (leave1; walk_say "STEP leave1"; try dsimp only) | fail "no step")
  have hoffR : OwnOff ((lp, tupOf [.ref la, .ref lb]) :: (la, listOf vs.toArray na) :: (lb, listOf ws.toArray nb) :: (f, (⟨oc, od, .func fd, sl⟩ : Obj)) :: news) [lt] := ownOff_cons (hoff _ hp lt (List.mem_singleton.mpr rfl)) (ownOff_cons (hoff _ ha lt (List.mem_singleton.mpr rfl)) (ownOff_cons (hoff _ hb lt (List.mem_singleton.mpr rfl)) (ownOff_cons (hoff _ hf lt (List.mem_singleton.mpr rfl)) hoff)))
  have hT : Fits (fib (r + 1) + fib (r + 1)) := Fits.le (fib_fits (m := r + 3) (by omega)) fib_two_le
  have hS : Fits (fib (r + 1) + fib (r + 1) - fib r) := Fits.le hT (Nat.sub_le _ _)
  (rename News _ _ _ _ => Nc); k_dflt (refine' Con.use (shift_spec _ _ _ ?ma1 hj rfl h3 h9 (limbs_len h3 (fib_fits (by omega))) (limbs_dig h3 h9)) ?kB1 ?kF1 ?kX1 Nc ?kT1 ?kK1 ?kd1 ?ku1 ?kR1); (case kB1 => k_asm); (case kF1 => k_asm); (case kX1 => k_asm); (case kT1 => k_asm); (case kK1 => first | exact rfl | assumption); (case kd1 => ktr_room); (case ku1 => ktr_units)
  case ma1 => k_mem
  unfold RetL
  intro l1 us1 nn1 h1 tk1 F1 N1 ltd1 hI1
  (try dsimp only)
  (try k_fold)
  repeat' (first | (fail_if_success (with_reducible show wpAny _ _ (PySem.call (Value.ref _) _ _) _ _ _)); (fail_if_success (with_reducible show InvPostN _ _ _ _ _ _ _ _ _)); (fail_if_success (with_reducible show KswPost _ _ _ _ _ _ _ _ _ _ _ _ _ _)); first | (k_unfold; (try dsimp only)) | (k_end; wrow_close) | walk1 | (dsimp only; walk1) | (leave1; walk_say "STEP leave1"; try dsimp only) | fail "no step")
  (rename News _ _ _ _ => Nc); k_dflt (refine' Con.use (sub_spec _ _ ?ma2 ?mb2 hI1 hi rfl rfl h3 h9 (limbs_len h3 hT) (limbs_len h3 (fib_fits (by omega))) fib_le2 (limbs_dig h3 h9) (limbs_dig h3 h9)) ?kB2 ?kF2 ?kX2 Nc ?kT2 ?kK2 ?kd2 ?ku2 ?kR2); (case kB2 => k_asm); (case kF2 => k_asm); (case kX2 => k_asm); (case kT2 => k_asm); (case kK2 => first | exact rfl | assumption); (case kd2 => ktr_room); (case ku2 => ktr_units)
  case ma2 => k_mem
  case mb2 => k_mem
  unfold RetL
  intro l2 us2 nn2 h2 tk2 F2 N2 ltd2 hI2
  (try dsimp only)
  (try k_fold)
  repeat' (first | (fail_if_success (with_reducible show wpAny _ _ (PySem.call (Value.ref _) _ _) _ _ _)); (fail_if_success (with_reducible show InvPostN _ _ _ _ _ _ _ _ _)); (fail_if_success (with_reducible show KswPost _ _ _ _ _ _ _ _ _ _ _ _ _ _)); first | (k_unfold; (try dsimp only)) | (k_end; wrow_close) | walk1 | (dsimp only; walk1) | (leave1; walk_say "STEP leave1"; try dsimp only) | fail "no step")
  rename News _ _ _ _ => N2
  replace N2 : News _ _ _ ((lt, listOf ts.toArray nt) :: (l2, listOf us2.toArray nn2) :: (lp, tupOf [.ref la, .ref lb]) :: (la, listOf vs.toArray na) :: (lb, listOf ws.toArray nb) :: (f, (⟨oc, od, .func fd, sl⟩ : Obj)) :: news) := news_perm N2 (by intro p hp; simp only [List.mem_cons] at hp ⊢; rcases hp with h | h | h | h | h | h | h <;> simp [h])
  have o2 : l2 ≠ lt := Nat.ne_of_gt (ltd2 (lt, listOf ts.toArray nt) (by simp))
  (rename News _ _ _ _ => Nc); k_dflt (refine' Con.use (hmul _ la l2 vs us2 ts na nn2 nt (fib r) (fib (r + 1) + fib (r + 1) - fib r) j _ (by intro p hp; simp [hbase p hp]) (ownOff_cons o2 hoffR) ?ma3 ?mb3 hi hI2 (fib_fits (by omega)) hS (fib_dbl ▸ fib_fits (by omega)) ht (by omega)) ?kB3 ?kF3 ?kX3 Nc ?kT3 ?kK3 ?kd3 ?ku3 ?kR3); (case kB3 => k_asm); (case kF3 => k_asm); (case kX3 => k_asm); (case kT3 => k_asm); (case kK3 => first | exact rfl | assumption); (case kd3 => ktr_room); (case ku3 => ktr_units)
  case ma3 => k_mem
  case mb3 => k_mem
  unfold RetMul
  intro l3 us3 ts1 nn3 nt1 h3' tk3 F3 N3 ltd3 ltt3 hI3 ht1
  rw [fib_dbl] at hI3
  (try dsimp only)
  (try k_fold)
  repeat' (first | (fail_if_success (with_reducible show wpAny _ _ (PySem.call (Value.ref _) _ _) _ _ _)); (fail_if_success (with_reducible show InvPostN _ _ _ _ _ _ _ _ _)); (fail_if_success (with_reducible show KswPost _ _ _ _ _ _ _ _ _ _ _ _ _ _)); first | (k_unfold; (try dsimp only)) | (k_end; wrow_close) | walk1 | (dsimp only; walk1) | (leave1; walk_say "STEP leave1"; try dsimp only) | fail "no step")
  rename News _ _ _ _ => N3
  replace N3 : News _ _ _ ((lt, listOf ts1.toArray nt1) :: (l3, listOf us3.toArray nn3) :: (lp, tupOf [.ref la, .ref lb]) :: (la, listOf vs.toArray na) :: (lb, listOf ws.toArray nb) :: (f, (⟨oc, od, .func fd, sl⟩ : Obj)) :: news) := news_perm N3 (by intro p hp; simp only [List.mem_cons] at hp ⊢; rcases hp with h | h | h | h | h | h | h <;> simp [h])
  (rename News _ _ _ _ => Nc); k_dflt (refine' Con.use (hmul _ la la vs vs ts1 na na nt1 (fib r) (fib r) (j + 1) _ (by intro p hp; simp [hbase p hp]) (ownOff_cons (Nat.ne_of_gt ltt3) hoffR) ?ma4 ?mb4 hi hi (fib_fits (by omega)) (fib_fits (by omega)) (Fits.le (fib_fits (m := 2 * r + 1) (by omega)) (fib_dbl1 ▸ Nat.le_add_right _ _)) ht1 (by omega)) ?kB4 ?kF4 ?kX4 Nc ?kT4 ?kK4 ?kd4 ?ku4 ?kR4); (case kB4 => k_asm); (case kF4 => k_asm); (case kX4 => k_asm); (case kT4 => k_asm); (case kK4 => first | exact rfl | assumption); (case kd4 => ktr_room); (case ku4 => ktr_units)
  case ma4 => k_mem
  case mb4 => k_mem
  unfold RetMul
  intro l4 us4 ts2 nn4 nt2 h4 tk4 F4 N4 ltd4 ltt4 hI4 ht2
  (try dsimp only)
  (try k_fold)
  repeat' (first | (fail_if_success (with_reducible show wpAny _ _ (PySem.call (Value.ref _) _ _) _ _ _)); (fail_if_success (with_reducible show InvPostN _ _ _ _ _ _ _ _ _)); (fail_if_success (with_reducible show KswPost _ _ _ _ _ _ _ _ _ _ _ _ _ _)); first | (k_unfold; (try dsimp only)) | (k_end; wrow_close) | walk1 | (dsimp only; walk1) | (leave1; walk_say "STEP leave1"; try dsimp only) | fail "no step")
  rename News _ _ _ _ => N4
  replace N4 : News _ _ _ ((lt, listOf ts2.toArray nt2) :: (l4, listOf us4.toArray nn4) :: (l3, listOf us3.toArray nn3) :: (lp, tupOf [.ref la, .ref lb]) :: (la, listOf vs.toArray na) :: (lb, listOf ws.toArray nb) :: (f, (⟨oc, od, .func fd, sl⟩ : Obj)) :: news) := news_perm N4 (by intro p hp; simp only [List.mem_cons] at hp ⊢; rcases hp with h | h | h | h | h | h | h | h <;> simp [h])
  (rename News _ _ _ _ => Nc); k_dflt (refine' Con.use (hmul _ lb lb ws ws ts2 nb nb nt2 (fib (r + 1)) (fib (r + 1)) (j + 1 + 1) _ (by intro p hp; simp [hbase p hp]) (ownOff_cons (Nat.ne_of_gt ltt4) (ownOff_cons (Nat.ne_of_gt ltt3) hoffR)) ?ma5 ?mb5 hj hj (fib_fits (by omega)) (fib_fits (by omega)) (Fits.le (fib_fits (m := 2 * r + 1) (by omega)) (fib_dbl1 ▸ Nat.le_add_left _ _)) ht2 (by omega)) ?kB5 ?kF5 ?kX5 Nc ?kT5 ?kK5 ?kd5 ?ku5 ?kR5); (case kB5 => k_asm); (case kF5 => k_asm); (case kX5 => k_asm); (case kT5 => k_asm); (case kK5 => first | exact rfl | assumption); (case kd5 => ktr_room); (case ku5 => ktr_units)
  case ma5 => k_mem
  case mb5 => k_mem
  unfold RetMul
  intro l5 us5 ts3 nn5 nt3 h5 tk5 F5 N5 ltd5 ltt5 hI5 ht3
  (try dsimp only)
  (try k_fold)
  repeat' (first | (fail_if_success (with_reducible show wpAny _ _ (PySem.call (Value.ref _) _ _) _ _ _)); (fail_if_success (with_reducible show InvPostN _ _ _ _ _ _ _ _ _)); (fail_if_success (with_reducible show KswPost _ _ _ _ _ _ _ _ _ _ _ _ _ _)); first | (k_unfold; (try dsimp only)) | (k_end; wrow_close) | walk1 | (dsimp only; walk1) | (leave1; walk_say "STEP leave1"; try dsimp only) | fail "no step")
  have hA : Fits (fib r * fib r) := Fits.le (fib_fits (m := 2 * r + 1) (by omega)) (fib_dbl1 ▸ Nat.le_add_right _ _)
  have hB : Fits (fib (r + 1) * fib (r + 1)) := Fits.le (fib_fits (m := 2 * r + 1) (by omega)) (fib_dbl1 ▸ Nat.le_add_left _ _)
  (rename News _ _ _ _ => Nc); k_dflt (refine' Con.use (add_spec _ _ ?ma6 ?mb6 hI4 hI5 rfl rfl h3 h9 (limbs_len h3 hA) (limbs_len h3 hB) (limbs_dig h3 h9) (limbs_dig h3 h9)) ?kB6 ?kF6 ?kX6 Nc ?kT6 ?kK6 ?kd6 ?ku6 ?kR6); (case kB6 => k_asm); (case kF6 => k_asm); (case kX6 => k_asm); (case kT6 => k_asm); (case kK6 => first | exact rfl | assumption); (case kd6 => ktr_room); (case ku6 => ktr_units)
  case ma6 => k_mem
  case mb6 => k_mem
  unfold RetL
  intro l6 us6 nn6 h6 tk6 F6 N6 ltd6 hI6
  rw [fib_dbl1] at hI6
  (try dsimp only)
  (try k_fold)
  repeat' (first | (fail_if_success (with_reducible show wpAny _ _ (PySem.call (Value.ref _) _ _) _ _ _)); (fail_if_success (with_reducible show InvPostN _ _ _ _ _ _ _ _ _)); (fail_if_success (with_reducible show KswPost _ _ _ _ _ _ _ _ _ _ _ _ _ _)); first | (k_unfold; (try dsimp only)) | (k_end; wrow_close) | walk1 | (dsimp only; walk1) | (leave1; walk_say "STEP leave1"; try dsimp only) | fail "no step")
  rename (l6 < _ ∧ l5 < _ ∧ lt < _ ∧ l4 < _ ∧ _) => hD
  obtain ⟨_, _, hD1, _, _, _, _, _, _, hD2⟩ := hD
  refine hret _ l3 l6 us3 us6 ts3 nn3 nn6 nt3 _ _ (by assumption) (news_perm (by assumption) ?hmem) (fun p hp => ltd3 p (by simp [hp])) (fun p hp => ltd6 p (by simp [hp])) (kst_ltOf hD2) ltt3 (ltd6 (lt, listOf ts3.toArray nt3) (by simp)) hD1 hI3 hI6 ht3
  case hmem =>
    intro p hp
    simp only [List.mem_cons] at hp ⊢
    rcases hp with h | h | h | h | h <;> simp [h]
end Mine

namespace Mine
/-- a pair of new digit lists, and at most 24 more tellings -/
def RetPair (lt : Addr) (j : Nat) (k : Int) (news : List (Addr × Obj)) (R S : List Int) (h₀ : Heap) (L : Addr) (m : Str → Option Value) (Q : Nat → Value → Heap → Prop) : Prop :=
  ∀ (lr l1 l2 : Addr) (us1 us2 ts : List Value) (n1 n2 nt j' : Nat) (h' : Heap) (tk : Nat), Fr h₀ L h' m → News h₀ L h' ((lr, tupOf [.ref l1, .ref l2]) :: (l1, listOf us1.toArray n1) :: (l2, listOf us2.toArray n2) :: (lt, listOf ts.toArray nt) :: news) →
    (∀ p ∈ news, p.1 < l1) → (∀ p ∈ news, p.1 < l2) → (∀ p ∈ news, p.1 < lr) → lt < l1 → lt < l2 → lt < lr → IntsAre us1 R → IntsAre us2 S → IntsAre ts (List.replicate j' k) → j' ≤ j + 24 → Q tk (.ref lr) h'
theorem news_names4 {h₀ h : Heap} {L a b c d : Addr} {oa ob oc od : Obj} {n : List (Addr × Obj)} (_N : News h₀ L h ((a, oa) :: (b, ob) :: (c, oc) :: (d, od) :: n)) : ∃ b' c' d', b' = b ∧ c' = c ∧ d' = d := ⟨_, _, _, rfl, rfl, rfl⟩
theorem news_pick {h₀ h : Heap} {L : Addr} {a b c d e g : Addr × Obj} {n : List (Addr × Obj)} (N : News h₀ L h (a :: b :: c :: d :: e :: g :: n)) : News h₀ L h (b :: d :: c :: g :: e :: n) := news_perm N (by
  intro p hp
  simp only [List.mem_cons] at hp ⊢
  rcases hp with h | h | h | h | h | h <;> simp [h])
structure PS where
  pl : Int
  t : Nat
  lr : Addr
  l1 : Addr
  l2 : Addr
  us1 : List Value
  us2 : List Value
  ts : List Value
  n1 : Nat
  n2 : Nat
  nt : Nat
  j : Nat
structure PFacts (k : Int) (r : Nat) (c : PS) : Prop where
  a : IntsAre c.us1 (limbs (2 ^ k.toNat) (fib (r / 2 ^ (c.pl + 1).toNat)))
  b : IntsAre c.us2 (limbs (2 ^ k.toNat) (fib (r / 2 ^ (c.pl + 1).toNat + 1)))
  c : IntsAre c.ts (List.replicate c.j k)
structure PP (lt : Addr) (j : Nat) (news : List (Addr × Obj)) (c : PS) : Prop where
  h0 : -1 ≤ c.pl
  h1 : c.pl ≤ 7
  hj : c.j + 3 * (c.pl + 1).toNat ≤ j + 24
  o1 : lt < c.l1
  o2 : lt < c.l2
  o3 : lt < c.lr
  q1 : ∀ p ∈ news, p.1 < c.l1
  q2 : ∀ p ∈ news, p.1 < c.l2
  q3 : ∀ p ∈ news, p.1 < c.lr
theorem limbs_one {k : Int} (h3 : 3 ≤ k) : limbs (2 ^ k.toNat) 1 = [1] := by
  have hb := two_le_b h3
  rw [limbs_pos hb (by decide), Nat.mod_eq_of_lt (by omega), Nat.div_eq_of_lt (by omega), limbs_zero]
  rfl
theorem half_step {r : Nat} {pl : Int} (h : 0 ≤ pl) : r / 2 ^ (pl + 1).toNat = r / 2 ^ pl.toNat / 2 := by
  have e : (pl + 1).toNat = pl.toNat + 1 := by omega
  rw [e, div_step']
theorem bit_of {r : Nat} {pl : Int} : Builtin.bitAnd ((r : Int).fdiv (2 ^ pl.toNat)) 1 = ((r / 2 ^ pl.toNat % 2 : Nat) : Int) := by
  have h := kbt_mask ((r : Int).fdiv (2 ^ pl.toNat)) 1
  have e2 : ((2 : Int) ^ 1 - 1) = 1 := by decide
  have e3 : ((2 : Int) ^ 1) = 2 := by decide
  rw [e2, e3] at h
  rw [h, fdiv_b, ← Int.natCast_ediv]
  omega
theorem bits_small {r : Nat} (hr : r ≤ 150) : Builtin.Int.intBits (r : Int) ≤ 8 := by
  rw [intBits_le_iff]
  omega
theorem bits_lt {r : Nat} : r / 2 ^ Builtin.Int.intBits (r : Int) = 0 := by
  have h := intBits_le_iff.mp (Nat.le_refl (Builtin.Int.intBits (r : Int)))
  exact Nat.div_eq_of_lt (by simpa using h)
local macro_rules | `(tactic| walk_at "callWith ref") => `(tactic| (k_here; k_dflt (refine' callWith_F ?k1 ?_; (case k1 => exact FnAt.of (by k_asm) (by k_mem)); k_whole)))
set_option maxRecDepth 100000 in
set_option maxHeartbeats 8000000 in
theorem pair_spec {w : World} {r j : Nat} {k : Int} (t u : Nat) (news base' : List (Addr × Obj)) {lt f : Addr} {ts : List Value} {nt : Nat} {oc : Value} {od : Option Addr} {fd : FuncData} {sl : Array (Option Value)}
    (hf : (f, (⟨oc, od, .func fd, sl⟩ : Obj)) ∈ news) (hbase : ∀ p ∈ base', p ∈ news) (hoff : OwnOff news [lt]) (hmul : MulOk w f lt k base')
    (ht : IntsAre ts (List.replicate j k)) (h3 : 3 ≤ k) (h9 : k ≤ 9) (hr : r ≤ 150) (hj9 : j ≤ 60) :
    Con w 95 [.int (r : Int) t, .int k u, .ref f] 5 ((lt, listOf ts.toArray nt) :: news) (RetPair lt j k news (limbs (2 ^ k.toNat) (fib r)) (limbs (2 ^ k.toNat) (fib (r + 1)))) := by
  unfold RetPair
  unfold Con
  k_fill
  w_top off
  k_with_none
  intro loose mean mg mb dp un gd cn cs a ccd cl outer A₀ base h₀ L m s Q E B F X N' T hk hdp hu hret
  refine wpAny_call ?_
  replace N' := news_front N' (List.mem_cons_of_mem _ hf)
  k_dflt ktr_enter
  have kMark := kstMark
  repeat' (first | (fail_if_success (with_reducible show wpAny _ _ (PySem.call (Value.ref _) _ _) _ _ _)); (fail_if_success (with_reducible show InvPostN _ _ _ _ _ _ _ _ _)); (fail_if_success (with_reducible show KswPost _ _ _ _ _ _ _ _ _ _ _ _ _ _)); first | (k_unfold; (try dsimp only)) | (k_end; wrow_close) | walk1 | (dsimp only; walk1) | (leave1; walk_say "STEP leave1"; try dsimp only) | fail "no step")
  refine wpAny_call ?_
  k_dflt (refine' code_def ?k1 ?k2 ?k3 ?k4 ?k5 ?kA ?kF ?kK ?k6 ?k7 ?k8 ?k9 ?kB ?_ ?c2 ?c3 ?c4 ?c5; (case kA => exact rfl); (case kF => exact rfl); (case kK => first | exact rfl | assumption); (case k1 => k_asm); (case k2 => k_asm); (case k3 => k_asm); (case k4 => k_asm); (case k5 => k_asm); (case k6 => k_is); (case k7 => k_is); (case k8 => ktr_room); (case k9 => exact BindsTo.of_eq rfl); (case c5 => decide); (case kB => exact locs rfl); (case c2 => exact rfl); (case c3 => exact rfl); (case c4 => exact rfl); k_whole; intro g' L' h' FG' F' N' B' X' T'; (try dsimp only); (try k_fold))
  repeat' (first | (fail_if_success (with_reducible show wpAny _ _ (PySem.exec (Stmt.While _ _ _ _) _) _ _ _)); (fail_if_success (with_reducible show InvPostN _ _ _ _ _ _ _ _ _)); (fail_if_success (with_reducible show KswPost _ _ _ _ _ _ _ _ _ _ _ _ _ _)); first | (k_unfold; (try dsimp only)) | (k_end; wrow_close) | walk1 | (dsimp only; walk1) | (leave1; walk_say "STEP leave1"; try dsimp only) | fail "no step")
  rename Fr _ _ _ _ => F1
  rename News _ _ _ _ => N1
  obtain ⟨p1, a2, a1, e1, e2, e3⟩ := news_names4 N1
  subst e1 e2 e3
  have hbits := bits_small hr
  have hbits2 := bits_lt (r := r)
  replace N1 := news_pick N1
  rename (a2 < p1 ∧ _) => q1
  obtain ⟨_, _, _, q1b, q1c⟩ := q1
  rename (a1 < a2 ∧ _) => q2
  obtain ⟨_, _, q2b, q2c⟩ := q2
  rename (f < a1 ∧ _) => q3
  obtain ⟨_, q3b, q3c⟩ := q3
  refine' ksw_while (σ := PS) (fun c => (c.lr, tupOf [.ref c.l1, .ref c.l2]) :: (c.l1, listOf c.us1.toArray c.n1) :: (c.l2, listOf c.us2.toArray c.n2) :: (lt, listOf c.ts.toArray c.nt) :: (f, (⟨oc, od, .func fd, sl⟩ : Obj)) :: news)
    (fun c => [(Str.ofString "at", .int c.pl c.t), (Str.ofString "pair", .ref c.lr)]) (PFacts k r) [] (PP lt j news) (fun c => (c.pl + 1).toNat)
    ⟨((Builtin.Int.intBits (r : Int) : Nat) : Int) - 1, _, p1, a1, a2, [], [_], ts, _, _, nt, j⟩ F1 N1 ?hf ?hk ?hp ?turn ?hE
  case hE => with_unfolding_all passes_own
  case hk => exact List.forall_mem_cons.mpr ⟨by with_unfolding_all rfl, List.forall_mem_cons.mpr ⟨by with_unfolding_all rfl, List.forall_mem_nil _⟩⟩
  case hf =>
    have e : ((Builtin.Int.intBits (r : Int) : Nat) : Int) - 1 + 1 = ((Builtin.Int.intBits (r : Int) : Nat) : Int) := by omega
    refine ⟨?_, ?_, ht⟩
    · dsimp only
      rw [e, Int.toNat_natCast, hbits2, fib, limbs_zero]
      exact .nil
    · dsimp only
      rw [e, Int.toNat_natCast, hbits2]
      have e1 : limbs (2 ^ k.toNat) (fib (0 + 1)) = [1] := limbs_one h3
      rw [e1]
      exact .cons _ _ .nil
  case hp => exact ⟨by dsimp only; omega, by dsimp only; omega, by dsimp only; omega, q3b, q2b, q1b, kst_ltOf q3c, kst_ltOf q2c, kst_ltOf q1c⟩
  case turn =>
    rintro ⟨pl, tn, lr, l1, l2, us1, us2, ts1, n1, n2, nt1, j1⟩ kU kH kTk ⟨kA, kB, kC⟩ ⟨g0, g1, gj, o1, o2, o3, q1, q2, q3⟩ kFr kNews
    dsimp only [kstB] at kFr
    dsimp only at kNews kA kB kC g0 g1 gj o1 o2 o3 q1 q2 q3
    have kMark := kstMark
    try dsimp only
    try k_fold
    repeat' (first | (fail_if_success (with_reducible show wpAny _ _ (PySem.call (Value.ref _) _ _) _ _ _)); (fail_if_success (with_reducible show InvPostN _ _ _ _ _ _ _ _ _)); (fail_if_success (with_reducible show KswPost _ _ _ _ _ _ _ _ _ _ _ _ _ _)); first | (k_unfold; (try dsimp only)) | (k_end; wrow_close) | walk1 | (dsimp only; walk1) | (leave1; walk_say "STEP leave1"; try dsimp only) | fail "no step")
    · have em : r / 2 ^ (pl + 1).toNat ≤ 150 := Nat.le_trans (Nat.div_le_self _ _) hr
      rename News _ _ _ _ => N2
      replace N2 : News _ _ _ ((lt, listOf ts1.toArray nt1) :: (lr, tupOf [.ref l1, .ref l2]) :: (l1, listOf us1.toArray n1) :: (l2, listOf us2.toArray n2) :: (f, (⟨oc, od, .func fd, sl⟩ : Obj)) :: news) := news_perm N2 (by intro p hp; simp only [List.mem_cons] at hp ⊢; rcases hp with h | h | h | h | h | h <;> simp [h])
      have hoff2 : OwnOff ((lr, tupOf [.ref l1, .ref l2]) :: (l1, listOf us1.toArray n1) :: (l2, listOf us2.toArray n2) :: (f, (⟨oc, od, .func fd, sl⟩ : Obj)) :: news) [lt] := ownOff_cons (Nat.ne_of_gt o3) (ownOff_cons (Nat.ne_of_gt o1) (ownOff_cons (Nat.ne_of_gt o2) (ownOff_cons (hoff _ hf lt (List.mem_singleton.mpr rfl)) hoff)))
      (rename News _ _ _ _ => Nc); k_dflt (refine' Con.use (dbl_spec (r := r / 2 ^ (pl + 1).toNat) (j := j1) _ _ base' ?ma1 ?mb1 ?mc1 ?md1 (by intro p hp; simp [hbase p hp]) hoff2 hmul kA kB kC h3 h9 em (by omega)) ?kB1 ?kF1 ?kX1 Nc ?kT1 ?kK1 ?kd1 ?ku1 ?kR1); (case kB1 => k_asm); (case kF1 => k_asm); (case kX1 => k_asm); (case kT1 => k_asm); (case kK1 => first | exact rfl | assumption); (case kd1 => ktr_room); (case ku1 => ktr_units)
      case ma1 => k_mem
      case mb1 => k_mem
      case mc1 => k_mem
      case md1 => k_mem
      unfold RetDbl
      intro lr2 l3 l4 us3 us4 ts2 n3 n4 nt2 h2 tk2 F2 N2 hq3 hq4 hqr hl3 hl4 hlr hI3 hI4 ht2
      (try dsimp only)
      (try k_fold)
      repeat' (first | (fail_if_success (with_reducible show wpAny _ _ (PySem.call (Value.ref _) _ _) _ _ _)); (fail_if_success (with_reducible show InvPostN _ _ _ _ _ _ _ _ _)); (fail_if_success (with_reducible show KswPost _ _ _ _ _ _ _ _ _ _ _ _ _ _)); first | (k_unfold; (try dsimp only)) | (k_end; wrow_close) | walk1 | (dsimp only; walk1) | (leave1; walk_say "STEP leave1"; try dsimp only) | fail "no step")
      have hhalf := half_step (r := r) (pl := pl) (by assumption)
      · rename (Builtin.bitAnd _ _ = 1) => hbit
        rw [bit_of] at hbit
        have er : r / 2 ^ pl.toNat = 2 * (r / 2 ^ (pl + 1).toNat) + 1 := by omega
        (rename News _ _ _ _ => Nc); k_dflt (refine' Con.use (add_spec _ _ ?ma2 ?mb2 hI3 hI4 rfl rfl h3 h9 (limbs_len h3 (fib_fits (by omega))) (limbs_len h3 (fib_fits (by omega))) (limbs_dig h3 h9) (limbs_dig h3 h9)) ?kB2 ?kF2 ?kX2 Nc ?kT2 ?kK2 ?kd2 ?ku2 ?kR2); (case kB2 => k_asm); (case kF2 => k_asm); (case kX2 => k_asm); (case kT2 => k_asm); (case kK2 => first | exact rfl | assumption); (case kd2 => ktr_room); (case ku2 => ktr_units)
        case ma2 => k_mem
        case mb2 => k_mem
        unfold RetL
        intro l5 us5 n5 h5 tk5 F5 N5 ltd5 hI5
        (try dsimp only)
        (try k_fold)
        repeat' (first | (fail_if_success (with_reducible show wpAny _ _ (PySem.call (Value.ref _) _ _) _ _ _)); (fail_if_success (with_reducible show InvPostN _ _ _ _ _ _ _ _ _)); (fail_if_success (with_reducible show KswPost _ _ _ _ _ _ _ _ _ _ _ _ _ _)); first | (k_unfold; (try dsimp only)) | (k_end; wrow_close) | walk1 | (dsimp only; walk1) | (leave1; walk_say "STEP leave1"; try dsimp only) | fail "no step")
        rename Fr _ _ _ _ => F6
        rename News _ _ _ _ => N6
        obtain ⟨D, eD⟩ := news_head N6
        subst eD
        rename (l5 < D ∧ _) => hD
        obtain ⟨_, _, _, _, hD1, _, _, _, _, hD2⟩ := hD
        refine ksw_end (c' := (⟨pl - 1, _, D, l4, l5, us4, us5, ts2, n4, n5, nt2, j1 + 3⟩ : PS)) F6 N6 ?em ⟨?ea, ?eb, ht2⟩ (List.forall_mem_cons.mpr ⟨by with_unfolding_all rfl, List.forall_mem_cons.mpr ⟨by with_unfolding_all rfl, List.forall_mem_nil _⟩⟩) (by ksw_same) ?ep ?eq
        case em => exact (by intro p hp; simp only [List.mem_cons] at hp ⊢; rcases hp with h | h | h | h | h | h <;> simp [h])
        case ea =>
          dsimp only
          rw [Int.sub_add_cancel, er]
          exact hI4
        case eb =>
          dsimp only
          rw [Int.sub_add_cancel, er]
          exact hI5
        case ep => exact ⟨by dsimp only; omega, by dsimp only; omega, by dsimp only; omega, hl4, ltd5 (lt, listOf ts2.toArray nt2) (by simp), hD1, fun p hp => hq4 p (by simp [hp]), fun p hp => ltd5 p (by simp [hp]), kst_ltOf hD2⟩
        case eq => dsimp only; omega
      · rename (Builtin.bitAnd _ _ ≠ 1) => hbit
        rw [bit_of] at hbit
        have er : r / 2 ^ pl.toNat = 2 * (r / 2 ^ (pl + 1).toNat) := by
          have := half_step (r := r) (pl := pl) (by assumption)
          omega
        rename Fr _ _ _ _ => F6
        rename News _ _ _ _ => N6
        refine ksw_end (c' := (⟨pl - 1, _, lr2, l3, l4, us3, us4, ts2, n3, n4, nt2, j1 + 3⟩ : PS)) F6 N6 ?em2 ⟨?ea2, ?eb2, ht2⟩ (List.forall_mem_cons.mpr ⟨by with_unfolding_all rfl, List.forall_mem_cons.mpr ⟨by with_unfolding_all rfl, List.forall_mem_nil _⟩⟩) (by ksw_same) ?ep2 ?eq2
        case em2 => exact (by intro p hp; simp only [List.mem_cons] at hp ⊢; rcases hp with h | h | h | h | h | h <;> simp [h])
        case ea2 =>
          dsimp only
          rw [Int.sub_add_cancel, er]
          exact hI3
        case eb2 =>
          dsimp only
          rw [Int.sub_add_cancel, er]
          exact hI4
        case ep2 => exact ⟨by dsimp only; omega, by dsimp only; omega, by dsimp only; omega, hl3, hl4, hlr, fun p hp => hq3 p (by simp [hp]), fun p hp => hq4 p (by simp [hp]), fun p hp => hqr p (by simp [hp])⟩
        case eq2 => dsimp only; omega
    · have e0 : (pl + 1).toNat = 0 := by omega
      rw [e0, Nat.pow_zero, Nat.div_one] at kA kB
      exact hret lr l1 l2 us1 us2 ts1 n1 n2 nt1 j1 _ _ (by assumption) (news_perm (by assumption) (by intro p hp; simp only [List.mem_cons] at hp ⊢; rcases hp with h | h | h | h | h <;> simp [h])) q1 q2 q3 o1 o2 o3 kA kB kC (by omega)
end Mine

namespace Mine
/-- a new digit list, and at most 24 more tellings -/
def RetOne (lt : Addr) (j : Nat) (k : Int) (news : List (Addr × Obj)) (R : List Int) (h₀ : Heap) (L : Addr) (m : Str → Option Value) (Q : Nat → Value → Heap → Prop) : Prop :=
  ∀ (l : Addr) (us ts : List Value) (nn nt j' : Nat) (h' : Heap) (tk : Nat), Fr h₀ L h' m → News h₀ L h' ((l, listOf us.toArray nn) :: (lt, listOf ts.toArray nt) :: news) →
    (∀ p ∈ news, p.1 < l) → lt < l → IntsAre us R → IntsAre ts (List.replicate j' k) → j' ≤ j + 24 → Q tk (.ref l) h'
local macro_rules | `(tactic| walk_at "callWith ref") => `(tactic| (k_here; k_dflt (refine' callWith_F ?k1 ?_; (case k1 => exact FnAt.of (by k_asm) (by k_mem)); k_whole)))
set_option maxRecDepth 100000 in
set_option maxHeartbeats 8000000 in
theorem fib_spec {w : World} {r j : Nat} {k : Int} (t u : Nat) (news base' : List (Addr × Obj)) {lt f : Addr} {ts : List Value} {nt : Nat} {oc : Value} {od : Option Addr} {fd : FuncData} {sl : Array (Option Value)}
    (hf : (f, (⟨oc, od, .func fd, sl⟩ : Obj)) ∈ news) (hbase : ∀ p ∈ base', p ∈ news) (hoff : OwnOff news [lt]) (hmul : MulOk w f lt k base')
    (ht : IntsAre ts (List.replicate j k)) (h3 : 3 ≤ k) (h9 : k ≤ 9) (hr : r ≤ 150) (hj9 : j ≤ 60) :
    Con w 102 [.int (r : Int) t, .int k u, .ref f] 6 ((lt, listOf ts.toArray nt) :: news) (RetOne lt j k news (limbs (2 ^ k.toNat) (fib r))) := by
  unfold RetOne
  unfold Con
  k_fill
  w_top off
  k_with_none
  intro loose mean mg mb dp un gd cn cs a ccd cl outer A₀ base h₀ L m s Q E B F X N' T hk hdp hu hret
  refine wpAny_call ?_
  replace N' := news_front N' (List.mem_cons_of_mem _ hf)
  k_dflt ktr_enter
  have kMark := kstMark
  repeat' (first | (fail_if_success (with_reducible show wpAny _ _ (PySem.call (Value.ref _) _ _) _ _ _)); (fail_if_success (with_reducible show InvPostN _ _ _ _ _ _ _ _ _)); (fail_if_success (with_reducible show KswPost _ _ _ _ _ _ _ _ _ _ _ _ _ _)); first | (k_unfold; (try dsimp only)) | (k_end; wrow_close) | walk1 | (dsimp only; walk1) | (leave1; walk_say "STEP leave1"; try dsimp only) | fail "no step")
  rename News _ _ _ _ => N1
  replace N1 : News _ _ _ ((lt, listOf ts.toArray nt) :: (f, (⟨oc, od, .func fd, sl⟩ : Obj)) :: news) := news_perm N1 (by intro p hp; simp only [List.mem_cons] at hp ⊢; rcases hp with h | h | h <;> simp [h])
  (rename News _ _ _ _ => Nc); k_dflt (refine' Con.use (pair_spec (j := j) _ _ _ base' ?ma1 (fun p hp => List.mem_cons_of_mem _ (hbase p hp)) (ownOff_cons (hoff _ hf lt (List.mem_singleton.mpr rfl)) hoff) hmul ht h3 h9 hr hj9) ?kB1 ?kF1 ?kX1 Nc ?kT1 ?kK1 ?kd1 ?ku1 ?kR1); (case kB1 => k_asm); (case kF1 => k_asm); (case kX1 => k_asm); (case kT1 => k_asm); (case kK1 => first | exact rfl | assumption); (case kd1 => ktr_room); (case ku1 => ktr_units)
  case ma1 => k_mem
  unfold RetPair
  intro lr l1 l2 us1 us2 ts1 n1 n2 nt1 j1 h1 tk1 F1 N1 q1 q2 q3 o1 o2 o3 hI1 hI2 ht1 hj1
  (try dsimp only)
  (try k_fold)
  repeat' (first | (fail_if_success (with_reducible show wpAny _ _ (PySem.call (Value.ref _) _ _) _ _ _)); (fail_if_success (with_reducible show InvPostN _ _ _ _ _ _ _ _ _)); (fail_if_success (with_reducible show KswPost _ _ _ _ _ _ _ _ _ _ _ _ _ _)); first | (k_unfold; (try dsimp only)) | (k_end; wrow_close) | walk1 | (dsimp only; walk1) | (leave1; walk_say "STEP leave1"; try dsimp only) | fail "no step")
  exact hret l1 us1 ts1 n1 nt1 j1 _ _ (by assumption) (news_perm (by assumption) (by intro p hp; simp only [List.mem_cons] at hp ⊢; rcases hp with h | h | h <;> simp [h])) (fun p hp => q1 p (by simp [hp])) o1 hI1 ht1 hj1
set_option maxRecDepth 100000 in
set_option maxHeartbeats 8000000 in
theorem lucas_spec {w : World} {r j : Nat} {k : Int} (t u : Nat) (news base' : List (Addr × Obj)) {lt f : Addr} {ts : List Value} {nt : Nat} {oc : Value} {od : Option Addr} {fd : FuncData} {sl : Array (Option Value)}
    (hf : (f, (⟨oc, od, .func fd, sl⟩ : Obj)) ∈ news) (hbase : ∀ p ∈ base', p ∈ news) (hoff : OwnOff news [lt]) (hmul : MulOk w f lt k base')
    (ht : IntsAre ts (List.replicate j k)) (h3 : 3 ≤ k) (h9 : k ≤ 9) (hr : r ≤ 150) (hj9 : j ≤ 60) :
    Con w 109 [.int (r : Int) t, .int k u, .ref f] 6 ((lt, listOf ts.toArray nt) :: news) (RetOne lt j k news (limbs (2 ^ k.toNat) (fib (r + 1) + fib (r + 1) - fib r))) := by
  unfold RetOne
  unfold Con
  k_fill
  w_top off
  k_with_none
  intro loose mean mg mb dp un gd cn cs a ccd cl outer A₀ base h₀ L m s Q E B F X N' T hk hdp hu hret
  refine wpAny_call ?_
  replace N' := news_front N' (List.mem_cons_of_mem _ hf)
  k_dflt ktr_enter
  have kMark := kstMark
  repeat' (first | (fail_if_success (with_reducible show wpAny _ _ (PySem.call (Value.ref _) _ _) _ _ _)); (fail_if_success (with_reducible show InvPostN _ _ _ _ _ _ _ _ _)); (fail_if_success (with_reducible show KswPost _ _ _ _ _ _ _ _ _ _ _ _ _ _)); first | (k_unfold; (try dsimp only)) | (k_end; wrow_close) | walk1 | (dsimp only; walk1) | (leave1; walk_say "STEP leave1"; try dsimp only) | fail "no step")
  rename News _ _ _ _ => N1
  replace N1 : News _ _ _ ((lt, listOf ts.toArray nt) :: (f, (⟨oc, od, .func fd, sl⟩ : Obj)) :: news) := news_perm N1 (by intro p hp; simp only [List.mem_cons] at hp ⊢; rcases hp with h | h | h <;> simp [h])
  (rename News _ _ _ _ => Nc); k_dflt (refine' Con.use (pair_spec (j := j) _ _ _ base' ?ma1 (fun p hp => List.mem_cons_of_mem _ (hbase p hp)) (ownOff_cons (hoff _ hf lt (List.mem_singleton.mpr rfl)) hoff) hmul ht h3 h9 hr hj9) ?kB2 ?kF2 ?kX2 Nc ?kT2 ?kK2 ?kd2 ?ku2 ?kR2); (case kB2 => k_asm); (case kF2 => k_asm); (case kX2 => k_asm); (case kT2 => k_asm); (case kK2 => first | exact rfl | assumption); (case kd2 => ktr_room); (case ku2 => ktr_units)
  case ma1 => k_mem
  unfold RetPair
  intro lr l1 l2 us1 us2 ts1 n1 n2 nt1 j1 h1 tk1 F1 N1 q1 q2 q3 o1 o2 o3 hI1 hI2 ht1 hj1
  (try dsimp only)
  (try k_fold)
  repeat' (first | (fail_if_success (with_reducible show wpAny _ _ (PySem.call (Value.ref _) _ _) _ _ _)); (fail_if_success (with_reducible show InvPostN _ _ _ _ _ _ _ _ _)); (fail_if_success (with_reducible show KswPost _ _ _ _ _ _ _ _ _ _ _ _ _ _)); first | (k_unfold; (try dsimp only)) | (k_end; wrow_close) | walk1 | (dsimp only; walk1) | (leave1; walk_say "STEP leave1"; try dsimp only) | fail "no step")
  have hT : Fits (fib (r + 1) + fib (r + 1)) := Fits.le (fib_fits (m := r + 3) (by omega)) fib_two_le
  (rename News _ _ _ _ => Nc); k_dflt (refine' Con.use (shift_spec _ _ _ ?ma2 hI2 rfl h3 h9 (limbs_len h3 (fib_fits (by omega))) (limbs_dig h3 h9)) ?kB3 ?kF3 ?kX3 Nc ?kT3 ?kK3 ?kd3 ?ku3 ?kR3); (case kB3 => k_asm); (case kF3 => k_asm); (case kX3 => k_asm); (case kT3 => k_asm); (case kK3 => first | exact rfl | assumption); (case kd3 => ktr_room); (case ku3 => ktr_units)
  case ma2 => k_mem
  unfold RetL
  intro l3 us3 nn3 h3' tk3 F3 N3 ltd3 hI3
  (try dsimp only)
  (try k_fold)
  repeat' (first | (fail_if_success (with_reducible show wpAny _ _ (PySem.call (Value.ref _) _ _) _ _ _)); (fail_if_success (with_reducible show InvPostN _ _ _ _ _ _ _ _ _)); (fail_if_success (with_reducible show KswPost _ _ _ _ _ _ _ _ _ _ _ _ _ _)); first | (k_unfold; (try dsimp only)) | (k_end; wrow_close) | walk1 | (dsimp only; walk1) | (leave1; walk_say "STEP leave1"; try dsimp only) | fail "no step")
  (rename News _ _ _ _ => Nc); k_dflt (refine' Con.use (sub_spec _ _ ?ma3 ?mb3 hI3 hI1 rfl rfl h3 h9 (limbs_len h3 hT) (limbs_len h3 (fib_fits (by omega))) fib_le2 (limbs_dig h3 h9) (limbs_dig h3 h9)) ?kB4 ?kF4 ?kX4 Nc ?kT4 ?kK4 ?kd4 ?ku4 ?kR4); (case kB4 => k_asm); (case kF4 => k_asm); (case kX4 => k_asm); (case kT4 => k_asm); (case kK4 => first | exact rfl | assumption); (case kd4 => ktr_room); (case ku4 => ktr_units)
  case ma3 => k_mem
  case mb3 => k_mem
  unfold RetL
  intro l4 us4 nn4 h4' tk4 F4 N4 ltd4 hI4
  (try dsimp only)
  (try k_fold)
  repeat' (first | (fail_if_success (with_reducible show wpAny _ _ (PySem.call (Value.ref _) _ _) _ _ _)); (fail_if_success (with_reducible show InvPostN _ _ _ _ _ _ _ _ _)); (fail_if_success (with_reducible show KswPost _ _ _ _ _ _ _ _ _ _ _ _ _ _)); first | (k_unfold; (try dsimp only)) | (k_end; wrow_close) | walk1 | (dsimp only; walk1) | (leave1; walk_say "STEP leave1"; try dsimp only) | fail "no step")
  exact hret l4 us4 ts1 nn4 nt1 j1 _ _ (by assumption) (news_perm (by assumption) (by intro p hp; simp only [List.mem_cons] at hp ⊢; rcases hp with h | h | h <;> simp [h])) (fun p hp => ltd4 p (by simp [hp])) (ltd4 (lt, listOf ts1.toArray nt1) (by simp)) hI4 ht1 hj1
end Mine

namespace Mine
/-- the test says no and changes nothing -/
def SaysNo (s : Shared) (h : Heap) (ok : Bool) (s' : Shared) : Prop := ok = false ∧ ∃ tk', s' = { s with heap := h, toks := tk' }
theorem rest_none {prog : Program} {w : World} {A : Around} {h₀ : Heap} {L : Addr} {m : Str → Option Value} {env : Env} {ct elt : Expr} {x : Str} {scope : Scope} {cl : List (Str × Addr)} {s : Shared} {S : List (Addr × Obj) → Prop} {P : Nat → Value → Prop}
    {Fin : List Value → List (Addr × Obj) → Prop} {news : List (Addr × Obj)} (hS : S news) (fin : Fin [] news)
    (ht : ∀ i v I oI C oC D m₂ h tk (E' : Value → Shared → Prop), P i v → LCg.NsObj oC m₂ → m₂ x = some v → Fr h₀ L h m → News h₀ L h ((I, oI) :: (C, oC) :: (D, LCg.lst []) :: news) →
      wpAny (model prog w) A (PySem.isTrue ct (compEnvC scope cl C env) (eval ct (compEnvC scope cl C env))) (SaysNo s h) E' { s with heap := h, toks := tk }) :
    ∀ k i, LCt.CompRestT prog w A h₀ L m env ct elt x scope cl s S P Fin k i [] news
  | 0, i => LCt.CompRestT.zero fin
  | k + 1, i => LCt.CompRestT.succ fun v I oI C oC D m₂ h tk E' hP hC hx F N off ne => by
    refine wpAny_mono (ht i v I oI C oC D m₂ h tk E' hP hC hx F N) (fun ok s' hs => ?_) fun _ _ e => e
    obtain ⟨rfl, tk', rfl⟩ := hs
    simp only [Bool.false_eq_true, if_false]
    exact ⟨h, tk', news, rfl, F, N, off, hS, rest_none hS fin ht k (i + 1)⟩
end Mine

namespace Mine
section
variable {prog : Program} {w : World} {A₀ A : Around} {s : Shared} {base h₀ : Heap} {L a : Addr} {m : Str → Option Value} {news : List (Addr × Obj)} {K : Frag} {p : Program} {loose : List Str} {mean : ExcName → Option Value} {mg mb : Str → Option Value}
/-- a def called from the law's own frame, in which an exception may be caught -/
theorem code_defT {env : Env} {R : Result → Shared → Prop} {name qual : Str} {params : Arguments} {body : List Stmt} {scope : Scope} {dV kV doc pm cdv ct oc : Value} {an od : Option Addr} {osl : Array (Option Value)} {f : Addr} {args : Args} {binds : List (Str × Value)}
    (B : Below A₀ base [] h₀) (F : Fr h₀ L s.heap m) (X₀ : K.In h₀) (N : News h₀ L s.heap news) (T : Top p loose mean mg mb h₀) (hA : A.frames = some [env]) (hf : env.frame = some L) (hke : env.scope.kind = .function)
    (ho : K.lookup f = some ⟨oc, od, .func (fnOf name qual params body scope dV kV doc pm an cdv ct), osl⟩) (hcd : codeIn K cdv qual = true) (hroom : A.depth < recursionLimit)
    (hbind : BindsTo s (fnOf name qual params body scope dV kV doc pm an cdv ct) args binds) (hloc : ∀ y ∈ binds, scope.names.lookup y.1 = some .local)
    (h : ∀ g L' h₁, Fr h₀ L g m → Fr g L' h₁ (fun y => binds.reverse.lookup y) → News g L' h₁ news → Below A base [env] g → K.In g → Top p loose mean mg mb g → KtsDicts ([env].filterMap (·.frame)) g →
      wpAny (model prog w) (A.deeper (envOf qual scope L' f cdv)) (execs body (envOf qual scope L' f cdv))
        (fun fl s' => LeaveS0 ([env].filterMap (·.frame)) h₀ L m g R (match fl with | .ret v => v | _ => .none) s')
        (fun e s' => wpAny (model prog w) (A.deeper (envOf qual scope L' f cdv)) (leaving (envOf qual scope L' f cdv) e) (fun _ s'' => R (.error e) s'') (fun e' s'' => R (.error e') s'') s')
        { s with heap := h₁, toks := s.toks + binds.length })
    (hco : scope.isCoroutine = false) (hgen : scope.isGenerator = false) (hk : scope.kind = .function)
    (hcell : ∀ x ∈ scope.names, x.2 ≠ .cell) : codeAny (model prog w) A (.call (.ref f) args) R s := by
  have X := X₀.keeps F.keep
  obtain ⟨FG, BG, st, _⟩ := groundX (R := R) B F N hA hf hke
  obtain ⟨oL, es, ep, hL, hLd, hLk, hLf⟩ := F.ns
  have nL : L ∉ news.map (·.1) := fun q => by
    obtain ⟨p, hp, e⟩ := List.mem_map.mp q
    exact (N p hp).2.1 e
  have hLg := hideAll_get (news.map (·.1)) hL nL
  have hfr : ∀ b, b ∈ [env].filterMap (·.frame) → b = L := fun b hb => by simpa [hf] using hb
  refine codeAny_call_def (fd := fnOf name qual params body scope dV kV doc pm an cdv ct) (body := body) (binds := binds) hroom (X _ _ ho) rfl (T.nolimit.keeps F.keep) (codeRec_of X hcd) rfl hbind hcell hloc (fun h₁ hns hk₁ => ?_) hco hgen hk
  refine wpAny_mono (h _ s.heap.objs.size h₁ FG ⟨hns, fun b o e => hk₁ b o (of_hideAll _ e), Nat.le_of_eq (hideAll_size _ _)⟩
    (fun p hp => ⟨hk₁ _ _ (N p hp).1, Nat.ne_of_lt (Heap.lt_size (N p hp).1), hideAll_none _ (List.mem_map_of_mem hp)⟩) BG (X₀.keeps st) (T.keeps st) (fun b hb => by
      rw [hfr b hb]
      exact ⟨oL, es, ep, hLg, hLd⟩)) (fun fl s' hl => ?_) fun _ _ y => y
  obtain ⟨g', L', m', news', T', F', N', k⟩ := hl
  have nL₀ : h₀.get? L = none := kts_self F
  obtain ⟨sl, hs⟩ := T'.up hLg
  refine k ⟨⟨_, es, ep, F'.keep _ _ hs, hLd, hLk, hLf⟩, fun b o e => F'.keep b o (T'.other b o (st b o e) (fun q => by
    rw [hfr b q, nL₀] at e
    cases e)), F.above⟩ fun p hp => ⟨(N' p hp).1, fun q => ?_, ?_⟩
  · have := (N' p hp).2.2; rw [q, hs] at this; cases this
  · cases q : h₀.get? p.1 with
    | none => rfl
    | some o =>
      obtain ⟨sl', hs'⟩ := T'.up (st _ _ q)
      have := (N' p hp).2.2
      rw [hs'] at this
      cases this
end
end Mine

namespace Mine
theorem news_names7 {h₀ h : Heap} {L a b c d e f g : Addr} {oa ob oc od oe of og : Obj} (_N : News h₀ L h [(a, oa), (b, ob), (c, oc), (d, od), (e, oe), (f, of), (g, og)]) : ∃ a' c', a' = a ∧ c' = c := ⟨_, _, rfl, rfl⟩
theorem news_drop7 {h₀ h : Heap} {L : Addr} {a b c d e f g : Addr × Obj} (N : News h₀ L h [a, b, c, d, e, f, g]) : News h₀ L h [a, c, f, g] := fun p hp => N p (by
  simp only [List.mem_cons, List.not_mem_nil, or_false] at hp ⊢
  rcases hp with h | h | h | h <;> simp [h])
theorem added_spec' {w : World} {n : Nat} {x : Int} (u : Nat) (news : List (Addr × Obj)) (e : x = (n : Int)) (hn : n ≤ 400) : Con w 147 [.int x u] 1 news (RetL news (fibs (n + 3))) := e ▸ added_spec u news hn
theorem ownOff2 {a b l : Nat} {oa ob : Obj} (h1 : a ≠ l) (h2 : b ≠ l) : OwnOff [(a, oa), (b, ob)] [l] := by
  intro p hp q hq
  rcases List.mem_singleton.mp hq with rfl
  simp only [List.mem_cons, List.not_mem_nil, or_false] at hp
  rcases hp with rfl | rfl <;> assumption
theorem news_names12 {h₀ h : Heap} {L a b c d e f g i : Addr} {oa ob oc od oe of og oi : Obj} {n : List (Addr × Obj)} (_N : News h₀ L h ((a, oa) :: (b, ob) :: (c, oc) :: (d, od) :: (e, oe) :: (f, of) :: (g, og) :: (i, oi) :: n)) : ∃ b' i', b' = b ∧ i' = i := ⟨_, _, rfl, rfl⟩
theorem cut_mul {w : World} {h₀ h : Heap} {L lt : Addr} {k : Int} {D f c t v : Addr × Obj} {rest : List (Addr × Obj)} {G : Prop} (_N : News h₀ L h (D :: f :: c :: t :: v :: rest)) (H : MulOk w f.1 lt k [f, c, t, v]) (K : MulOk w f.1 lt k [f, c, t, v] → G) : G := K H
theorem row_spec' {w : World} {N : Nat} {x k : Int} (t u : Nat) (news : List (Addr × Obj)) (e : x = (N : Int)) (h3 : 3 ≤ k) (h9 : k ≤ 9) (hN : Fits N) :
    Con w 128 [.int x t, .int k u] 1 news (RetL news (limbs (2 ^ k.toNat) N)) := e ▸ row_spec t u news h3 h9 hN
theorem news_mul {h₀ h : Heap} {L : Addr} {a f c t v x y z : Addr × Obj} {n : List (Addr × Obj)} (N : News h₀ L h (a :: f :: c :: t :: v :: x :: y :: z :: n)) : News h₀ L h (a :: z :: n) := news_perm N (by
  intro p hp
  simp only [List.mem_cons] at hp ⊢
  rcases hp with h | h | h <;> simp [h])
theorem news_keep {h₀ h : Heap} {L : Addr} {a b c d e f g i j k l m : Addr × Obj} (N : News h₀ L h [a, b, c, d, e, f, g, i, j, k, l, m]) : News h₀ L h [i, b, c, d, e, f, l, m] := news_perm N (by
  intro p hp
  simp only [List.mem_cons, List.not_mem_nil, or_false] at hp ⊢
  rcases hp with h | h | h | h | h | h | h | h <;> simp [h])
theorem mem4 {b c d e f g i : Addr × Obj} : ∀ p ∈ [b, c, d, e], p ∈ [b, c, d, e, f, g, i] := by
  intro p hp
  simp only [List.mem_cons, List.not_mem_nil, or_false] at hp ⊢
  rcases hp with h | h | h | h <;> simp [h]
theorem ownOff_nil {l : Addr} : OwnOff [] [l] := fun p hp => nomatch hp
theorem news_drop6 {h₀ h : Heap} {L : Addr} {a b c d e f : Addr × Obj} {n : List (Addr × Obj)} (N : News h₀ L h (a :: b :: c :: d :: e :: f :: n)) : News h₀ L h n := fun p hp => N p (by simp [hp])
theorem fibs_get1 {j n : Nat} (h : n + 1 < j) : (fibs j).getD ((n : Int) + 1).toNat 0 = ((fib (n + 1) : Nat) : Int) := by
  have e : ((n : Int) + 1).toNat = n + 1 := by omega
  rw [e]
  exact fibs_getD h
theorem reads_ints {h₀ h : Heap} {L a : Addr} {news : List (Addr × Obj)} {v : List Value} {k : Nat} {R : List Int} (N : News h₀ L h news) (m : (a, listOf v.toArray k) ∈ news) (i : IntsAre v R) : ∃ as, Reads h (.ref a) (.list (R.map PyData.int)) as :=
  ⟨_, reads_newData ⟨_, N.get m, rfl, _, rfl⟩ (ke_carried i)⟩
theorem shaped_pair (R S : List Int) : SeqAt.shaped (.tuple [.list (R.map PyData.int), .list (S.map PyData.int)]) = true := by
  simp [SeqAt.shaped, PyData.canLay0, PyData.canLayAll0, PyData.depth, PyData.depthAll, ke_canLayAll0, ke_depthAll]
theorem eqv_pair (R S : List Int) : PyData.eqv (.tuple [.list (R.map PyData.int), .list (S.map PyData.int)]) (.tuple [.list (R.map PyData.int), .list (S.map PyData.int)]) = true := by
  simp [PyData.eqv, PyData.eqvAll, ked_eqvAll]
theorem ne_pair {prog : Program} {w : World} {A : Around} {E : Value → Shared → Prop} {s : Shared} {h₀ : Heap} {L a b x1 x2 x3 x4 : Addr} {news : List (Addr × Obj)} {v1 v2 v3 v4 : List Value} {k1 k2 k3 k4 : Nat} {R S : List Int} {Q : Value → Shared → Prop}
    (N : News h₀ L s.heap news) (ma : (a, tupOf [.ref x1, .ref x2]) ∈ news) (mb : (b, tupOf [.ref x3, .ref x4]) ∈ news) (m1 : (x1, listOf v1.toArray k1) ∈ news) (m2 : (x2, listOf v2.toArray k2) ∈ news) (m3 : (x3, listOf v3.toArray k3) ∈ news) (m4 : (x4, listOf v4.toArray k4) ∈ news)
    (i1 : IntsAre v1 R) (i2 : IntsAre v2 S) (i3 : IntsAre v3 R) (i4 : IntsAre v4 S) (hu : A.units + 64 < cLine) (h : Q (.bool false) s) : wpAny (model prog w) A (compareOp .NotEq (.ref a) (.ref b)) Q E s := by
  obtain ⟨_, r1⟩ := reads_ints N m1 i1
  obtain ⟨_, r2⟩ := reads_ints N m2 i2
  obtain ⟨_, r3⟩ := reads_ints N m3 i3
  obtain ⟨_, r4⟩ := reads_ints N m4 i4
  refine ne_dataH (reads_tuple_at (N.get ma) rfl rfl (.cons r1 (.cons r2 .nil))) (reads_tuple_at (N.get mb) rfl rfl (.cons r3 (.cons r4 .nil))) (shaped_pair R S) (shaped_pair R S) hu ?_
  rw [eqv_pair]
  exact h
theorem ne_nils {prog : Program} {w : World} {A : Around} {E : Value → Shared → Prop} {s : Shared} {h₀ : Heap} {L a b : Addr} {news : List (Addr × Obj)} {k1 k2 : Nat} {Q : Value → Shared → Prop}
    (N : News h₀ L s.heap news) (ma : (a, ({ cls := .type "list", data := .seq #[] k1 } : Obj)) ∈ news) (mb : (b, ({ cls := .type "list", data := .seq #[] k2 } : Obj)) ∈ news) (hu : A.units + 64 < cLine) (h : Q (.bool false) s) : wpAny (model prog w) A (compareOp .NotEq (.ref a) (.ref b)) Q E s :=
  ke_ne_ints (xs := []) (ys := []) ⟨_, N.get ma, rfl, _, rfl⟩ ⟨_, N.get mb, rfl, _, rfl⟩ .nil .nil hu (by simpa using h)
theorem ne_same {prog : Program} {w : World} {A : Around} {E : Value → Shared → Prop} {s : Shared} {h₀ : Heap} {L a b : Addr} {news : List (Addr × Obj)} {v1 v2 : List Value} {k1 k2 : Nat} {R : List Int} {Q : Value → Shared → Prop}
    (N : News h₀ L s.heap news) (ma : (a, listOf v1.toArray k1) ∈ news) (mb : (b, listOf v2.toArray k2) ∈ news) (i1 : IntsAre v1 R) (i2 : IntsAre v2 R) (hu : A.units + 64 < cLine) (h : Q (.bool false) s) : wpAny (model prog w) A (compareOp .NotEq (.ref a) (.ref b)) Q E s :=
  ke_ne_ints ⟨_, N.get ma, rfl, _, rfl⟩ ⟨_, N.get mb, rfl, _, rfl⟩ i1 i2 hu (by simpa using h)
theorem news_drop1' {h₀ h : Heap} {L : Addr} {p : Addr × Obj} {news : List (Addr × Obj)} (N : News h₀ L h (p :: news)) : News h₀ L h news := fun q hq => N q (List.mem_cons_of_mem _ hq)
theorem fibs_get0 {j n : Nat} (h : n < j) : (fibs j).getD ((n : Int)).toNat 0 = ((fib n : Nat) : Int) := by
  rw [Int.toNat_natCast]
  exact fibs_getD h
theorem fibs_lucas {j n : Nat} (h : n + 1 < j) : 2 * (fibs j).getD ((n : Int) + 1).toNat 0 - (fibs j).getD ((n : Int)).toNat 0 = ((fib (n + 1) + fib (n + 1) - fib n : Nat) : Int) := by
  rw [fibs_get1 h, fibs_get0 (by omega)]
  have := fib_le2 (m := n)
  omega
theorem fits_lucas {n : Nat} (h : n ≤ 300) : Fits (fib (n + 1) + fib (n + 1) - fib n) :=
  Fits.le (Fits.le (fib_fits (m := n + 3) (by omega)) fib_two_le) (Nat.sub_le _ _)
theorem fibs_get2 {j n : Nat} (h : 2 * n < j) : (fibs j).getD (2 * (n : Int)).toNat 0 = ((fib (2 * n) : Nat) : Int) := by
  have e : (2 * (n : Int)).toNat = 2 * n := by omega
  rw [e]
  exact fibs_getD h
theorem fibs_get3 {j n : Nat} (h : 2 * n + 1 < j) : (fibs j).getD (2 * (n : Int) + 1).toNat 0 = ((fib (2 * n + 1) : Nat) : Int) := by
  have e : (2 * (n : Int) + 1).toNat = 2 * n + 1 := by omega
  rw [e]
  exact fibs_getD h
theorem news_mid {h₀ h : Heap} {L : Addr} {a b c d : Addr × Obj} {n : List (Addr × Obj)} (N : News h₀ L h (a :: b :: c :: d :: n)) : News h₀ L h (d :: a :: b :: c :: n) := news_perm N (by
  intro p hp
  simp only [List.mem_cons] at hp ⊢
  rcases hp with h | h | h | h | h <;> simp [h])
theorem mem4' {x y z b c d e f g i : Addr × Obj} : ∀ p ∈ [b, c, d, e], p ∈ [x, y, z, b, c, d, e, f, g, i] := by
  intro p hp
  simp only [List.mem_cons, List.not_mem_nil, or_false] at hp ⊢
  rcases hp with h | h | h | h <;> simp [h]
theorem news_drop10 {h₀ h : Heap} {L : Addr} {a b c d e f g i j k : Addr × Obj} {n : List (Addr × Obj)} (N : News h₀ L h (a :: b :: c :: d :: e :: f :: g :: i :: j :: k :: n)) : News h₀ L h n := fun p hp => N p (by simp [hp])
theorem post_true (args : List WData) : Challenge.rw_nn0002_01.row.claim.post args (.bool true) args = true :=
  postW_of (by wrow_shape) (by wtm_val) (by rfl)
theorem fits_bits {M : Nat} (h : Fits M) : Builtin.Int.intBits (M : Int) ≤ 300 := by
  rw [intBits_le_iff]
  simpa using h.lt
set_option maxRecDepth 100000 in
set_option maxHeartbeats 8000000 in
theorem law_walk : PySem.Challenge.rw_nn0002_01.Holds := hd (by
  k_go0
  all_goals (try k_fold)
  have kMark := kstMark
  repeat' (first | (fail_if_success (with_reducible show wpAny _ _ (PySem.call (Value.ref _) _ _) _ _ _)); (fail_if_success (with_reducible show InvPostN _ _ _ _ _ _ _ _ _)); (fail_if_success (with_reducible show KswPost _ _ _ _ _ _ _ _ _ _ _ _ _ _)); first | (k_unfold; (try dsimp only)) | (k_end; wrow_close) | walk1 | (dsimp only; walk1) | (leave1; walk_say "STEP leave1"; try dsimp only) | fail "no step")
  walk1
  repeat' (first | (fail_if_success (with_reducible show wpAny _ _ (PySem.call (Value.ref _) _ _) _ _ _)); (fail_if_success (with_reducible show InvPostN _ _ _ _ _ _ _ _ _)); (fail_if_success (with_reducible show KswPost _ _ _ _ _ _ _ _ _ _ _ _ _ _)); first | (k_unfold; (try dsimp only)) | (k_end; wrow_close) | walk1 | (dsimp only; walk1) | (leave1; walk_say "STEP leave1"; try dsimp only) | fail "no step")
  rename IntsAre _ (List.map (fun (k' : Int) => if k' < 0 then -k' else k') (List.take 20 _)) => hIg
  rename News _ _ _ _ => N1
  obtain ⟨lp, lg, e1, e2⟩ := news_names7 N1
  subst e1 e2
  replace N1 := news_drop7 N1
  (rename News _ _ _ _ => Nc); k_dflt (refine' Con.use (draw_spec (lp := lp) (lg := lg) (i := 0) _ hIg (by rw [List.length_map, List.length_take]; omega) (by omega) (by omega) (by k_ne) (ownOff2 (by k_ne) (by k_ne))) ?kB1 ?kF1 ?kX1 Nc ?kT1 ?kK1 ?kd1 ?ku1 ?kR1); (case kB1 => k_asm); (case kF1 => k_asm); (case kX1 => k_asm); (case kT1 => k_asm); (case kK1 => first | exact rfl | assumption); (case kd1 => ktr_room); (case ku1 => ktr_units)
  unfold RetD
  intro r1 tr1 i1 q1 ta1 tb1 c1 h1 tk1 hr10 hr11 hi1 F1 N1
  (try dsimp only)
  (try k_fold)
  repeat' (first | (fail_if_success (with_reducible show wpAny _ _ (PySem.call (Value.ref _) _ _) _ _ _)); (fail_if_success (with_reducible show InvPostN _ _ _ _ _ _ _ _ _)); (fail_if_success (with_reducible show KswPost _ _ _ _ _ _ _ _ _ _ _ _ _ _)); first | (k_unfold; (try dsimp only)) | (k_end; wrow_close) | walk1 | (dsimp only; walk1) | (leave1; walk_say "STEP leave1"; try dsimp only) | fail "no step")
  (rename News _ _ _ _ => Nc); k_dflt (refine' Con.use (draw_spec (lp := lp) (lg := lg) _ hIg (by rw [List.length_map, List.length_take]; omega) hi1 (by omega) (by k_ne) (ownOff2 (by k_ne) (by k_ne))) ?kB2 ?kF2 ?kX2 Nc ?kT2 ?kK2 ?kd2 ?ku2 ?kR2); (case kB2 => k_asm); (case kF2 => k_asm); (case kX2 => k_asm); (case kT2 => k_asm); (case kK2 => first | exact rfl | assumption); (case kd2 => ktr_room); (case ku2 => ktr_units)
  unfold RetD
  intro r2 tr2 i2 q2 ta2 tb2 c2 h2 tk2 hr20 hr21 hi2 F2 N2
  obtain ⟨n, en⟩ : ∃ n : Nat, r2 = (n : Int) := ⟨r2.toNat, by omega⟩
  subst en
  obtain ⟨W, eW⟩ : ∃ W : Int, W = 3 + r1 := ⟨_, rfl⟩
  (try dsimp only)
  (try k_fold)
  repeat' (first | (fail_if_success (with_reducible show wpAny _ _ (PySem.call (Value.ref _) _ _) _ _ _)); (fail_if_success (with_reducible show InvPostN _ _ _ _ _ _ _ _ _)); (fail_if_success (with_reducible show KswPost _ _ _ _ _ _ _ _ _ _ _ _ _ _)); first | (k_unfold; (try dsimp only)) | (k_end; wrow_close) | walk1 | (dsimp only; walk1) | (leave1; walk_say "STEP leave1"; try dsimp only) | fail "no step")
  (rename News _ _ _ _ => Nc); k_dflt (refine' Con.use (added_spec' (n := 2 * n) _ _ (by omega) (by omega)) ?kB3 ?kF3 ?kX3 Nc ?kT3 ?kK3 ?kd3 ?ku3 ?kR3); (case kB3 => k_asm); (case kF3 => k_asm); (case kX3 => k_asm); (case kT3 => k_asm); (case kK3 => first | exact rfl | assumption); (case kd3 => ktr_room); (case ku3 => ktr_units)
  unfold RetL
  intro ldue dus ndu h3 tk3 F3 N3 ltd hIdue
  k_lt ltd
  (try dsimp only)
  (try k_fold)
  repeat' (first | (fail_if_success (with_reducible show wpAny _ _ (PySem.call (Value.ref _) _ _) _ _ _)); (fail_if_success (with_reducible show InvPostN _ _ _ _ _ _ _ _ _)); (fail_if_success (with_reducible show KswPost _ _ _ _ _ _ _ _ _ _ _ _ _ _)); first | (k_unfold; (try dsimp only)) | (k_end; wrow_close) | walk1 | (dsimp only; walk1) | (leave1; walk_say "STEP leave1"; try dsimp only) | fail "no step")
  walk1
  repeat' (first | (fail_if_success (with_reducible show wpAny _ _ (PySem.call (Value.ref _) _ _) _ _ _)); (fail_if_success (with_reducible show InvPostN _ _ _ _ _ _ _ _ _)); (fail_if_success (with_reducible show KswPost _ _ _ _ _ _ _ _ _ _ _ _ _ _)); first | (k_unfold; (try dsimp only)) | (k_end; wrow_close) | walk1 | (dsimp only; walk1) | (leave1; walk_say "STEP leave1"; try dsimp only) | fail "no step")
  rename World => ww
  rename News _ _ _ _ => N4
  obtain ⟨f1, lt1, e1, e2⟩ := news_names12 N4
  subst e1 e2
  rename (Obj.data _ = Data.cell (bindC _ _ _ (Str.ofString "told"))) => dA
  rename (Obj.data _ = Data.cell (bindC _ _ _ (Str.ofString "w"))) => dB
  have dT : Obj.data _ = Data.cell (some (Value.ref lt1)) := dA
  have dW : Obj.data _ = Data.cell (some (Value.int (3 + r1) tk1)) := dB
  refine cut_mul (w := ww) (lt := lt1) (k := 3 + r1) N4 ?hm (fun hmul => ?_)
  case hm =>
    have h3 : 3 ≤ 3 + r1 := by omega
    have h9 : 3 + r1 ≤ 9 := by omega
    dsimp only
    intro news la lb vs ws ts na nb nt M N j u hb hoff ha hb' hi hj fM fN fMN ht hj9
    have mf := hb _ List.mem_cons_self
    have mc := hb _ (List.mem_cons_of_mem _ List.mem_cons_self)
    have mt := hb _ (List.mem_cons_of_mem _ (List.mem_cons_of_mem _ List.mem_cons_self))
    have mv := hb _ (List.mem_cons_of_mem _ (List.mem_cons_of_mem _ (List.mem_cons_of_mem _ List.mem_cons_self)))
    have n1 := hoff _ mf lt1 (List.mem_singleton.mpr rfl)
    have n2 := hoff _ mc lt1 (List.mem_singleton.mpr rfl)
    have n3 := hoff _ mt lt1 (List.mem_singleton.mpr rfl)
    have n4 := hoff _ mv lt1 (List.mem_singleton.mpr rfl)
    have n5 := hoff _ ha lt1 (List.mem_singleton.mpr rfl)
    have n6 := hoff _ hb' lt1 (List.mem_singleton.mpr rfl)
    dsimp only at n1 n2 n3 n4 n5 n6
    unfold RetMul
    unfold Con
    intro loose mean mg mb dp un gd cn cs a ccd cl outer A₀ base h₀ L m s Q E B F X N' T hk hdp hu hret
    replace N' := news_front (news_front (news_front (news_front (news_front (news_front N' (List.mem_cons_of_mem _ hb')) (List.mem_cons_of_mem _ (List.mem_cons_of_mem _ ha))) (List.mem_cons_of_mem _ (List.mem_cons_of_mem _ (List.mem_cons_of_mem _ mv)))) (List.mem_cons_of_mem _ (List.mem_cons_of_mem _ (List.mem_cons_of_mem _ (List.mem_cons_of_mem _ mt))))) (List.mem_cons_of_mem _ (List.mem_cons_of_mem _ (List.mem_cons_of_mem _ (List.mem_cons_of_mem _ (List.mem_cons_of_mem _ mc)))))) (List.mem_cons_of_mem _ (List.mem_cons_of_mem _ (List.mem_cons_of_mem _ (List.mem_cons_of_mem _ (List.mem_cons_of_mem _ (List.mem_cons_of_mem _ mf))))))
    refine wpAny_call ?_
    k_dflt (refine' code_nest ?k1 ?k2 ?k3 ?k4 ?k5 ?kA ?kF ?kK ?k6 ?k7 ?k8 ?k9 ?kB ?_ ?c2 ?c3 ?c4 ?c5; (case kA => exact rfl); (case kF => exact rfl); (case kK => first | exact rfl | assumption); (case k1 => k_asm); (case k2 => k_asm); (case k3 => k_asm); (case k4 => k_asm); (case k5 => k_asm); (case k6 => k_mem); (case k7 => exact codeRec_news (by k_asm) (by k_mem) (by assumption) (by assumption)); (case k8 => ktr_room); (case k9 => exact BindsTo.of_eq rfl); (case c5 => decide); (case kB => exact locs rfl); (case c2 => exact rfl); (case c3 => exact rfl); (case c4 => exact rfl); k_whole; intro g' L' h' FG' F' N' B' X' T'; (try dsimp only); (try k_fold))
    have kLenT := IntsAre.length ht
    rw [List.length_replicate] at kLenT
    repeat' (first | (fail_if_success (with_reducible show wpAny _ _ (PySem.call (Value.ref _) _ _) _ _ _)); (fail_if_success (with_reducible show InvPostN _ _ _ _ _ _ _ _ _)); (fail_if_success (with_reducible show KswPost _ _ _ _ _ _ _ _ _ _ _ _ _ _)); first | (k_unfold; (try dsimp only)) | (k_end; wrow_close) | walk1 | (dsimp only; walk1) | (leave1; walk_say "STEP leave1"; try dsimp only) | fail "no step")
    (rename News _ _ _ _ => Nc); k_dflt (refine' Con.use (whole_spec _ _ ?m1 hi h3 h9 (limbs_len h3 fM) (limbs_dig h3 h9)) ?kB4 ?kF4 ?kX4 Nc ?kT4 ?kK4 ?kd4 ?ku4 ?kR4); (case kB4 => k_asm); (case kF4 => k_asm); (case kX4 => k_asm); (case kT4 => k_asm); (case kK4 => first | exact rfl | assumption); (case kd4 => ktr_room); (case ku4 => ktr_units)
    case m1 => k_mem
    unfold RetI
    intro tw1 hw1 tkw1 Fw1 Nw1
    rw [wmap_sum h3]
    (try dsimp only)
    (try k_fold)
    repeat' (first | (fail_if_success (with_reducible show wpAny _ _ (PySem.call (Value.ref _) _ _) _ _ _)); (fail_if_success (with_reducible show InvPostN _ _ _ _ _ _ _ _ _)); (fail_if_success (with_reducible show KswPost _ _ _ _ _ _ _ _ _ _ _ _ _ _)); first | (k_unfold; (try dsimp only)) | (k_end; wrow_close) | walk1 | (dsimp only; walk1) | (leave1; walk_say "STEP leave1"; try dsimp only) | fail "no step")
    (rename News _ _ _ _ => Nc); k_dflt (refine' Con.use (whole_spec _ _ ?m2 hj h3 h9 (limbs_len h3 fN) (limbs_dig h3 h9)) ?kB5 ?kF5 ?kX5 Nc ?kT5 ?kK5 ?kd5 ?ku5 ?kR5); (case kB5 => k_asm); (case kF5 => k_asm); (case kX5 => k_asm); (case kT5 => k_asm); (case kK5 => first | exact rfl | assumption); (case kd5 => ktr_room); (case ku5 => ktr_units)
    case m2 => k_mem
    unfold RetI
    intro tw2 hw2 tkw2 Fw2 Nw2
    rw [wmap_sum h3]
    (try dsimp only)
    (try k_fold)
    repeat' (first | (fail_if_success (with_reducible show wpAny _ _ (PySem.call (Value.ref _) _ _) _ _ _)); (fail_if_success (with_reducible show InvPostN _ _ _ _ _ _ _ _ _)); (fail_if_success (with_reducible show KswPost _ _ _ _ _ _ _ _ _ _ _ _ _ _)); first | (k_unfold; (try dsimp only)) | (k_end; wrow_close) | walk1 | (dsimp only; walk1) | (leave1; walk_say "STEP leave1"; try dsimp only) | fail "no step")
    · refine PyProof.Rows.mul_int ?_ (IntMulOk.of_le (fits_bits fM) (fits_bits fN) (by decide))
      (try dsimp only)
      (try k_fold)
      repeat' (first | (fail_if_success (with_reducible show wpAny _ _ (PySem.call (Value.ref _) _ _) _ _ _)); (fail_if_success (with_reducible show InvPostN _ _ _ _ _ _ _ _ _)); (fail_if_success (with_reducible show KswPost _ _ _ _ _ _ _ _ _ _ _ _ _ _)); first | (k_unfold; (try dsimp only)) | (k_end; wrow_close) | walk1 | (dsimp only; walk1) | (leave1; walk_say "STEP leave1"; try dsimp only) | fail "no step")
      (rename News _ _ _ _ => Nc); k_dflt (refine' Con.use (row_spec' (N := M * N) _ _ _ (by rw [Int.natCast_mul]) h3 h9 fMN) ?kB6 ?kF6 ?kX6 Nc ?kT6 ?kK6 ?kd6 ?ku6 ?kR6); (case kB6 => k_asm); (case kF6 => k_asm); (case kX6 => k_asm); (case kT6 => k_asm); (case kK6 => first | exact rfl | assumption); (case kd6 => ktr_room); (case ku6 => ktr_units)
      unfold RetL
      intro l5 us5 nn5 h5 tk5 F5 N5 ltd5 hI5
      (try dsimp only)
      (try k_fold)
      repeat' (first | (fail_if_success (with_reducible show wpAny _ _ (PySem.call (Value.ref _) _ _) _ _ _)); (fail_if_success (with_reducible show InvPostN _ _ _ _ _ _ _ _ _)); (fail_if_success (with_reducible show KswPost _ _ _ _ _ _ _ _ _ _ _ _ _ _)); first | (k_unfold; (try dsimp only)) | (k_end; wrow_close) | walk1 | (dsimp only; walk1) | (leave1; walk_say "STEP leave1"; try dsimp only) | fail "no step")
      rename News _ _ _ _ => N6
      simp only [List.push_toArray] at N6
      exact hret l5 us5 (ts ++ [Value.int (3 + r1) u]) _ _ _ _ (by assumption) (news_mul N6) (fun p hp => ltd5 p (by simp [hp])) (ltd5 (lt1, _) (by k_mem)) hI5 (by rw [List.replicate_succ']; exact IntsAre.append ht (.cons _ _ .nil))
  have N5 := news_keep N4
  clear N4
  (rename News _ _ _ _ => Nc); k_dflt (refine' Con.use (pair_spec (lt := lt1) (r := n) (j := 0) _ _ _ _ ?mf1 ?mb1 (ownOff_cons (by k_ne) (ownOff_cons (by k_ne) (ownOff_cons (by k_ne) (ownOff_cons (by k_ne) (ownOff_cons (by k_ne) (ownOff_cons (by k_ne) (ownOff_cons (by k_ne) ownOff_nil))))))) hmul .nil (by omega) (by omega) (by omega) (by omega)) ?kB7 ?kF7 ?kX7 Nc ?kT7 ?kK7 ?kd7 ?ku7 ?kR7); (case kB7 => k_asm); (case kF7 => k_asm); (case kX7 => k_asm); (case kT7 => k_asm); (case kK7 => first | exact rfl | assumption); (case kd7 => ktr_room); (case ku7 => ktr_units)
  case mf1 => k_mem
  case mb1 => exact mem4
  unfold RetPair
  intro lr l1 l2 us1 us2 ts1 n1 n2 nt1 j1 hp1 tkp1 Fp Np pq1 pq2 pq3 o1 o2 o3 hI1 hI2 ht1 hj1
  clear pq1
  clear pq2
  clear pq3
  have kLdue := IntsAre.length hIdue
  rw [fibs_length] at kLdue
  have kLf : (fibs (2 * n + 3)).length = 2 * n + 3 := fibs_length
  (try dsimp only)
  (try k_fold)
  repeat' (first | (fail_if_success (with_reducible show wpAny _ _ (PySem.call (Value.ref _) _ _) _ _ _)); (fail_if_success (with_reducible show InvPostN _ _ _ _ _ _ _ _ _)); (fail_if_success (with_reducible show KswPost _ _ _ _ _ _ _ _ _ _ _ _ _ _)); first | (k_unfold; (try dsimp only)) | (k_end; wrow_close) | walk1 | (dsimp only; walk1) | (leave1; walk_say "STEP leave1"; try dsimp only) | fail "no step")
  have hn150 : n ≤ 150 := by omega
  (rename News _ _ _ _ => Nc); k_dflt (refine' Con.use (row_spec' (N := fib n) _ _ _ (fibs_get0 (by omega)) (by omega) (by omega) (fib_fits (by omega))) ?kB8 ?kF8 ?kX8 Nc ?kT8 ?kK8 ?kd8 ?ku8 ?kR8); (case kB8 => k_asm); (case kF8 => k_asm); (case kX8 => k_asm); (case kT8 => k_asm); (case kK8 => first | exact rfl | assumption); (case kd8 => ktr_room); (case ku8 => ktr_units)
  unfold RetL
  intro la3 us3 na3 h3' tka3 Fa3 Na3 al3 hI3
  clear al3
  (try dsimp only)
  (try k_fold)
  repeat' (first | (fail_if_success (with_reducible show wpAny _ _ (PySem.call (Value.ref _) _ _) _ _ _)); (fail_if_success (with_reducible show InvPostN _ _ _ _ _ _ _ _ _)); (fail_if_success (with_reducible show KswPost _ _ _ _ _ _ _ _ _ _ _ _ _ _)); first | (k_unfold; (try dsimp only)) | (k_end; wrow_close) | walk1 | (dsimp only; walk1) | (leave1; walk_say "STEP leave1"; try dsimp only) | fail "no step")
  (rename News _ _ _ _ => Nc); k_dflt (refine' Con.use (row_spec' (N := fib (n + 1)) _ _ _ (fibs_get1 (by omega)) (by omega) (by omega) (fib_fits (by omega))) ?kB9 ?kF9 ?kX9 Nc ?kT9 ?kK9 ?kd9 ?ku9 ?kR9); (case kB9 => k_asm); (case kF9 => k_asm); (case kX9 => k_asm); (case kT9 => k_asm); (case kK9 => first | exact rfl | assumption); (case kd9 => ktr_room); (case ku9 => ktr_units)
  unfold RetL
  intro la4 us4 na4 h4' tka4 Fa4 Na4 al4 hI4
  clear al4
  (try dsimp only)
  (try k_fold)
  repeat' (first | (fail_if_success (with_reducible show wpAny _ _ (PySem.call (Value.ref _) _ _) _ _ _)); (fail_if_success (with_reducible show wpAny _ _ (compareOp _ (Value.ref _) (Value.ref _)) _ _ _)); (fail_if_success (with_reducible show InvPostN _ _ _ _ _ _ _ _ _)); (fail_if_success (with_reducible show KswPost _ _ _ _ _ _ _ _ _ _ _ _ _ _)); first | (k_unfold; (try dsimp only)) | (k_end; wrow_close) | walk1 | (dsimp only; walk1) | (leave1; walk_say "STEP leave1"; try dsimp only) | fail "no step")
  rename News _ _ _ _ => Nq
  k_dflt (refine ne_pair Nq (by k_mem) (by k_mem) (by k_mem) (by k_mem) (by k_mem) (by k_mem) hI1 hI2 hI3 hI4 (by ke_room) ?_)
  rename News _ _ _ _ => Nq
  replace Nq := news_drop6 Nq
  have kLt1 := IntsAre.length ht1
  rw [List.length_replicate] at kLt1
  have kLr : (List.replicate j1 (3 + r1)).length = j1 := List.length_replicate
  (try dsimp only)
  (try k_fold)
  repeat' (first | (fail_if_success (with_reducible show wpAny _ _ (PySem.call (Value.ref _) _ _) _ _ _)); (fail_if_success (with_reducible show wpAny _ _ (compareOp _ (Value.ref _) (Value.ref _)) _ _ _)); (fail_if_success (with_reducible show wpAny _ _ (PySem.eval (Expr.ListComp _ _ _ _) _) _ _ _)); (fail_if_success (with_reducible show InvPostN _ _ _ _ _ _ _ _ _)); (fail_if_success (with_reducible show KswPost _ _ _ _ _ _ _ _ _ _ _ _ _ _)); first | (k_unfold; (try dsimp only)) | (k_end; wrow_close) | walk1 | (dsimp only; walk1) | (leave1; walk_say "STEP leave1"; try dsimp only) | fail "no step")
  rename Fr _ _ _ _ => Fc
  rename News _ _ _ _ => Nq
  have hsz1 : ts1.toArray.size ≤ sizeLine := by rw [List.size_toArray, kLt1, PySem.sizeLine_eq]; omega
  k_dflt (refine LCt.ListComp_T (F₀ := Fc) (by with_unfolding_all rfl) (by decide) (by rfl) (by decide) (by rfl) ?_)
  walk1
  refine LCt.CompSrcT.ledger (by rfl) Fc Nq (List.Mem.head _) hsz1 ?_
  intro gc
  refine rest_none (.inr ⟨_, List.Mem.head _, rfl, _, rfl⟩) ?fin ?tst _ _
  case tst =>
    intro i v I oI C oC D m₂ h tk E' hP hC hx F2 N2
    obtain ⟨nv, tv, rfl, hv⟩ := IntsAre.at ht1 i v (by simpa using hP)
    obtain ⟨hv1, hv2⟩ := List.getElem?_eq_some_iff.mp hv
    rw [List.getElem_replicate] at hv2
    subst hv2
    repeat' (first | (fail_if_success (with_reducible show wpAny _ _ (PySem.call (Value.ref _) _ _) _ _ _)); (fail_if_success (with_reducible show wpAny _ _ (compareOp _ (Value.ref _) (Value.ref _)) _ _ _)); (fail_if_success (with_reducible show wpAny _ _ (PySem.eval (Expr.ListComp _ _ _ _) _) _ _ _)); (fail_if_success (with_reducible show InvPostN _ _ _ _ _ _ _ _ _)); (fail_if_success (with_reducible show KswPost _ _ _ _ _ _ _ _ _ _ _ _ _ _)); first | (k_unfold; (try dsimp only)) | (k_end; wrow_close) | walk1 | (dsimp only; walk1) | (leave1; walk_say "STEP leave1"; try dsimp only) | fail "no step")
    exact ⟨by simp, _, rfl⟩
  case fin =>
    intro D h tk F2 N2 O2
    (try dsimp only)
    (try k_fold)
    repeat' (first | (fail_if_success (with_reducible show wpAny _ _ (PySem.call (Value.ref _) _ _) _ _ _)); (fail_if_success (with_reducible show wpAny _ _ (compareOp _ (Value.ref _) (Value.ref _)) _ _ _)); (fail_if_success (with_reducible show wpAny _ _ (PySem.eval (Expr.ListComp _ _ _ _) _) _ _ _)); (fail_if_success (with_reducible show InvPostN _ _ _ _ _ _ _ _ _)); (fail_if_success (with_reducible show KswPost _ _ _ _ _ _ _ _ _ _ _ _ _ _)); first | (k_unfold; (try dsimp only)) | (k_end; wrow_close) | walk1 | (dsimp only; walk1) | (leave1; walk_say "STEP leave1"; try dsimp only) | fail "no step")
    rename News _ _ _ _ => Nq2
    k_dflt (refine ne_nils Nq2 (by k_mem) (by k_mem) (by ke_room) ?_)
    rename News _ _ _ _ => Nq2
    replace Nq2 := news_drop1 (news_drop1' Nq2)
    (try dsimp only)
    (try k_fold)
    repeat' (first | (fail_if_success (with_reducible show wpAny _ _ (PySem.call (Value.ref _) _ _) _ _ _)); (fail_if_success (with_reducible show wpAny _ _ (compareOp _ (Value.ref _) (Value.ref _)) _ _ _)); (fail_if_success (with_reducible show wpAny _ _ (PySem.eval (Expr.ListComp _ _ _ _) _) _ _ _)); (fail_if_success (with_reducible show InvPostN _ _ _ _ _ _ _ _ _)); (fail_if_success (with_reducible show KswPost _ _ _ _ _ _ _ _ _ _ _ _ _ _)); first | (k_unfold; (try dsimp only)) | (k_end; wrow_close) | walk1 | (dsimp only; walk1) | (leave1; walk_say "STEP leave1"; try dsimp only) | fail "no step")
    (rename News _ _ _ _ => Nc); k_dflt (refine' Con.use (fib_spec (lt := lt1) (r := n) (j := j1) _ _ _ _ ?mf2 mem4 (ownOff_cons (by k_ne) (ownOff_cons (by k_ne) (ownOff_cons (by k_ne) (ownOff_cons (by k_ne) (ownOff_cons (by k_ne) (ownOff_cons (by k_ne) (ownOff_cons (by k_ne) ownOff_nil))))))) hmul ht1 (by omega) (by omega) (by omega) (by omega)) ?kB10 ?kF10 ?kX10 Nc ?kT10 ?kK10 ?kd10 ?ku10 ?kR10); (case kB10 => k_asm); (case kF10 => k_asm); (case kX10 => k_asm); (case kT10 => k_asm); (case kK10 => first | exact rfl | assumption); (case kd10 => ktr_room); (case ku10 => ktr_units)
    case mf2 => k_mem
    unfold RetOne
    intro lf usf tsf nf ntf jf hpf tkf Ff Nf pqf of1 hIf htf hjf
    clear pqf
    (try dsimp only)
    (try k_fold)
    repeat' (first | (fail_if_success (with_reducible show wpAny _ _ (PySem.call (Value.ref _) _ _) _ _ _)); (fail_if_success (with_reducible show wpAny _ _ (compareOp _ (Value.ref _) (Value.ref _)) _ _ _)); (fail_if_success (with_reducible show wpAny _ _ (PySem.eval (Expr.ListComp _ _ _ _) _) _ _ _)); (fail_if_success (with_reducible show InvPostN _ _ _ _ _ _ _ _ _)); (fail_if_success (with_reducible show KswPost _ _ _ _ _ _ _ _ _ _ _ _ _ _)); first | (k_unfold; (try dsimp only)) | (k_end; wrow_close) | walk1 | (dsimp only; walk1) | (leave1; walk_say "STEP leave1"; try dsimp only) | fail "no step")
    (rename News _ _ _ _ => Nc); k_dflt (refine' Con.use (row_spec' (N := fib n) _ _ _ (fibs_get0 (by omega)) (by omega) (by omega) (fib_fits (by omega))) ?kB11 ?kF11 ?kX11 Nc ?kT11 ?kK11 ?kd11 ?ku11 ?kR11); (case kB11 => k_asm); (case kF11 => k_asm); (case kX11 => k_asm); (case kT11 => k_asm); (case kK11 => first | exact rfl | assumption); (case kd11 => ktr_room); (case ku11 => ktr_units)
    unfold RetL
    intro l5 us5 na5 h5' tk5' F5 N5 al5 hI5
    clear al5
    (try dsimp only)
    (try k_fold)
    repeat' (first | (fail_if_success (with_reducible show wpAny _ _ (PySem.call (Value.ref _) _ _) _ _ _)); (fail_if_success (with_reducible show wpAny _ _ (compareOp _ (Value.ref _) (Value.ref _)) _ _ _)); (fail_if_success (with_reducible show wpAny _ _ (PySem.eval (Expr.ListComp _ _ _ _) _) _ _ _)); (fail_if_success (with_reducible show InvPostN _ _ _ _ _ _ _ _ _)); (fail_if_success (with_reducible show KswPost _ _ _ _ _ _ _ _ _ _ _ _ _ _)); first | (k_unfold; (try dsimp only)) | (k_end; wrow_close) | walk1 | (dsimp only; walk1) | (leave1; walk_say "STEP leave1"; try dsimp only) | fail "no step")
    rename News _ _ _ _ => Nq3
    k_dflt (refine ne_same Nq3 (by k_mem) (by k_mem) hIf hI5 (by ke_room) ?_)
    rename News _ _ _ _ => Nq3
    replace Nq3 := news_drop1 (news_drop1' Nq3)
    (try dsimp only)
    (try k_fold)
    repeat' (first | (fail_if_success (with_reducible show wpAny _ _ (PySem.call (Value.ref _) _ _) _ _ _)); (fail_if_success (with_reducible show wpAny _ _ (compareOp _ (Value.ref _) (Value.ref _)) _ _ _)); (fail_if_success (with_reducible show wpAny _ _ (PySem.eval (Expr.ListComp _ _ _ _) _) _ _ _)); (fail_if_success (with_reducible show InvPostN _ _ _ _ _ _ _ _ _)); (fail_if_success (with_reducible show KswPost _ _ _ _ _ _ _ _ _ _ _ _ _ _)); first | (k_unfold; (try dsimp only)) | (k_end; wrow_close) | walk1 | (dsimp only; walk1) | (leave1; walk_say "STEP leave1"; try dsimp only) | fail "no step")
    (rename News _ _ _ _ => Nc); k_dflt (refine' Con.use (lucas_spec (lt := lt1) (r := n) (j := jf) _ _ _ _ ?mf3 mem4 (ownOff_cons (by k_ne) (ownOff_cons (by k_ne) (ownOff_cons (by k_ne) (ownOff_cons (by k_ne) (ownOff_cons (by k_ne) (ownOff_cons (by k_ne) (ownOff_cons (by k_ne) ownOff_nil))))))) hmul htf (by omega) (by omega) (by omega) (by omega)) ?kB12 ?kF12 ?kX12 Nc ?kT12 ?kK12 ?kd12 ?ku12 ?kR12); (case kB12 => k_asm); (case kF12 => k_asm); (case kX12 => k_asm); (case kT12 => k_asm); (case kK12 => first | exact rfl | assumption); (case kd12 => ktr_room); (case ku12 => ktr_units)
    case mf3 => k_mem
    unfold RetOne
    intro lu usu tsu nu ntu ju hpu tku Fu Nu pqu ou1 hIu htu hju
    clear pqu
    (try dsimp only)
    (try k_fold)
    repeat' (first | (fail_if_success (with_reducible show wpAny _ _ (PySem.call (Value.ref _) _ _) _ _ _)); (fail_if_success (with_reducible show wpAny _ _ (compareOp _ (Value.ref _) (Value.ref _)) _ _ _)); (fail_if_success (with_reducible show wpAny _ _ (PySem.eval (Expr.ListComp _ _ _ _) _) _ _ _)); (fail_if_success (with_reducible show InvPostN _ _ _ _ _ _ _ _ _)); (fail_if_success (with_reducible show KswPost _ _ _ _ _ _ _ _ _ _ _ _ _ _)); first | (k_unfold; (try dsimp only)) | (k_end; wrow_close) | walk1 | (dsimp only; walk1) | (leave1; walk_say "STEP leave1"; try dsimp only) | fail "no step")
    (rename News _ _ _ _ => Nc); k_dflt (refine' Con.use (row_spec' (N := fib (n + 1) + fib (n + 1) - fib n) _ _ _ (fibs_lucas (by omega)) (by omega) (by omega) (fits_lucas (by omega))) ?kB13 ?kF13 ?kX13 Nc ?kT13 ?kK13 ?kd13 ?ku13 ?kR13); (case kB13 => k_asm); (case kF13 => k_asm); (case kX13 => k_asm); (case kT13 => k_asm); (case kK13 => first | exact rfl | assumption); (case kd13 => ktr_room); (case ku13 => ktr_units)
    unfold RetL
    intro l6 us6 na6 h6' tk6' F6 N6 al6 hI6
    clear al6
    (try dsimp only)
    (try k_fold)
    repeat' (first | (fail_if_success (with_reducible show wpAny _ _ (PySem.call (Value.ref _) _ _) _ _ _)); (fail_if_success (with_reducible show wpAny _ _ (compareOp _ (Value.ref _) (Value.ref _)) _ _ _)); (fail_if_success (with_reducible show wpAny _ _ (PySem.eval (Expr.ListComp _ _ _ _) _) _ _ _)); (fail_if_success (with_reducible show InvPostN _ _ _ _ _ _ _ _ _)); (fail_if_success (with_reducible show KswPost _ _ _ _ _ _ _ _ _ _ _ _ _ _)); first | (k_unfold; (try dsimp only)) | (k_end; wrow_close) | walk1 | (dsimp only; walk1) | (leave1; walk_say "STEP leave1"; try dsimp only) | fail "no step")
    rename News _ _ _ _ => Nq4
    k_dflt (refine ne_same Nq4 (by k_mem) (by k_mem) hIu hI6 (by ke_room) ?_)
    rename News _ _ _ _ => Nq4
    replace Nq4 := news_drop1 (news_drop1' Nq4)
    (try dsimp only)
    (try k_fold)
    repeat' (first | (fail_if_success (with_reducible show wpAny _ _ (PySem.call (Value.ref _) _ _) _ _ _)); (fail_if_success (with_reducible show wpAny _ _ (compareOp _ (Value.ref _) (Value.ref _)) _ _ _)); (fail_if_success (with_reducible show wpAny _ _ (PySem.eval (Expr.ListComp _ _ _ _) _) _ _ _)); (fail_if_success (with_reducible show InvPostN _ _ _ _ _ _ _ _ _)); (fail_if_success (with_reducible show KswPost _ _ _ _ _ _ _ _ _ _ _ _ _ _)); first | (k_unfold; (try dsimp only)) | (k_end; wrow_close) | walk1 | (dsimp only; walk1) | (leave1; walk_say "STEP leave1"; try dsimp only) | fail "no step")
    (rename News _ _ _ _ => Nc); k_dflt (refine' Con.use (row_spec' (N := fib n) _ _ _ (fibs_get0 (by omega)) (by omega) (by omega) (fib_fits (by omega))) ?kB14 ?kF14 ?kX14 Nc ?kT14 ?kK14 ?kd14 ?ku14 ?kR14); (case kB14 => k_asm); (case kF14 => k_asm); (case kX14 => k_asm); (case kT14 => k_asm); (case kK14 => first | exact rfl | assumption); (case kd14 => ktr_room); (case ku14 => ktr_units)
    unfold RetL
    intro l7 us7 na7 h7' tk7' F7 N7 al7 hI7
    have o7 : lt1 < l7 := al7 (lt1, _) (by k_mem)
    clear al7
    (try dsimp only)
    (try k_fold)
    repeat' (first | (fail_if_success (with_reducible show wpAny _ _ (PySem.call (Value.ref _) _ _) _ _ _)); (fail_if_success (with_reducible show wpAny _ _ (compareOp _ (Value.ref _) (Value.ref _)) _ _ _)); (fail_if_success (with_reducible show wpAny _ _ (PySem.eval (Expr.ListComp _ _ _ _) _) _ _ _)); (fail_if_success (with_reducible show InvPostN _ _ _ _ _ _ _ _ _)); (fail_if_success (with_reducible show KswPost _ _ _ _ _ _ _ _ _ _ _ _ _ _)); first | (k_unfold; (try dsimp only)) | (k_end; wrow_close) | walk1 | (dsimp only; walk1) | (leave1; walk_say "STEP leave1"; try dsimp only) | fail "no step")
    (rename News _ _ _ _ => Nc); k_dflt (refine' Con.use (row_spec' (N := fib (n + 1)) _ _ _ (fibs_get1 (by omega)) (by omega) (by omega) (fib_fits (by omega))) ?kB15 ?kF15 ?kX15 Nc ?kT15 ?kK15 ?kd15 ?ku15 ?kR15); (case kB15 => k_asm); (case kF15 => k_asm); (case kX15 => k_asm); (case kT15 => k_asm); (case kK15 => first | exact rfl | assumption); (case kd15 => ktr_room); (case ku15 => ktr_units)
    unfold RetL
    intro l8 us8 na8 h8' tk8' F8 N8 al8 hI8
    have o8 : lt1 < l8 := al8 (lt1, _) (by k_mem)
    clear al8
    (try dsimp only)
    (try k_fold)
    repeat' (first | (fail_if_success (with_reducible show wpAny _ _ (PySem.call (Value.ref _) _ _) _ _ _)); (fail_if_success (with_reducible show wpAny _ _ (compareOp _ (Value.ref _) (Value.ref _)) _ _ _)); (fail_if_success (with_reducible show wpAny _ _ (PySem.eval (Expr.ListComp _ _ _ _) _) _ _ _)); (fail_if_success (with_reducible show InvPostN _ _ _ _ _ _ _ _ _)); (fail_if_success (with_reducible show KswPost _ _ _ _ _ _ _ _ _ _ _ _ _ _)); first | (k_unfold; (try dsimp only)) | (k_end; wrow_close) | walk1 | (dsimp only; walk1) | (leave1; walk_say "STEP leave1"; try dsimp only) | fail "no step")
    rename News _ _ _ _ => Nq5
    obtain ⟨lpr, epr⟩ := news_head Nq5
    subst epr
    replace Nq5 := news_mid Nq5
    (rename News _ _ _ _ => Nc); k_dflt (refine' Con.use (dbl_spec (lt := lt1) (r := n) (j := ju) _ _ _ ?mf4 ?mp4 ?ma4 ?mb4 mem4' (ownOff_cons (by k_ne) (ownOff_cons (Nat.ne_of_gt o8) (ownOff_cons (Nat.ne_of_gt o7) (ownOff_cons (by k_ne) (ownOff_cons (by k_ne) (ownOff_cons (by k_ne) (ownOff_cons (by k_ne) (ownOff_cons (by k_ne) (ownOff_cons (by k_ne) (ownOff_cons (by k_ne) ownOff_nil)))))))))) hmul hI7 hI8 htu (by omega) (by omega) (by omega) (by omega)) ?kB16 ?kF16 ?kX16 Nc ?kT16 ?kK16 ?kd16 ?ku16 ?kR16); (case kB16 => k_asm); (case kF16 => k_asm); (case kX16 => k_asm); (case kT16 => k_asm); (case kK16 => first | exact rfl | assumption); (case kd16 => ktr_room); (case ku16 => ktr_units)
    case mf4 => k_mem
    case mp4 => exact List.Mem.head _
    case ma4 => k_mem
    case mb4 => k_mem
    unfold RetDbl
    intro ldr ld1 ld2 usd1 usd2 tsd nd1 nd2 ntd hpd tkd Fd Nd pqd1 pqd2 pqd3 od1 od2 od3 hId1 hId2 htd
    clear pqd1
    clear pqd2
    clear pqd3
    (try dsimp only)
    (try k_fold)
    repeat' (first | (fail_if_success (with_reducible show wpAny _ _ (PySem.call (Value.ref _) _ _) _ _ _)); (fail_if_success (with_reducible show wpAny _ _ (compareOp _ (Value.ref _) (Value.ref _)) _ _ _)); (fail_if_success (with_reducible show wpAny _ _ (PySem.eval (Expr.ListComp _ _ _ _) _) _ _ _)); (fail_if_success (with_reducible show InvPostN _ _ _ _ _ _ _ _ _)); (fail_if_success (with_reducible show KswPost _ _ _ _ _ _ _ _ _ _ _ _ _ _)); first | (k_unfold; (try dsimp only)) | (k_end; wrow_close) | walk1 | (dsimp only; walk1) | (leave1; walk_say "STEP leave1"; try dsimp only) | fail "no step")
    (rename News _ _ _ _ => Nc); k_dflt (refine' Con.use (row_spec' (N := fib (2 * n)) _ _ _ (fibs_get2 (by omega)) (by omega) (by omega) (fib_fits (by omega))) ?kB17 ?kF17 ?kX17 Nc ?kT17 ?kK17 ?kd17 ?ku17 ?kR17); (case kB17 => k_asm); (case kF17 => k_asm); (case kX17 => k_asm); (case kT17 => k_asm); (case kK17 => first | exact rfl | assumption); (case kd17 => ktr_room); (case ku17 => ktr_units)
    unfold RetL
    intro l9 us9 na9 h9' tk9' F9 N9 al9 hI9
    clear al9
    (try dsimp only)
    (try k_fold)
    repeat' (first | (fail_if_success (with_reducible show wpAny _ _ (PySem.call (Value.ref _) _ _) _ _ _)); (fail_if_success (with_reducible show wpAny _ _ (compareOp _ (Value.ref _) (Value.ref _)) _ _ _)); (fail_if_success (with_reducible show wpAny _ _ (PySem.eval (Expr.ListComp _ _ _ _) _) _ _ _)); (fail_if_success (with_reducible show InvPostN _ _ _ _ _ _ _ _ _)); (fail_if_success (with_reducible show KswPost _ _ _ _ _ _ _ _ _ _ _ _ _ _)); first | (k_unfold; (try dsimp only)) | (k_end; wrow_close) | walk1 | (dsimp only; walk1) | (leave1; walk_say "STEP leave1"; try dsimp only) | fail "no step")
    (rename News _ _ _ _ => Nc); k_dflt (refine' Con.use (row_spec' (N := fib (2 * n + 1)) _ _ _ (fibs_get3 (by omega)) (by omega) (by omega) (fib_fits (by omega))) ?kB18 ?kF18 ?kX18 Nc ?kT18 ?kK18 ?kd18 ?ku18 ?kR18); (case kB18 => k_asm); (case kF18 => k_asm); (case kX18 => k_asm); (case kT18 => k_asm); (case kK18 => first | exact rfl | assumption); (case kd18 => ktr_room); (case ku18 => ktr_units)
    unfold RetL
    intro l10 us10 na10 h10' tk10' F10 N10 al10 hI10
    clear al10
    (try dsimp only)
    (try k_fold)
    repeat' (first | (fail_if_success (with_reducible show wpAny _ _ (PySem.call (Value.ref _) _ _) _ _ _)); (fail_if_success (with_reducible show wpAny _ _ (compareOp _ (Value.ref _) (Value.ref _)) _ _ _)); (fail_if_success (with_reducible show wpAny _ _ (PySem.eval (Expr.ListComp _ _ _ _) _) _ _ _)); (fail_if_success (with_reducible show InvPostN _ _ _ _ _ _ _ _ _)); (fail_if_success (with_reducible show KswPost _ _ _ _ _ _ _ _ _ _ _ _ _ _)); first | (k_unfold; (try dsimp only)) | (k_end; wrow_close) | walk1 | (dsimp only; walk1) | (leave1; walk_say "STEP leave1"; try dsimp only) | fail "no step")
    rename News _ _ _ _ => Nq6
    k_dflt (refine ne_pair Nq6 (by k_mem) (by k_mem) (by k_mem) (by k_mem) (by k_mem) (by k_mem) hId1 hId2 hI9 hI10 (by ke_room) ?_)
    rename News _ _ _ _ => Nq6
    (try dsimp only)
    (try k_fold)
    repeat' (first | (fail_if_success (with_reducible show wpAny _ _ (PySem.call (Value.ref _) _ _) _ _ _)); (fail_if_success (with_reducible show wpAny _ _ (compareOp _ (Value.ref _) (Value.ref _)) _ _ _)); (fail_if_success (with_reducible show wpAny _ _ (PySem.eval (Expr.ListComp _ _ _ _) _) _ _ _)); (fail_if_success (with_reducible show InvPostN _ _ _ _ _ _ _ _ _)); (fail_if_success (with_reducible show KswPost _ _ _ _ _ _ _ _ _ _ _ _ _ _)); first | (k_unfold; (try dsimp only)) | (k_end; wrow_close) | walk1 | (dsimp only; walk1) | (leave1; walk_say "STEP leave1"; try dsimp only) | fail "no step")
    rename News _ _ _ _ => Nq7
    replace Nq7 := news_drop10 Nq7
    k_dflt (refine wpAny_call ?_; refine' code_defT ?k1 ?k2 ?k3 ?k4 ?k5 ?kA ?kF ?kK ?k6 ?k7 ?k8 ?k9 ?kB ?_ ?c2 ?c3 ?c4 ?c5; (case kA => exact rfl); (case kF => exact rfl); (case kK => exact rfl); (case k1 => k_asm); (case k2 => k_asm); (case k3 => k_asm); (case k4 => k_asm); (case k5 => k_asm); (case k6 => k_is); (case k7 => k_is); (case k8 => k_room); (case k9 => first | exact BindsTo.of_eq rfl | exact binds_K (by k_in) rfl (by k_is) rfl rfl rfl); (case kB => exact locs rfl); (case c2 => exact rfl); (case c3 => exact rfl); (case c4 => exact rfl); (case c5 => decide); k_whole; intro g' L' h' FG' F' N' B' X' T' D'; (try dsimp only); (try k_lift B'); (try k_fold))
    repeat' (first | (fail_if_success (with_reducible show wpAny _ _ (PySem.call (Value.ref _) _ _) _ _ _)); (fail_if_success (with_reducible show wpAny _ _ (compareOp _ (Value.ref _) (Value.ref _)) _ _ _)); (fail_if_success (with_reducible show wpAny _ _ (PySem.eval (Expr.ListComp _ _ _ _) _) _ _ _)); (fail_if_success (with_reducible show InvPostN _ _ _ _ _ _ _ _ _)); (fail_if_success (with_reducible show KswPost _ _ _ _ _ _ _ _ _ _ _ _ _ _)); first | (k_unfold; (try dsimp only)) | (k_end; wrow_close) | walk1 | (dsimp only; walk1) | (leave1; walk_say "STEP leave1"; try dsimp only) | fail "no step")
    walk1
    repeat' (first | (fail_if_success (with_reducible show wpAny _ _ (PySem.call (Value.ref _) _ _) _ _ _)); (fail_if_success (with_reducible show wpAny _ _ (compareOp _ (Value.ref _) (Value.ref _)) _ _ _)); (fail_if_success (with_reducible show wpAny _ _ (PySem.eval (Expr.ListComp _ _ _ _) _) _ _ _)); (fail_if_success (with_reducible show InvPostN _ _ _ _ _ _ _ _ _)); (fail_if_success (with_reducible show KswPost _ _ _ _ _ _ _ _ _ _ _ _ _ _)); first | (k_unfold; (try dsimp only)) | (k_end; wrow_close) | walk1 | (dsimp only; walk1) | (leave1; walk_say "STEP leave1"; try dsimp only) | fail "no step")
    walk1
    repeat' (first | (fail_if_success (with_reducible show wpAny _ _ (PySem.call (Value.ref _) _ _) _ _ _)); (fail_if_success (with_reducible show wpAny _ _ (compareOp _ (Value.ref _) (Value.ref _)) _ _ _)); (fail_if_success (with_reducible show wpAny _ _ (PySem.eval (Expr.ListComp _ _ _ _) _) _ _ _)); (fail_if_success (with_reducible show InvPostN _ _ _ _ _ _ _ _ _)); (fail_if_success (with_reducible show KswPost _ _ _ _ _ _ _ _ _ _ _ _ _ _)); first | (k_unfold; (try dsimp only)) | (k_end; wrow_close) | walk1 | (dsimp only; walk1) | (leave1; walk_say "STEP leave1"; try dsimp only) | fail "no step")
    walk1
    repeat' (first | (fail_if_success (with_reducible show wpAny _ _ (PySem.call (Value.ref _) _ _) _ _ _)); (fail_if_success (with_reducible show wpAny _ _ (compareOp _ (Value.ref _) (Value.ref _)) _ _ _)); (fail_if_success (with_reducible show wpAny _ _ (PySem.eval (Expr.ListComp _ _ _ _) _) _ _ _)); (fail_if_success (with_reducible show InvPostN _ _ _ _ _ _ _ _ _)); (fail_if_success (with_reducible show KswPost _ _ _ _ _ _ _ _ _ _ _ _ _ _)); first | (k_unfold; (try dsimp only)) | (k_end; wrow_close) | walk1 | (dsimp only; walk1) | (leave1; walk_say "STEP leave1"; try dsimp only) | fail "no step")
    walk1
    repeat' (first | (fail_if_success (with_reducible show wpAny _ _ (PySem.call (Value.ref _) _ _) _ _ _)); (fail_if_success (with_reducible show wpAny _ _ (compareOp _ (Value.ref _) (Value.ref _)) _ _ _)); (fail_if_success (with_reducible show wpAny _ _ (PySem.eval (Expr.ListComp _ _ _ _) _) _ _ _)); (fail_if_success (with_reducible show InvPostN _ _ _ _ _ _ _ _ _)); (fail_if_success (with_reducible show KswPost _ _ _ _ _ _ _ _ _ _ _ _ _ _)); first | (k_unfold; (try dsimp only)) | (k_end; wrow_close) | walk1 | (dsimp only; walk1) | (leave1; walk_say "STEP leave1"; try dsimp only) | fail "no step")
    k_dflt (refine wpAny_call ?_; refine' code_defT ?k1 ?k2 ?k3 ?k4 ?k5 ?kA ?kF ?kK ?k6 ?k7 ?k8 ?k9 ?kB ?_ ?c2 ?c3 ?c4 ?c5; (case kA => exact rfl); (case kF => exact rfl); (case kK => exact rfl); (case k1 => k_asm); (case k2 => k_asm); (case k3 => k_asm); (case k4 => k_asm); (case k5 => k_asm); (case k6 => k_is); (case k7 => k_is); (case k8 => k_room); (case k9 => first | exact BindsTo.of_eq rfl | exact binds_K (by k_in) rfl (by k_is) rfl rfl rfl); (case kB => exact locs rfl); (case c2 => exact rfl); (case c3 => exact rfl); (case c4 => exact rfl); (case c5 => decide); k_whole; intro g' L' h' FG' F' N' B' X' T' D'; (try dsimp only); (try k_lift B'); (try k_fold))
    repeat' (first | (fail_if_success (with_reducible show wpAny _ _ (PySem.call (Value.ref _) _ _) _ _ _)); (fail_if_success (with_reducible show wpAny _ _ (compareOp _ (Value.ref _) (Value.ref _)) _ _ _)); (fail_if_success (with_reducible show wpAny _ _ (PySem.eval (Expr.ListComp _ _ _ _) _) _ _ _)); (fail_if_success (with_reducible show InvPostN _ _ _ _ _ _ _ _ _)); (fail_if_success (with_reducible show KswPost _ _ _ _ _ _ _ _ _ _ _ _ _ _)); first | (k_unfold; (try dsimp only)) | (k_end; wrow_close) | walk1 | (dsimp only; walk1) | (leave1; walk_say "STEP leave1"; try dsimp only) | fail "no step")
    walk1
    repeat' (first | (fail_if_success (with_reducible show wpAny _ _ (PySem.call (Value.ref _) _ _) _ _ _)); (fail_if_success (with_reducible show wpAny _ _ (compareOp _ (Value.ref _) (Value.ref _)) _ _ _)); (fail_if_success (with_reducible show wpAny _ _ (PySem.eval (Expr.ListComp _ _ _ _) _) _ _ _)); (fail_if_success (with_reducible show InvPostN _ _ _ _ _ _ _ _ _)); (fail_if_success (with_reducible show KswPost _ _ _ _ _ _ _ _ _ _ _ _ _ _)); first | (k_unfold; (try dsimp only)) | (k_end; wrow_close) | walk1 | (dsimp only; walk1) | (leave1; walk_say "STEP leave1"; try dsimp only) | fail "no step")
    walk1
    repeat' (first | (fail_if_success (with_reducible show wpAny _ _ (PySem.call (Value.ref _) _ _) _ _ _)); (fail_if_success (with_reducible show wpAny _ _ (compareOp _ (Value.ref _) (Value.ref _)) _ _ _)); (fail_if_success (with_reducible show wpAny _ _ (PySem.eval (Expr.ListComp _ _ _ _) _) _ _ _)); (fail_if_success (with_reducible show InvPostN _ _ _ _ _ _ _ _ _)); (fail_if_success (with_reducible show KswPost _ _ _ _ _ _ _ _ _ _ _ _ _ _)); first | (k_unfold; (try dsimp only)) | (k_end; wrow_close) | walk1 | (dsimp only; walk1) | (leave1; walk_say "STEP leave1"; try dsimp only) | fail "no step")
    walk1
    repeat' (first | (fail_if_success (with_reducible show wpAny _ _ (PySem.call (Value.ref _) _ _) _ _ _)); (fail_if_success (with_reducible show wpAny _ _ (compareOp _ (Value.ref _) (Value.ref _)) _ _ _)); (fail_if_success (with_reducible show wpAny _ _ (PySem.eval (Expr.ListComp _ _ _ _) _) _ _ _)); (fail_if_success (with_reducible show InvPostN _ _ _ _ _ _ _ _ _)); (fail_if_success (with_reducible show KswPost _ _ _ _ _ _ _ _ _ _ _ _ _ _)); first | (k_unfold; (try dsimp only)) | (k_end; wrow_close) | walk1 | (dsimp only; walk1) | (leave1; walk_say "STEP leave1"; try dsimp only) | fail "no step")
    walk1
    repeat' (first | (fail_if_success (with_reducible show wpAny _ _ (PySem.call (Value.ref _) _ _) _ _ _)); (fail_if_success (with_reducible show wpAny _ _ (compareOp _ (Value.ref _) (Value.ref _)) _ _ _)); (fail_if_success (with_reducible show wpAny _ _ (PySem.eval (Expr.ListComp _ _ _ _) _) _ _ _)); (fail_if_success (with_reducible show LeaveS0 _ _ _ _ _ _ _ _)); (fail_if_success (with_reducible show InvPostN _ _ _ _ _ _ _ _ _)); (fail_if_success (with_reducible show KswPost _ _ _ _ _ _ _ _ _ _ _ _ _ _)); first | (k_unfold; (try dsimp only)) | (k_end; wrow_close) | walk1 | (dsimp only; walk1) | (leave1; walk_say "STEP leave1"; try dsimp only) | fail "no step")
    dsimp only
    walk1
    repeat' (first | (fail_if_success (with_reducible show wpAny _ _ (PySem.call (Value.ref _) _ _) _ _ _)); (fail_if_success (with_reducible show wpAny _ _ (compareOp _ (Value.ref _) (Value.ref _)) _ _ _)); (fail_if_success (with_reducible show wpAny _ _ (PySem.eval (Expr.ListComp _ _ _ _) _) _ _ _)); (fail_if_success (with_reducible show _ ∧ GrownAll _ _)); (fail_if_success (with_reducible show InvPostN _ _ _ _ _ _ _ _ _)); (fail_if_success (with_reducible show KswPost _ _ _ _ _ _ _ _ _ _ _ _ _ _)); first | (k_unfold; (try dsimp only)) | (k_end; wrow_close) | walk1 | (dsimp only; walk1) | (leave1; walk_say "STEP leave1"; try dsimp only) | fail "no step")
    refine ⟨goodW_bool (by assumption) (by assumption) (raisesW_false ?hraise) ?hpost, GrownAt.of (by k_asm) (by k_mem), trivial⟩
    case hraise => wrow_none_raised
    case hpost => exact post_true _)
end Mine

theorem PySem.Challenge.cw_nn0002_01_holds : PySem.Challenge.rw_nn0002_01.Holds := by
  exact Mine.law_walk
