import PyProof.Rows.All
import Wide.All
import OpenK.AllK
import Wide.FinOn
import HandS.ForMost
import HandS.Star
import HandS.SlotsOwn
import HandS.OwnEq
import HandS.Wide
import HandS.TupAny
import HandS.TupMul
import HandS.Style
import PyProof.FactsAll.object_2
import PyProof.SumWalkG
import HandS.Codes
import HandS.IsInst
import HandS.Property
import HandS.ClsMeth
import HandS.Zip
import HandS.FStr
import PySem.Challenge.RW_loopgrowth_k59_whole_polynomials_are_the
set_option Elab.async false
set_option linter.all false
set_option maxRecDepth 100000
set_option maxHeartbeats 4000000
/-! Polynomials as lists of ints, the constant first: plain mathematics. -/
namespace Lg

/-- the value at n -/
def ev : List Int → Int → Int
  | [], _ => 0
  | c :: cs, n => ev cs n * n + c
/-- without the zeros at the end -/
def trim : List Int → List Int
  | [] => []
  | c :: cs => if trim cs = [] ∧ c = 0 then [] else c :: trim cs
def addL : List Int → List Int → List Int
  | [], bs => bs
  | a :: as, [] => a :: as
  | a :: as, b :: bs => (a + b) :: addL as bs
/-- the places that product_at looks at -/
def spots (f s : List Int) (p : Int) : List Nat := (List.range f.length).filter fun (i : Nat) => decide (0 ≤ p - (i : Int)) && decide (p - (i : Int) < (s.length : Int))
def coefAt (f s : List Int) (p : Int) : Int := ((spots f s p).map fun i => f.getD i 0 * s.getD (p - (i : Int)).toNat 0).sum
def mulL (f s : List Int) : List Int := if f = [] ∨ s = [] then [] else (List.range (f.length + s.length - 1)).map fun (p : Nat) => coefAt f s (p : Int)
def powL (cs : List Int) : Nat → List Int
  | 0 => [1]
  | k + 1 => mulL (powL cs k) cs
def innerL : List Int → List Int → List Int
  | [], _ => []
  | c :: cs, i => addL (mulL (innerL cs i) i) [c]
def padd (a b : List Int) : List Int := trim (addL a b)
def pmul (a b : List Int) : List Int := trim (mulL a b)
def ppow (a : List Int) (k : Nat) : List Int := trim (powL a k)
def pat (a b : List Int) : List Int := trim (innerL a b)

def NN (cs : List Int) : Prop := ∀ c ∈ cs, 0 ≤ c
theorem NN.tail {c : Int} {cs : List Int} (h : NN (c :: cs)) : NN cs := fun x hx => h x (List.mem_cons_of_mem _ hx)
theorem NN.head {c : Int} {cs : List Int} (h : NN (c :: cs)) : 0 ≤ c := h c List.mem_cons_self
theorem NN.cons {c : Int} {cs : List Int} (h : 0 ≤ c) (t : NN cs) : NN (c :: cs) := fun x hx => by
  rcases List.mem_cons.mp hx with e | e
  · rw [e]; exact h
  · exact t x e
theorem NN.nil : NN [] := fun _ h => by cases h
theorem NN.drop {cs : List Int} (h : NN cs) (k : Nat) : NN (cs.drop k) := fun c hc => h c (List.mem_of_mem_drop hc)

/-! ### trim -/
theorem ev_trim (cs : List Int) (n : Int) : ev (trim cs) n = ev cs n := by
  induction cs with
  | nil => rfl
  | cons c cs ih =>
    unfold trim
    split
    · rename_i h
      rw [h.1] at ih
      simp only [ev] at ih ⊢
      rw [← ih, h.2]; omega
    · simp only [ev, ih]
theorem nn_trim {cs : List Int} (h : NN cs) : NN (trim cs) := by
  induction cs with
  | nil => exact h
  | cons c cs ih =>
    unfold trim
    split
    · exact NN.nil
    · exact NN.cons h.head (ih h.tail)
theorem len_trim (cs : List Int) : (trim cs).length ≤ cs.length := by
  induction cs with
  | nil => exact Nat.le_refl _
  | cons c cs ih =>
    unfold trim
    split
    · exact Nat.zero_le _
    · simp only [List.length_cons]; omega
theorem trim_trim (cs : List Int) : trim (trim cs) = trim cs := by
  induction cs with
  | nil => rfl
  | cons c cs ih =>
    by_cases h : trim cs = [] ∧ c = 0
    · have e : trim (c :: cs) = [] := by rw [trim, if_pos h]
      rw [e]; rfl
    · have e : trim (c :: cs) = c :: trim cs := by rw [trim, if_neg h]
      rw [e, trim, ih, if_neg h]
/-- what the loop of trimmed finds -/
theorem trim_take (cs : List Int) : ∀ (k : Nat), k ≤ cs.length → (∀ j, k ≤ j → j < cs.length → cs.getD j 0 = 0) → (k = 0 ∨ cs.getD (k - 1) 0 ≠ 0) → cs.take k = trim cs := by
  induction cs with
  | nil => intro k _ _ _; simp [trim]
  | cons c cs ih =>
    intro k hk hz hl
    cases k with
    | zero =>
      have e : cs.take 0 = trim cs := ih 0 (Nat.zero_le _) (fun j h1 h2 => by simpa using hz (j + 1) (by omega) (by simpa using h2)) (.inl rfl)
      have c0 : c = 0 := by simpa using hz 0 (Nat.le_refl _) (by simp)
      have e2 : trim cs = [] := by rw [← e]; simp
      unfold trim
      rw [if_pos ⟨e2, c0⟩]; rfl
    | succ k =>
      by_cases h0 : k = 0
      · subst h0
        have cne : c ≠ 0 := by
          rcases hl with h | h
          · cases h
          · simpa using h
        have e : cs.take 0 = trim cs := ih 0 (Nat.zero_le _) (fun j h1 h2 => by simpa using hz (j + 1) (by omega) (by simpa using h2)) (.inl rfl)
        unfold trim
        rw [if_neg (fun h => cne h.2), ← e]; rfl
      · have e : cs.take k = trim cs := ih k (by simpa using hk) (fun j h1 h2 => by simpa using hz (j + 1) (by omega) (by simpa using h2)) (.inr (by
          rcases hl with h | h
          · cases h
          · obtain ⟨m, rfl⟩ : ∃ m, k = m + 1 := ⟨k - 1, by omega⟩
            simpa using h))
        have hk' : k ≤ cs.length := by simpa using hk
        have ne : trim cs ≠ [] := by
          rw [← e]
          intro q
          have := congrArg List.length q
          rw [List.length_take, List.length_nil] at this
          omega
        unfold trim
        rw [if_neg (fun h => ne h.1), ← e]; rfl

/-! ### canonical lists -/
structure Can (cs : List Int) : Prop where
  nn : NN cs
  tr : trim cs = cs
theorem can_trim {cs : List Int} (h : NN cs) : Can (trim cs) := ⟨nn_trim h, trim_trim cs⟩
theorem Can.tail {c : Int} {cs : List Int} (h : Can (c :: cs)) : Can cs := by
  refine ⟨h.nn.tail, ?_⟩
  have := h.tr
  unfold trim at this
  split at this
  · cases this
  · exact (List.cons.inj this).2
theorem can_nil : Can [] := ⟨NN.nil, rfl⟩
theorem ev_nn {cs : List Int} {n : Int} (h : NN cs) (hn : 0 ≤ n) : 0 ≤ ev cs n := by
  induction cs with
  | nil => exact Int.le_refl _
  | cons c cs ih =>
    have h1 := Int.mul_nonneg (ih h.tail) hn
    have h2 := h.head
    simp only [ev]; omega
/-- canonical and of value 0: nothing -/
theorem can_zero {cs : List Int} (h : Can cs) {B : Int} (hB : 0 < B) (e : ev cs B = 0) : cs = [] := by
  induction cs with
  | nil => rfl
  | cons c cs ih =>
    have h1 := ev_nn h.nn.tail (Int.le_of_lt hB)
    have h2 := h.nn.head
    have h3 := Int.mul_nonneg h1 (Int.le_of_lt hB)
    simp only [ev] at e
    have c0 : c = 0 := by omega
    have m0 : ev cs B * B = 0 := by omega
    have e0 : ev cs B = 0 := by
      rcases Int.mul_eq_zero.mp m0 with z | z
      · exact z
      · omega
    have n0 := ih h.tail e0
    have t := h.tr
    unfold trim at t
    rw [n0, c0] at t
    simp [trim] at t
theorem digit_split {a b c d B : Int} (hB : 0 < B) (hc : 0 ≤ c) (hc2 : c < B) (hd : 0 ≤ d) (hd2 : d < B) (e : a * B + c = b * B + d) : a = b ∧ c = d := by
  have e1 : (a * B + c) % B = c := by rw [Int.add_comm, Int.add_mul_emod_self_right, Int.emod_eq_of_lt hc hc2]
  have e2 : (b * B + d) % B = d := by rw [Int.add_comm, Int.add_mul_emod_self_right, Int.emod_eq_of_lt hd hd2]
  have ecd : c = d := by rw [← e1, e, e2]
  refine ⟨?_, ecd⟩
  have m : a * B = b * B := by omega
  exact Int.eq_of_mul_eq_mul_right (by omega) m
/-- the value at one great base tells a canonical list -/
theorem base_inj {B : Int} (hB : 0 < B) : ∀ {a b : List Int}, Can a → Can b → (∀ c ∈ a, c < B) → (∀ c ∈ b, c < B) → ev a B = ev b B → a = b
  | [], b, _, hb, _, _, e => (can_zero hb hB e.symm).symm
  | a :: as, [], ha, _, _, _, e => can_zero ha hB e
  | a :: as, b :: bs, ha, hb, la, lb, e => by
    simp only [ev] at e
    obtain ⟨e1, e2⟩ := digit_split hB ha.nn.head (la a List.mem_cons_self) hb.nn.head (lb b List.mem_cons_self) e
    rw [e2, base_inj hB ha.tail hb.tail (fun c h => la c (List.mem_cons_of_mem _ h)) (fun c h => lb c (List.mem_cons_of_mem _ h)) e1]
theorem mem_le_one {cs : List Int} (h : NN cs) : ∀ c ∈ cs, c ≤ ev cs 1 := by
  induction cs with
  | nil => intro c hc; cases hc
  | cons x xs ih =>
    intro c hc
    have h1 := ev_nn (n := 1) h.tail (by decide)
    have h2 := h.head
    simp only [ev, Int.mul_one]
    rcases List.mem_cons.mp hc with e | e
    · rw [e]; omega
    · have := ih h.tail c e; omega
theorem can_eq {a b : List Int} (ha : Can a) (hb : Can b) (e : ∀ n, ev a n = ev b n) : a = b := by
  have pa := ev_nn (n := 1) ha.nn (by decide)
  have pb := ev_nn (n := 1) hb.nn (by decide)
  refine base_inj (B := ev a 1 + ev b 1 + 1) (by omega) ha hb (fun c hc => ?_) (fun c hc => ?_) (e _)
  · have := mem_le_one ha.nn c hc; omega
  · have := mem_le_one hb.nn c hc; omega

/-! ### sums -/
theorem ev_addL (n : Int) : ∀ (a b : List Int), ev (addL a b) n = ev a n + ev b n
  | [], b => by simp [addL, ev]
  | a :: as, [] => by simp [addL, ev]
  | a :: as, b :: bs => by
    simp only [addL, ev, ev_addL n as bs]
    rw [Int.add_mul]; omega
theorem nn_addL : ∀ {a b : List Int}, NN a → NN b → NN (addL a b)
  | [], b, _, hb => hb
  | a :: as, [], ha, _ => ha
  | a :: as, b :: bs, ha, hb => by
    have h1 := ha.head
    have h2 := hb.head
    exact NN.cons (by omega) (nn_addL ha.tail hb.tail)
theorem len_addL : ∀ (a b : List Int), (addL a b).length = max a.length b.length
  | [], b => by simp [addL]
  | a :: as, [] => by simp [addL]
  | a :: as, b :: bs => by
    simp only [addL, List.length_cons, len_addL as bs]; omega
theorem addL_comm : ∀ (a b : List Int), addL a b = addL b a
  | [], [] => rfl
  | [], b :: bs => rfl
  | a :: as, [] => rfl
  | a :: as, b :: bs => by simp only [addL, addL_comm as bs, Int.add_comm]
/-- sum_in's own words -/
theorem addL_zip : ∀ (a b : List Int), b.length ≤ a.length → List.zipWith (· + ·) a (b ++ List.replicate (a.length - b.length) 0) = addL a b
  | [], [], _ => rfl
  | [], b :: bs, h => by simp at h
  | a :: as, [], _ => by
    have ih := addL_zip as [] (Nat.zero_le _)
    have e : addL as [] = as := by cases as <;> rfl
    rw [e] at ih
    simp only [List.nil_append, List.length_nil, Nat.sub_zero] at ih
    simp only [List.nil_append, List.length_cons, List.length_nil, Nat.sub_zero, List.replicate_succ, List.zipWith_cons_cons, addL, Int.add_zero, ih]
  | a :: as, b :: bs, h => by
    have h' : bs.length ≤ as.length := by simpa using h
    have ih := addL_zip as bs h'
    simp only [List.length_cons, List.cons_append, List.zipWith_cons_cons, addL]
    rw [show as.length + 1 - (bs.length + 1) = as.length - bs.length by omega, ih]

/-! ### products -/
def evG (g : Nat → Int) (n : Int) : Nat → Int
  | 0 => 0
  | N + 1 => evG g n N + g N * n ^ N
theorem evG_shift (g : Nat → Int) (n : Int) : ∀ N, evG g n (N + 1) = g 0 + n * evG (fun p => g (p + 1)) n N
  | 0 => by simp [evG]
  | N + 1 => by
    rw [evG, evG_shift g n N]
    simp only [evG]
    rw [Int.mul_add, Int.pow_succ]
    have : g (N + 1) * (n ^ N * n) = n * (g (N + 1) * n ^ N) := by
      rw [← Int.mul_assoc, Int.mul_comm]
    omega
theorem evG_congr {g h : Nat → Int} (n : Int) : ∀ N, (∀ p, p < N → g p = h p) → evG g n N = evG h n N
  | 0, _ => rfl
  | N + 1, e => by
    rw [evG, evG, evG_congr n N (fun p hp => e p (by omega)), e N (by omega)]
theorem evG_add (g h : Nat → Int) (n : Int) : ∀ N, evG (fun p => g p + h p) n N = evG g n N + evG h n N
  | 0 => rfl
  | N + 1 => by
    rw [evG, evG, evG, evG_add g h n N, Int.add_mul]; omega
theorem evG_mul (c : Int) (g : Nat → Int) (n : Int) : ∀ N, evG (fun p => c * g p) n N = c * evG g n N
  | 0 => by simp [evG]
  | N + 1 => by
    rw [evG, evG, evG_mul c g n N, Int.mul_add, Int.mul_assoc]
theorem evG_zero (n : Int) : ∀ N, evG (fun _ => 0) n N = 0
  | 0 => rfl
  | N + 1 => by rw [evG, evG_zero n N]; simp
theorem ev_evG (n : Int) : ∀ (cs : List Int) (N : Nat), cs.length ≤ N → ev cs n = evG (fun p => cs.getD p 0) n N
  | [], N, _ => by
    have : (fun p => ([] : List Int).getD p 0) = fun _ => 0 := by funext p; simp
    rw [this, evG_zero]; rfl
  | c :: cs, 0, h => by simp at h
  | c :: cs, N + 1, h => by
    rw [evG_shift, ev, ev_evG n cs N (by simpa using h)]
    have : (fun p => (c :: cs).getD (p + 1) 0) = fun p => cs.getD p 0 := by funext p; simp
    rw [this, Int.mul_comm]; simp; omega
theorem ev_range (g : Nat → Int) (n : Int) (N : Nat) : ev ((List.range N).map g) n = evG g n N := by
  rw [ev_evG n _ N (by simp)]
  refine evG_congr n N fun p hp => ?_
  simp [List.getD_eq_getElem?_getD, List.getElem?_map, List.getElem?_range hp]

theorem getD_out {s : List Int} {p : Nat} (h : s.length ≤ p) : s.getD p 0 = 0 := by
  rw [List.getD_eq_getElem?_getD, List.getElem?_eq_none h]; rfl
/-- one more coefficient ahead -/
theorem coefAt_cons (a : Int) (f s : List Int) (p : Nat) : coefAt (a :: f) s (p : Int) = a * s.getD p 0 + (if p = 0 then 0 else coefAt f s ((p - 1 : Nat) : Int)) := by
  have hr : List.range (a :: f).length = 0 :: (List.range f.length).map Nat.succ := by
    rw [List.length_cons, List.range_succ_eq_map]
  have hs : spots (a :: f) s (p : Int) = (if p < s.length then [0] else []) ++ (if p = 0 then [] else (spots f s ((p - 1 : Nat) : Int)).map Nat.succ) := by
    unfold spots
    rw [hr, List.filter_cons]
    have t0 : (decide (0 ≤ (p : Int) - ((0 : Nat) : Int)) && decide ((p : Int) - ((0 : Nat) : Int) < (s.length : Int))) = decide (p < s.length) := by
      have h1 : (0 : Int) ≤ (p : Int) - ((0 : Nat) : Int) := by omega
      rw [decide_eq_true h1, Bool.true_and]
      exact decide_eq_decide.mpr (by omega)
    rw [t0]
    have t1 : ((List.range f.length).map Nat.succ).filter (fun (i : Nat) => decide (0 ≤ (p : Int) - (i : Int)) && decide ((p : Int) - (i : Int) < (s.length : Int))) =
        (if p = 0 then [] else (((List.range f.length).filter fun (i : Nat) => decide (0 ≤ ((p - 1 : Nat) : Int) - (i : Int)) && decide (((p - 1 : Nat) : Int) - (i : Int) < (s.length : Int)))).map Nat.succ) := by
      rw [List.filter_map]
      by_cases hp : p = 0
      · rw [if_pos hp]
        rw [List.map_eq_nil_iff, List.filter_eq_nil_iff]
        intro i _
        simp only [Function.comp, Bool.and_eq_true, decide_eq_true_eq]
        omega
      · rw [if_neg hp]
        congr 1
        refine List.filter_congr fun i _ => ?_
        simp only [Function.comp]
        have e1 : decide (0 ≤ (p : Int) - ((Nat.succ i : Nat) : Int)) = decide (0 ≤ ((p - 1 : Nat) : Int) - (i : Int)) := decide_eq_decide.mpr (by omega)
        have e2 : decide ((p : Int) - ((Nat.succ i : Nat) : Int) < (s.length : Int)) = decide (((p - 1 : Nat) : Int) - (i : Int) < (s.length : Int)) := decide_eq_decide.mpr (by omega)
        rw [e1, e2]
    rw [t1]
    by_cases hl : p < s.length
    · rw [if_pos (decide_eq_true hl), if_pos hl]; rfl
    · rw [if_neg (by simpa using hl), if_neg hl]; rfl
  unfold coefAt
  rw [hs, List.map_append, List.sum_append]
  congr 1
  · by_cases hl : p < s.length
    · rw [if_pos hl]; simp
    · rw [if_neg hl, getD_out (by omega)]; simp
  · by_cases hp : p = 0
    · rw [if_pos hp, if_pos hp]; rfl
    · rw [if_neg hp, if_neg hp, List.map_map]
      congr 1
      refine List.map_congr_left fun i _ => ?_
      simp only [Function.comp]
      have e : ((p : Int) - ((Nat.succ i : Nat) : Int)) = (((p - 1 : Nat) : Int) - (i : Int)) := by omega
      rw [e]; simp
theorem coefAt_nil (s : List Int) (p : Int) : coefAt [] s p = 0 := rfl
theorem ev_coef (s : List Int) (hs : s ≠ []) (n : Int) : ∀ (f : List Int) (N : Nat), f.length + s.length ≤ N + 1 → evG (fun p => coefAt f s (p : Int)) n N = ev f n * ev s n
  | [], N, _ => by
    have : (fun (p : Nat) => coefAt [] s (p : Int)) = fun _ => 0 := by funext p; rfl
    rw [this, evG_zero]; simp [ev]
  | a :: f, N, h => by
    have l1 : 0 < s.length := List.length_pos_iff.mpr hs
    simp only [List.length_cons] at h
    have e : (fun (p : Nat) => coefAt (a :: f) s (p : Int)) = fun (p : Nat) => a * s.getD p 0 + (if p = 0 then 0 else coefAt f s ((p - 1 : Nat) : Int)) := by
      funext p; exact coefAt_cons a f s p
    rw [e, evG_add, evG_mul, ← ev_evG n s N (by omega)]
    obtain ⟨M, rfl⟩ : ∃ M, N = M + 1 := ⟨N - 1, by omega⟩
    rw [evG_shift]
    have e2 : (fun (p : Nat) => (if p + 1 = 0 then (0 : Int) else coefAt f s ((p + 1 - 1 : Nat) : Int))) = fun (p : Nat) => coefAt f s (p : Int) := by
      funext p
      rw [if_neg (by omega)]; rfl
    rw [e2, ev_coef s hs n f M (by omega)]
    simp only [ev]
    rw [Int.add_mul, Int.mul_assoc, Int.mul_comm n, Int.mul_assoc, if_pos True.intro]
    have : ev f n * (ev s n * n) = ev f n * (n * ev s n) := by rw [Int.mul_comm (ev s n) n]
    omega
theorem ev_mulL (f s : List Int) (n : Int) : ev (mulL f s) n = ev f n * ev s n := by
  unfold mulL
  split
  · rename_i h
    rcases h with h | h
    · rw [h]; simp [ev]
    · rw [h]; simp [ev]
  · rename_i h
    have hs : s ≠ [] := fun e => h (.inr e)
    have hf : f ≠ [] := fun e => h (.inl e)
    rw [ev_range, ev_coef s hs n f _ (by have := List.length_pos_iff.mpr hf; omega)]
theorem getD_nn {cs : List Int} (h : NN cs) (i : Nat) : 0 ≤ cs.getD i 0 := by
  rw [List.getD_eq_getElem?_getD]
  cases e : cs[i]? with
  | none => exact Int.le_refl _
  | some v => exact h v (List.mem_of_getElem? e)
theorem sum_nn {l : List Int} (h : NN l) : 0 ≤ l.sum := by
  induction l with
  | nil => exact Int.le_refl _
  | cons c cs ih =>
    have h1 := h.head
    have h2 := ih h.tail
    rw [List.sum_cons]; omega
theorem nn_mulL {f s : List Int} (hf : NN f) (hs : NN s) : NN (mulL f s) := by
  unfold mulL
  split
  · exact NN.nil
  · intro c hc
    obtain ⟨p, _, e⟩ := List.mem_map.mp hc
    rw [← e]
    unfold coefAt
    refine sum_nn fun x hx => ?_
    obtain ⟨i, _, e2⟩ := List.mem_map.mp hx
    rw [← e2]
    exact Int.mul_nonneg (getD_nn hf i) (getD_nn hs _)
theorem len_mulL (f s : List Int) : (mulL f s).length ≤ f.length + s.length := by
  unfold mulL
  split
  · exact Nat.zero_le _
  · rw [List.length_map, List.length_range]; omega

/-! ### powers, inner polynomials -/
theorem ev_powL (cs : List Int) (n : Int) : ∀ k, ev (powL cs k) n = ev cs n ^ k
  | 0 => by simp [powL, ev]
  | k + 1 => by rw [powL, ev_mulL, ev_powL cs n k, Int.pow_succ]
theorem nn_powL {cs : List Int} (h : NN cs) : ∀ k, NN (powL cs k)
  | 0 => NN.cons (by decide) NN.nil
  | k + 1 => nn_mulL (nn_powL h k) h
theorem len_powL (cs : List Int) : ∀ k, (powL cs k).length ≤ 1 + k * cs.length
  | 0 => by simp [powL]
  | k + 1 => by
    have h1 := len_mulL (powL cs k) cs
    have h2 := len_powL cs k
    rw [powL, Nat.succ_mul]; omega
theorem ev_innerL (i : List Int) (n : Int) : ∀ o : List Int, ev (innerL o i) n = ev o (ev i n)
  | [] => rfl
  | c :: cs => by
    rw [innerL, ev_addL, ev_mulL, ev_innerL i n cs]
    simp [ev]
theorem nn_innerL {i : List Int} (hi : NN i) : ∀ {o : List Int}, NN o → NN (innerL o i)
  | [], _ => NN.nil
  | c :: cs, h => nn_addL (nn_mulL (nn_innerL hi h.tail) hi) (NN.cons h.head NN.nil)
theorem len_innerL (i : List Int) : ∀ o : List Int, (innerL o i).length ≤ o.length * (i.length + 1)
  | [] => by simp [innerL]
  | c :: cs => by
    have h1 := len_mulL (innerL cs i) i
    have h2 := len_innerL i cs
    have e : (c :: cs).length * (i.length + 1) = cs.length * (i.length + 1) + (i.length + 1) := by rw [List.length_cons, Nat.succ_mul]
    rw [innerL, len_addL, e]
    simp only [List.length_cons, List.length_nil]
    omega

/-! ### sizes -/
theorem ev_le_pow {n : Int} {b : Nat} (h0 : 0 ≤ n) (hn : n ≤ 2 ^ b) : ∀ {cs : List Int}, NN cs → ev cs n ≤ ev cs 1 * 2 ^ (b * cs.length)
  | [], _ => by simp [ev]
  | c :: cs, h => by
    have ih := ev_le_pow h0 hn h.tail
    have p1 : (0 : Int) < 2 ^ b := Int.pow_pos (by decide)
    have p2 : (0 : Int) < 2 ^ (b * cs.length) := Int.pow_pos (by decide)
    have q0 := ev_nn h.tail h0
    have q1 := ev_nn (n := 1) h.tail (by decide)
    have c0 := h.head
    simp only [ev, Int.mul_one, List.length_cons]
    have e : (2 : Int) ^ (b * (cs.length + 1)) = 2 ^ (b * cs.length) * 2 ^ b := by rw [Nat.mul_succ, Int.pow_add]
    rw [e]
    have a1 : ev cs n * n ≤ (ev cs 1 * 2 ^ (b * cs.length)) * 2 ^ b := Int.mul_le_mul ih hn h0 (Int.mul_nonneg q1 (Int.le_of_lt p2))
    have p3 : (0 : Int) < 2 ^ (b * cs.length) * 2 ^ b := Int.mul_pos p2 p1
    have a2 : c ≤ c * (2 ^ (b * cs.length) * 2 ^ b) := by
      have := Int.mul_le_mul_of_nonneg_left (show (1 : Int) ≤ 2 ^ (b * cs.length) * 2 ^ b by omega) c0
      omega
    rw [Int.add_mul]
    have a3 : ev cs 1 * (2 ^ (b * cs.length) * 2 ^ b) = ev cs 1 * 2 ^ (b * cs.length) * 2 ^ b := by rw [Int.mul_assoc]
    omega
/-- at most L coefficients, of sum below 2 ^ k -/
structure Fit (cs : List Int) (L k : Nat) : Prop where
  nn : NN cs
  len : cs.length ≤ L
  one : ev cs 1 < 2 ^ k
theorem two_le {a b : Nat} (h : a ≤ b) : (2 : Int) ^ a ≤ 2 ^ b := by
  obtain ⟨c, rfl⟩ := Nat.exists_eq_add_of_le h
  rw [Int.pow_add]
  have p1 : (0 : Int) < 2 ^ a := Int.pow_pos (by decide)
  have p2 : (0 : Int) < 2 ^ c := Int.pow_pos (by decide)
  have := Int.mul_le_mul_of_nonneg_left (show (1 : Int) ≤ 2 ^ c by omega) (Int.le_of_lt p1)
  omega
theorem Fit.mono {cs : List Int} {L k L' k' : Nat} (h : Fit cs L k) (hL : L ≤ L') (hk : k ≤ k') : Fit cs L' k' := ⟨h.nn, Nat.le_trans h.len hL, Int.lt_of_lt_of_le h.one (two_le hk)⟩
theorem Fit.trim {cs : List Int} {L k : Nat} (h : Fit cs L k) : Fit (trim cs) L k := ⟨nn_trim h.nn, Nat.le_trans (len_trim _) h.len, by rw [ev_trim]; exact h.one⟩
theorem Fit.add {a b : List Int} {L k : Nat} (ha : Fit a L k) (hb : Fit b L k) : Fit (addL a b) L (k + 1) := by
  refine ⟨nn_addL ha.nn hb.nn, by rw [len_addL]; have := ha.len; have := hb.len; omega, ?_⟩
  rw [ev_addL, Int.pow_succ]
  have := ha.one; have := hb.one
  omega
theorem mul_lt_two {x y : Int} {k j : Nat} (hx : 0 ≤ x) (hy : 0 ≤ y) (h1 : x < 2 ^ k) (h2 : y < 2 ^ j) : x * y < 2 ^ (k + j) := by
  rw [Int.pow_add]
  have p1 : (0 : Int) < 2 ^ k := Int.pow_pos (by decide)
  have a1 : x * y ≤ 2 ^ k * y := Int.mul_le_mul_of_nonneg_right (Int.le_of_lt h1) hy
  have a2 : (2 : Int) ^ k * y < 2 ^ k * 2 ^ j := Int.mul_lt_mul_of_pos_left h2 p1
  omega
theorem Fit.mul {a b : List Int} {L M k j : Nat} (ha : Fit a L k) (hb : Fit b M j) : Fit (mulL a b) (L + M) (k + j) := by
  refine ⟨nn_mulL ha.nn hb.nn, by have := len_mulL a b; have := ha.len; have := hb.len; omega, ?_⟩
  rw [ev_mulL]
  exact mul_lt_two (ev_nn ha.nn (by decide)) (ev_nn hb.nn (by decide)) ha.one hb.one
theorem Fit.pow {a : List Int} {L k : Nat} (ha : Fit a L k) : ∀ m, Fit (powL a m) (1 + m * L) (1 + m * k)
  | 0 => ⟨nn_powL ha.nn 0, by simp [powL], by simp [powL, ev]⟩
  | m + 1 => by
    have := (Fit.pow ha m).mul ha
    rw [powL, Nat.succ_mul, Nat.succ_mul, ← Nat.add_assoc, ← Nat.add_assoc]
    exact this
theorem Fit.ev_lt {a : List Int} {L k b : Nat} {n : Int} (ha : Fit a L k) (h0 : 0 ≤ n) (hn : n ≤ 2 ^ b) : ev a n < 2 ^ (k + b * L) := by
  have h1 := ev_le_pow h0 hn ha.nn
  have p2 : (0 : Int) < 2 ^ (b * a.length) := Int.pow_pos (by decide)
  have h2 : ev a 1 * 2 ^ (b * a.length) < 2 ^ k * 2 ^ (b * a.length) := Int.mul_lt_mul_of_pos_right ha.one p2
  rw [← Int.pow_add] at h2
  have h3 : (2 : Int) ^ (k + b * a.length) ≤ 2 ^ (k + b * L) := two_le (by have := Nat.mul_le_mul_left b ha.len; omega)
  omega
theorem Fit.inner {a b : List Int} {L M k j : Nat} (ha : Fit a L k) (hb : Fit b M j) : Fit (innerL a b) (L * (M + 1)) (k + j * L) := by
  refine ⟨nn_innerL hb.nn ha.nn, Nat.le_trans (len_innerL b a) (Nat.mul_le_mul ha.len (by have := hb.len; omega)), ?_⟩
  rw [ev_innerL]
  exact ha.ev_lt (ev_nn hb.nn (by decide)) (Int.le_of_lt hb.one)
theorem Fit.drop {a : List Int} {L k : Nat} (ha : Fit a L k) (i : Nat) : Fit (a.drop i) L k := by
  refine ⟨ha.nn.drop i, by rw [List.length_drop]; have := ha.len; omega, ?_⟩
  have : ∀ (i : Nat) (a : List Int), NN a → ev (a.drop i) 1 ≤ ev a 1 := by
    intro i
    induction i with
    | zero => intro a _; exact Int.le_refl _
    | succ i ih =>
      intro a h
      cases a with
      | nil => exact Int.le_refl _
      | cons c cs =>
        have h1 := ih cs h.tail
        have h2 := h.head
        simp only [List.drop_succ_cons, ev, Int.mul_one]; omega
  exact Int.lt_of_le_of_lt (this i a ha.nn) ha.one
theorem Fit.mem {a : List Int} {L k : Nat} (ha : Fit a L k) : ∀ c ∈ a, 0 ≤ c ∧ c < 2 ^ k := fun c hc => ⟨ha.nn c hc, Int.lt_of_le_of_lt (mem_le_one ha.nn c hc) ha.one⟩
theorem Fit.getD {a : List Int} {L k : Nat} (ha : Fit a L k) (i : Nat) : 0 ≤ a.getD i 0 ∧ a.getD i 0 < 2 ^ k := by
  refine ⟨getD_nn ha.nn i, ?_⟩
  rw [List.getD_eq_getElem?_getD]
  cases e : a[i]? with
  | none => exact Int.pow_pos (by decide)
  | some v => exact (ha.mem v (List.mem_of_getElem? e)).2
theorem Fit.one_int {c : Int} {k : Nat} (h0 : 0 ≤ c) (h : c < 2 ^ k) : Fit [c] 1 k := ⟨NN.cons h0 NN.nil, Nat.le_refl _, by simpa [ev] using h⟩

/-! ### where it rises -/
theorem ev_mono {n m : Int} (h0 : 0 ≤ n) (h : n ≤ m) : ∀ {cs : List Int}, NN cs → ev cs n ≤ ev cs m
  | [], _ => Int.le_refl _
  | c :: cs, hc => by
    have ih := ev_mono h0 h hc.tail
    have := Int.mul_le_mul ih h h0 (ev_nn hc.tail (by omega))
    simp only [ev]; omega
theorem ev_pos {n : Int} (h0 : 0 < n) {cs : List Int} (h : Can cs) (ne : cs ≠ []) : 0 < ev cs n := by
  have h1 := ev_nn h.nn (Int.le_of_lt h0)
  rcases Int.lt_or_eq_of_le h1 with z | z
  · exact z
  · exact absurd (can_zero h h0 z.symm) ne
theorem ev_strict {n m : Int} (h0 : 0 ≤ n) (h : n < m) {cs : List Int} (hc : Can cs) (h2 : 2 ≤ cs.length) : ev cs n < ev cs m := by
  cases cs with
  | nil => simp at h2
  | cons c cs =>
    have ne : cs ≠ [] := by intro e; rw [e] at h2; simp at h2
    have p := ev_pos (n := m) (by omega) hc.tail ne
    have ih := ev_mono h0 (Int.le_of_lt h) hc.nn.tail
    have a1 : ev cs n * n ≤ ev cs m * n := Int.mul_le_mul_of_nonneg_right ih h0
    have a2 : ev cs m * n < ev cs m * m := Int.mul_lt_mul_of_pos_left h p
    simp only [ev]; omega
theorem ev_lt_iff {n m : Int} (h0 : 0 ≤ n) (h1 : 0 ≤ m) {cs : List Int} (hc : Can cs) (h2 : 2 ≤ cs.length) : ev cs n < ev cs m ↔ n < m := by
  constructor
  · intro h
    rcases Int.lt_or_le n m with z | z
    · exact z
    · have := ev_mono h1 z hc.nn; omega
  · intro h; exact ev_strict h0 h hc h2

/-! ### the built ways -/
theorem nn_one {c : Int} (h : 0 ≤ c) : NN [c] := NN.cons h NN.nil
theorem can_padd {a b : List Int} (ha : NN a) (hb : NN b) : Can (padd a b) := can_trim (nn_addL ha hb)
theorem can_pmul {a b : List Int} (ha : NN a) (hb : NN b) : Can (pmul a b) := can_trim (nn_mulL ha hb)
theorem can_ppow {a : List Int} (ha : NN a) (k : Nat) : Can (ppow a k) := can_trim (nn_powL ha k)
theorem can_pat {a b : List Int} (ha : NN a) (hb : NN b) : Can (pat a b) := can_trim (nn_innerL hb ha)
theorem ev_padd (a b : List Int) (n : Int) : ev (padd a b) n = ev a n + ev b n := by rw [padd, ev_trim, ev_addL]
theorem ev_pmul (a b : List Int) (n : Int) : ev (pmul a b) n = ev a n * ev b n := by rw [pmul, ev_trim, ev_mulL]
theorem ev_ppow (a : List Int) (k : Nat) (n : Int) : ev (ppow a k) n = ev a n ^ k := by rw [ppow, ev_trim, ev_powL]
theorem ev_pat (a b : List Int) (n : Int) : ev (pat a b) n = ev a (ev b n) := by rw [pat, ev_trim, ev_innerL]
theorem ev_int (c n : Int) : ev [c] n = c := by simp [ev]

section
variable {a b c : List Int} (ha : Can a) (hb : Can b) (hc : Can c)
include ha hb hc
theorem way1 : pmul (padd a b) c = padd (pmul c a) (pmul c b) := by
  refine can_eq (can_pmul (can_padd ha.nn hb.nn).nn hc.nn) (can_padd (can_pmul hc.nn ha.nn).nn (can_pmul hc.nn hb.nn).nn) fun n => ?_
  simp only [ev_padd, ev_pmul]
  rw [Int.add_mul, Int.mul_comm (ev a n), Int.mul_comm (ev b n)]
theorem way2 : pat (pat a b) c = pat a (pat b c) := by
  refine can_eq (can_pat (can_pat ha.nn hb.nn).nn hc.nn) (can_pat ha.nn (can_pat hb.nn hc.nn).nn) fun n => ?_
  simp only [ev_pat]
theorem way3 : pat (pmul a b) c = pmul (pat a c) (pat b c) := by
  refine can_eq (can_pat (can_pmul ha.nn hb.nn).nn hc.nn) (can_pmul (can_pat ha.nn hc.nn).nn (can_pat hb.nn hc.nn).nn) fun n => ?_
  simp only [ev_pat, ev_pmul]
theorem way5 : padd (padd (padd a [0]) b) c = padd c (padd b a) := by
  refine can_eq (can_padd (can_padd (can_padd ha.nn (nn_one (by decide))).nn hb.nn).nn hc.nn) (can_padd hc.nn (can_padd hb.nn ha.nn).nn) fun n => ?_
  simp only [ev_padd, ev_int]; omega
end
theorem way4 {a : List Int} (ha : Can a) : ppow (padd a [1]) 3 = padd (padd (padd (ppow a 3) (pmul (ppow a 2) [3])) (pmul a [3])) [1] := by
  have n1 := nn_one (c := 1) (by decide)
  have n3 := nn_one (c := 3) (by decide)
  refine can_eq (can_ppow (can_padd ha.nn n1).nn 3) (can_padd (can_padd (can_padd (can_ppow ha.nn 3).nn (can_pmul (can_ppow ha.nn 2).nn n3).nn).nn (can_pmul ha.nn n3).nn).nn n1) fun n => ?_
  simp only [ev_padd, ev_pmul, ev_ppow, ev_int]
  generalize ev a n = x
  grind
theorem way6 {a : List Int} (ha : Can a) : padd (padd (pmul a [1]) [0]) [] = a := by
  have n1 := nn_one (c := 1) (by decide)
  have n0 := nn_one (c := 0) (by decide)
  refine can_eq (can_padd (can_padd (can_pmul ha.nn n1).nn n0).nn NN.nil) ha fun n => ?_
  simp only [ev_padd, ev_pmul, ev_int, ev]; omega
/-- a constant factor leaves the degree -/
theorem can_map {c : Int} (h0 : 0 < c) : ∀ {b : List Int}, Can b → Can (b.map (c * ·))
  | [], _ => can_nil
  | x :: xs, h => by
    have t := can_map h0 h.tail
    refine ⟨?_, ?_⟩
    · intro y hy
      obtain ⟨z, hz, e⟩ := List.mem_map.mp hy
      rw [← e]
      exact Int.mul_nonneg (Int.le_of_lt h0) (h.nn z hz)
    · rw [List.map_cons, trim, t.tr]
      by_cases hx : xs = []
      · subst hx
        have hx0 : x ≠ 0 := by
          intro e
          have := h.tr
          rw [e] at this
          simp [trim] at this
        rw [if_neg]
        intro q
        rcases Int.mul_eq_zero.mp q.2 with z | z
        · omega
        · exact hx0 z
      · rw [if_neg]
        intro q
        exact hx (List.map_eq_nil_iff.mp q.1)
theorem ev_map (c : Int) (n : Int) : ∀ b : List Int, ev (b.map (c * ·)) n = c * ev b n
  | [] => by simp [ev]
  | x :: xs => by
    simp only [List.map_cons, ev, ev_map c n xs]
    rw [Int.mul_add, Int.mul_assoc]
theorem pmul_const {c : Int} {b : List Int} (h0 : 0 < c) (hb : Can b) : (pmul [c] b).length = b.length := by
  have e : pmul [c] b = b.map (c * ·) := by
    refine can_eq (can_pmul (nn_one (Int.le_of_lt h0)) hb.nn) (can_map h0 hb) fun n => ?_
    rw [ev_pmul, ev_int, ev_map]
  rw [e, List.length_map]
theorem pmul_nil (b : List Int) : pmul [] b = [] := by
  unfold pmul mulL
  rw [if_pos (.inl rfl)]; rfl
theorem can_const {c : Int} (h : Can [c]) : 0 < c := by
  have h0 := h.nn.head
  rcases Int.lt_or_eq_of_le h0 with z | z
  · exact z
  · exfalso
    have := h.tr
    rw [← z] at this
    simp [trim] at this
end Lg

/-! Operators on instances of the program's own classes, by the promises of their methods. -/
namespace Lo
open PySem PySem.Spec PyProof.Rows L2
open PySem.AutoSeq1 (wpAny_loadPart')
open Builtin in
theorem int_add_ins (i : Int) (t : Tok) (x C dx : Addr) : Meets (Builtin.«int.__add__» ⟨[.int i t, .ref x], []⟩) (fun _ R s => s.heap.get? x = some (PySem.W.instObj C dx) ∧ R (.ok (.ret Value.notImplemented)) s) :=
  .of_wp fun prog w A R s h => by
    obtain ⟨hp, g, d, tk, os⟩ := s
    obtain ⟨hl, h⟩ := h
    wp_walk using wpAny_loadPart' hl
    exact ⟨_, rfl, h⟩
open Builtin in
theorem int_mul_ins (i : Int) (t : Tok) (x C dx : Addr) : Meets (Builtin.«int.__mul__» ⟨[.int i t, .ref x], []⟩) (fun _ R s => s.heap.get? x = some (PySem.W.instObj C dx) ∧ R (.ok (.ret Value.notImplemented)) s) :=
  .of_wp fun prog w A R s h => by
    obtain ⟨hp, g, d, tk, os⟩ := s
    obtain ⟨hl, h⟩ := h
    wp_walk using wpAny_loadPart' hl
    exact ⟨_, rfl, h⟩
section
variable {prog : Program} {w : World} {A : Around} {E : Value → Shared → Prop} {s : Shared} {K : PySem.W.Frag} {x C L f g dx : Addr} {od : Option Obj} {op : Operator}
theorem add_declines {i : Int} {t : Tok} {Q : Value → Shared → Prop} (h : s.heap.get? x = some (PySem.W.instObj C dx)) (q : Q .notImplemented s) : wpAny (model prog w) A (call (.builtin "int.__add__") [.int i t, .ref x]) Q E s :=
  call_meets F.slot_int_add (typeIs_int s i t) F.entry_int_add (F.args_int_add_2 _ _) (int_add_ins i t x C dx) ⟨h, q⟩
theorem mul_declines {i : Int} {t : Tok} {Q : Value → Shared → Prop} (h : s.heap.get? x = some (PySem.W.instObj C dx)) (q : Q .notImplemented s) : wpAny (model prog w) A (call (.builtin "int.__mul__") [.int i t, .ref x]) Q E s :=
  call_meets F.slot_int_mul (typeIs_int s i t) F.entry_int_mul (F.args_int_mul_2 _ _) (int_mul_ins i t x C dx) ⟨h, q⟩
/-- int op instance: the int declines, the instance's reflected method answers -/
theorem refl_ins {i : Int} {t : Tok} {idl : String} {Q : Value → Shared → Prop} (X : K.In s.heap) (I : PySem.W.InstAt s.heap x (PySem.W.instObj C dx) C od) (hc : PySem.W.selfFirst K C = true)
    (hl : PySem.W.findIn K (.ref C) (PySem.dunder op.info.2) = some (some (.ref g)))
    (hs : PySem.W.findIn K (.ref C) (dunderR op.info.2) = some (some (.ref f))) (hf : PySem.W.isFn K (.ref f) = true)
    (hsub : PySem.W.subIn K (.ref C) (.type "int") = some false) (hfill : fillsNumberSlot (.type "int") op.info.2 = pure true)
    (slot : Slot "int" (PySem.dunder op.info.2) idl)
    (hd : ∀ (Q : Value → Shared → Prop), Q .notImplemented s → wpAny (model prog w) A (call (.builtin idl) [.int i t, .ref x]) Q E s)
    (h : wpAny (model prog w) A (call (.ref f) [.ref x, .int i t]) (PySem.W.CmpBack Q) E s) : wpAny (model prog w) A (binaryOp op (.int i t) (.ref x)) Q E s := by
  obtain ⟨cd, rest, hcd, hm⟩ := PySem.W.ksp_first hc
  rcases hi : op.info with ⟨sym, nm'⟩
  rw [hi] at hl hs hfill slot
  dsimp only at hl hs hfill slot
  have one := PySem.W.ksp_try X I hs hf h
  obtain ⟨hh, g', d, tt, os⟩ := s
  have L1 : PySem.W.Looks (model prog w) hh (typeOf (.ref x)) (.ref C) := I.type
  have L2 : PySem.W.Looks (model prog w) hh (typeOf (.int i t)) (.type "int") := PySem.W.Looks.of_pure rfl
  have L3 : PySem.W.Looks (model prog w) hh (fillsNumberSlot (.ref C) nm') true := PySem.W.fills_K X hcd hm hl
  have L4 : PySem.W.Looks (model prog w) hh (fillsNumberSlot (.type "int") nm') true := PySem.W.Looks.of_pure hfill
  have L5 : PySem.W.Looks (model prog w) hh (isSubtype (.ref C) (.type "int")) false := PySem.W.looks_subIn X hsub
  have L7 : PySem.W.Looks (model prog w) hh (numberSlotInPython (.type "int") nm') false := PySem.W.Looks.of_pure rfl
  have hne : (Value.type "int" == Value.ref C) = false := Bool.eq_false_iff.mpr fun q => by cases beq_iff_eq.mp q
  simp only [binaryOp, hi]
  refine wpAny_holding (wpAny_bind ?_)
  unfold binaryOp1
  refine wpAny_bind (L2.at (wpAny_bind (L1.at (wpAny_bind (L4.at ?_)))))
  simp only [hne, Bool.false_eq_true, if_false]
  ksp_lk
  refine wpAny_tryMethod_declines (typeIs_int _ i t) slot (wpAny_mono (hd (fun v s' => v = .notImplemented ∧ s' = _) ⟨rfl, rfl⟩) (fun v s' h' => ⟨h'.1, ?_⟩) fun _ _ e => e)
  obtain ⟨_, rfl⟩ := h'
  ksp_lk
  refine wpAny_mono one (fun r s' hr' => ?_) fun _ _ e => e
  obtain ⟨v, rfl, hq⟩ := hr'
  ksp_lk
  exact hq
end

/-- a two-place operation on values, wherever below the running body -/
def OpA (X : Cx) (A : Around) (f : Value → Value → Sem Value) (r : R2) : Prop :=
  ∀ (pins : List (Addr × Obj)) (s : Shared) (σ : L2.St) (H : Hp) (x y : V) (v u : Value) (Q : VK), Inv X pins σ H s → RelV x v → RelV y u → r x y H Q →
    wpAny (model X.prog X.w) A (f v u) (EP X pins σ Q) X.xe s
theorem OpA.here {X : Cx} {f : Value → Value → Sem Value} {r : R2} (h : OpA X X.A f r) : OpR X f r := h
theorem sub_here {X : Cx} {k : Nat} (hr : Room k X.A) : Sub X k X.A := ⟨hr, rfl⟩
section
variable {X : Cx} {CX : CXT} {k : Nat} {C f g : Addr} {sp : Sp} {E : XK} {op : Operator} {fo ro rc : Option Value} {A : Around}

theorem ins_at {pins : List (Addr × Obj)} {σ : L2.St} {H : Hp} {s : Shared} {a dx : Addr} {fs : List (Str × V)} (I : Inv X pins σ H s) (h : H a = some (.ins C dx fs)) : ∃ od, PySem.W.InstAt s.heap a (PySem.W.instObj C dx) C od := by
  obtain ⟨mA, J, _⟩ := ins_get I.hok h
  obtain ⟨od, J, _⟩ := J.look
  exact ⟨_, J⟩
theorem env_at {pins : List (Addr × Obj)} {σ : L2.St} {H : Hp} {s : Shared} (sb : Sub X k A) (I : Inv X pins σ H s) : Env0 X.prog X.w X.K X.mg X.base A X.stack s H := by
  have e := I.env0
  exact ⟨by rw [sb.fr]; exact e.frames, e.mod, e.bs, e.bsz, e.funs, e.frf, e.hok, e.bare⟩
theorem call_at {pins : List (Addr × Obj)} {σ : L2.St} {H : Hp} {s : Shared} {Q : VK} {us : List Value} {vs : List V} (F : FnR X.prog X.w X.K X.mg X.base CX k f sp) (sb : Sub X k A) (hx : Passes CX X E) (I : Inv X pins σ H s) (r : Vals vs us) (h : sp vs H Q E) :
    wpAny (model X.prog X.w) A (call (.ref f) us) (EP X pins σ Q) X.xe s :=
  wpAny_call (SlX.run_at F sb.room (env_at sb I) hx I r h)
theorem call_back {pins : List (Addr × Obj)} {σ : L2.St} {H : Hp} {s : Shared} {Q : VK} {us : List Value} {vs : List V} (F : FnR X.prog X.w X.K X.mg X.base CX k f sp) (sb : Sub X k A) (hx : Passes CX X E) (I : Inv X pins σ H s) (r : Vals vs us) (h : sp vs H Q E) :
    wpAny (model X.prog X.w) A (call (.ref f) us) (PySem.W.CmpBack (EP X pins σ Q)) X.xe s :=
  wpAny_mono (call_at F sb hx I r h) (fun u s' ⟨v, H', I', rv, q⟩ => SlX.cmpback rv ⟨v, H', I', rv, q⟩) fun _ _ e => e

/-- instance op instance, of one class -/
theorem op_two (F : FnR X.prog X.w X.K X.mg X.base CX k f sp) (sb : Sub X k A) (hx : Passes CX X E) (hc : PySem.W.selfFirst X.K C = true)
    (hs : PySem.W.findIn X.K (.ref C) (PySem.dunder op.info.2) = some (some (.ref f))) (hf : PySem.W.isFn X.K (.ref f) = true) :
    OpA X A (binaryOp op) (fun x y H Q => ∃ a b dx dy fs gs, x = .ref a ∧ y = .ref b ∧ H a = some (.ins C dx fs) ∧ H b = some (.ins C dy gs) ∧ sp [.ref a, .ref b] H Q E) := by
  intro pins s σ H x y v u Q I rx ry ⟨a, b, dx, dy, fs, gs, e1, e2, ha, hb, h⟩
  subst e1 e2
  cases rx
  cases ry
  obtain ⟨od, J⟩ := ins_at I ha
  obtain ⟨od', J'⟩ := ins_at I hb
  obtain ⟨m, hF⟩ := I.fr
  exact PySem.W.binop_K hF I.ok.mod.kin J J'.type hc hs hf (call_back (vs := [.ref a, .ref b]) F sb hx I (.cons rfl (.cons rfl .nil)) h)
/-- instance op int -/
theorem op_int (F : FnR X.prog X.w X.K X.mg X.base CX k f sp) (sb : Sub X k A) (hx : Passes CX X E) (hc : PySem.W.selfFirst X.K C = true)
    (hs : PySem.W.findIn X.K (.ref C) (PySem.dunder op.info.2) = some (some (.ref f))) (hf : PySem.W.isFn X.K (.ref f) = true)
    (hrr : PySem.W.findIn X.K (.ref C) (dunderR op.info.2) = some rc) (hp : rc = none ∨ ∃ g : Addr, rc = some (.ref g))
    (h1 : PySem.W.findIn X.K (.type "int") (PySem.dunder op.info.2) = some fo) (h2 : PySem.W.findIn X.K (.type "int") (dunderR op.info.2) = some ro) (hsub : PySem.W.subIn X.K (.type "int") (.ref C) = some false) :
    OpA X A (binaryOp op) (fun x y H Q => ∃ a i dx fs, x = .ref a ∧ y = .int i ∧ H a = some (.ins C dx fs) ∧ sp [.ref a, .int i] H Q E) := by
  intro pins s σ H x y v u Q I rx ry ⟨a, i, dx, fs, e1, e2, ha, h⟩
  subst e1 e2
  cases rx
  obtain ⟨t, rfl⟩ := ry
  obtain ⟨od, J⟩ := ins_at I ha
  obtain ⟨m, hF⟩ := I.fr
  exact PySem.W.ksp_binT hF I.ok.mod.kin J (T := "int") rfl hc hs hf hrr hp h1 h2 hsub (call_back (vs := [.ref a, .int i]) F sb hx I (.cons rfl (.cons ⟨t, rfl⟩ .nil)) h)
/-- int + instance -/
theorem op_radd (Fn : FnR X.prog X.w X.K X.mg X.base CX k f sp) (sb : Sub X k A) (hx : Passes CX X E) (hc : PySem.W.selfFirst X.K C = true) (hl : PySem.W.findIn X.K (.ref C) "__add__" = some (some (.ref g)))
    (hs : PySem.W.findIn X.K (.ref C) "__radd__" = some (some (.ref f))) (hf : PySem.W.isFn X.K (.ref f) = true) (hsub : PySem.W.subIn X.K (.ref C) (.type "int") = some false) :
    OpA X A (binaryOp .Add) (fun x y H Q => ∃ a i dx fs, x = .int i ∧ y = .ref a ∧ H a = some (.ins C dx fs) ∧ sp [.ref a, .int i] H Q E) := by
  intro pins s σ H x y v u Q I rx ry ⟨a, i, dx, fs, e1, e2, ha, h⟩
  subst e1 e2
  cases ry
  obtain ⟨t, rfl⟩ := rx
  obtain ⟨od, J⟩ := ins_at I ha
  have ho : s.heap.get? a = some (PySem.W.instObj C dx) := by
    obtain ⟨mA, J, _⟩ := ins_get I.hok ha
    exact J.obj
  exact refl_ins (op := .Add) I.kIn J hc hl hs hf hsub F.fills_int_add F.slot_int_add (fun Q q => add_declines ho q) (call_back (vs := [.ref a, .int i]) Fn sb hx I (.cons rfl (.cons ⟨t, rfl⟩ .nil)) h)
/-- int * instance -/
theorem op_rmul (Fn : FnR X.prog X.w X.K X.mg X.base CX k f sp) (sb : Sub X k A) (hx : Passes CX X E) (hc : PySem.W.selfFirst X.K C = true) (hl : PySem.W.findIn X.K (.ref C) "__mul__" = some (some (.ref g)))
    (hs : PySem.W.findIn X.K (.ref C) "__rmul__" = some (some (.ref f))) (hf : PySem.W.isFn X.K (.ref f) = true) (hsub : PySem.W.subIn X.K (.ref C) (.type "int") = some false) :
    OpA X A (binaryOp .Mult) (fun x y H Q => ∃ a i dx fs, x = .int i ∧ y = .ref a ∧ H a = some (.ins C dx fs) ∧ sp [.ref a, .int i] H Q E) := by
  intro pins s σ H x y v u Q I rx ry ⟨a, i, dx, fs, e1, e2, ha, h⟩
  subst e1 e2
  cases ry
  obtain ⟨t, rfl⟩ := rx
  obtain ⟨od, J⟩ := ins_at I ha
  have ho : s.heap.get? a = some (PySem.W.instObj C dx) := by
    obtain ⟨mA, J, _⟩ := ins_get I.hok ha
    exact J.obj
  exact refl_ins (op := .Mult) I.kIn J hc hl hs hf hsub F.fills_int_mul F.slot_int_mul (fun Q q => mul_declines ho q) (call_back (vs := [.ref a, .int i]) Fn sb hx I (.cons rfl (.cons ⟨t, rfl⟩ .nil)) h)
end
end Lo

/-! Tuples: t[::-1], t * k of any k; a power of a great number. -/
namespace LoT
open PySem PyProof.Rows HT
section
variable {prog : Program} {w : World} {A : Around} {E : Value → Shared → Prop} {s : Shared}
theorem lg_adjust (n : Nat) : Builtin.Slice.sliceAdjust none none (-1) (n : Int) = ((n : Int) - 1, -1) := rfl
theorem lg_places (n : Nat) : Builtin.Slice.slicePlaces ((n : Int) - 1) (-1) (-1) = n := by
  unfold Builtin.Slice.slicePlaces
  rw [if_neg (by decide)]
  split
  · rename_i h
    have : ((n : Int) - 1 - -1 - 1) / (- -1) = (n : Int) - 1 := by
      have e : (n : Int) - 1 - -1 - 1 = (n : Int) - 1 := by omega
      rw [e]
      show ((n : Int) - 1) / 1 = _
      rw [Int.ediv_one]
    rw [this]; omega
  · omega
theorem lg_pick (xs : Array Value) : ((List.range xs.size).filterMap fun (m : Nat) => xs[((xs.size : Int) - 1 + (m : Int) * -1).toNat]?).toArray = xs.toList.reverse.toArray := by
  congr 1
  have e : (List.range xs.size).filterMap (fun (m : Nat) => xs[((xs.size : Int) - 1 + (m : Int) * -1).toNat]?) = (List.range xs.size).filterMap (fun m => xs[xs.size - 1 - m]?) := by
    congr 1
    funext m
    have : ((xs.size : Int) - 1 + (m : Int) * -1).toNat = xs.size - 1 - m := by omega
    rw [this]
  rw [e]
  have h2 := PySem.W.krv_range xs.size
  have h3 := PySem.W.krv_all xs
  have : (List.range xs.size).filterMap (fun m => xs[xs.size - 1 - m]?) = ((List.range xs.size).map fun k => xs.size - 1 - k).filterMap (xs[·]?) := by
    rw [List.filterMap_map]; rfl
  rw [this, h2, List.filterMap_reverse, h3]
theorem lg_applied {sl : Addr} {vs : Value} {n : Nat} {Q : Int × Int × Nat → Shared → Prop} (hs : s.heap.IsSliceOf sl .none .none vs) (p : IsPart vs (some (-1)))
    (h : Q ((n : Int) - 1, -1, n) s) : wpAny (model prog w) A (Builtin.Slice.sliceApplied (.ref sl) (pure (n : Int))) Q E s := by
  obtain ⟨os, hos, hcs, hds⟩ := id hs
  unfold Builtin.Slice.sliceApplied Builtin.Slice.sliceFields
  refine wpAny_bind (wpAny_bind (wpAny_field hos hds (x := .none) rfl (wpAny_bind (wpAny_field hos hds (x := .none) rfl (wpAny_bind (wpAny_field hos hds (x := vs) rfl (wpAny_pure ?_)))))))
  refine wpAny_bind (slicePart_ p ?_)
  show wpAny _ _ (if ((-1 : Int) == 0) = true then _ else _) _ _ s
  rw [if_neg (by decide)]
  refine wpAny_bind (slicePart_ .none (wpAny_bind (slicePart_ .none (wpAny_bind (wpAny_pure ?_)))))
  show wpAny _ _ (match Builtin.Slice.sliceAdjust none none (-1) (n : Int) with | (lo, hi) => pure (lo, (-1 : Int), Builtin.Slice.slicePlaces lo hi (-1))) _ _ s
  rw [lg_adjust n]
  show wpAny _ _ (pure ((n : Int) - 1, (-1 : Int), Builtin.Slice.slicePlaces ((n : Int) - 1) (-1) (-1))) _ _ s
  rw [lg_places]
  exact wpAny_pure h
theorem getItem_tuple_rev {t sl : Addr} {items : Array Value} {vs : Value} {Q : Value → Shared → Prop} (ht : IsTup s.heap t items) (hs : s.heap.IsSliceOf sl .none .none vs) (p : IsPart vs (some (-1)))
    (h : Q (.ref s.heap.objs.size) { s with heap := s.heap.push { cls := .type "tuple", data := .seq items.toList.reverse.toArray } })
    (hsz : items.size ≤ sizeLine) : wpAny (model prog w) A (getItem (.ref t) (.ref sl)) Q E s := by
  have htake : sizeOk (.seq items.toList.reverse.toArray) := by
    show items.toList.reverse.toArray.size ≤ sizeLine
    rw [List.size_toArray, List.length_reverse, Array.length_toList]
    exact hsz
  obtain ⟨os, hos, hcs, hds⟩ := id hs
  have hTs : s.TypeIs (.ref sl) "slice" := ⟨os, hos, hcs⟩
  unfold getItem
  try with_reducible refine wpAny_holding ?_
  first | refine wpAny_bind (wpAny_pure ?_) | skip
  refine wpAny_bind (wpAny_sequenceKey ht.typeIs (by decide) ?_)
  refine wpAny_bind (wpAny_callSpecial?_slot (name := Str.ofString "__getitem__") ht.typeIs PyProof.Rows.slot_tuple_getitem
    (wpAny_call_entry PyProof.Rows.slot_tuple_getitem ht.typeIs entry_tuple_getitem ?_ (args_tuple_getitem _ _)))
  show wpAny _ _ (Builtin.Tuple.tupleItemsOf (.ref t) >>= _) _ _ s
  refine wpAny_bind (tupleItemsOf_ ht ?_)
  refine wpAny_bind (wpAny_typeOf hTs ?_)
  rw [if_pos (by decide)]
  refine wpAny_bind (lg_applied hs p ?_)
  have hno : ¬ ((((items.size : Int) - 1 : Int) == 0 && (-1 : Int) == 1 && (items.size : Nat) == items.size) = true) := by
    intro q
    rw [Bool.and_eq_true, Bool.and_eq_true] at q
    have q1 : (-1 : Int) = 1 := eq_of_beq q.1.2
    omega
  show wpAny _ _ (if ((((items.size : Int) - 1 : Int)) == 0 && (-1 : Int) == 1 && (items.size : Nat) == items.size) = true then _ else _) _ _ s
  rw [if_neg hno, lg_pick]
  first
    | exact wpAny_bind (m := Builtin.Tuple.tupleExact _) (wpAny_newObj_type (wpAny_pure ⟨_, rfl, wpAny_pure h⟩) htake)
    | exact wpAny_bind (m := Builtin.Tuple.tupleExact _) (wpAny_newObj_type (wpAny_bind (wpAny_pure (wpAny_pure ⟨_, rfl, wpAny_pure h⟩))) htake)
    | exact wpAny_bind (wpAny_bind (m := Builtin.Tuple.tupleExact _) (wpAny_newObj_type (wpAny_pure (wpAny_pure ⟨_, rfl, wpAny_pure h⟩)) htake))
    | exact wpAny_bind (wpAny_bind (m := Builtin.Tuple.tupleExact _) (wpAny_newObj_type (wpAny_pure ⟨_, rfl, wpAny_pure h⟩) htake))
end
end LoT
namespace Lo
open PySem PySem.Spec PyProof.Rows L2
section
variable {X : Cx}
def tRevT (K : PySem.W.Frag) (te : TE) : TE := fun σ H Q => te σ H fun x H1 => ∃ a xs, x = .ref a ∧ SqT K H1 a xs ∧ ∀ p, H1 p = none → Q (.ref p) (upd H1 p (.tup xs.reverse))
/-- t[::-1] of a tuple: a new tuple -/
theorem pe_revT {e : Expr} {te : TE} {k : Nat} {p1 p2 p3 pos : Pos} (he : PE X e te) : PE X (.Subscript e (.Slice none none (some (.UnaryOp .USub (.Constant (.int 1) k p1) p2)) p3) pos) (tRevT X.K te) := by
  refine ⟨fun pins s σ H Q I h => ?_⟩
  refine Subscript_ (thn (he.run pins s σ H _ I h) fun v s1 ⟨x, H1, I1, r1, q1⟩ => ?_)
  obtain ⟨a, xs, ex, hx, q⟩ := q1
  subst ex
  cases r1
  have hst : PO X (some (.UnaryOp .USub (.Constant (.int 1) k p1) p2)) (tPart (tUn (rU fun i => .int (-i)) (tC (.int 1)))) := po_some (pe_un un_neg pe_int)
  refine wpAny_Slice (thn (po_none.run pins s1 σ H1 (fun o H2 => o = none ∧ H2 = H1) I1 ⟨rfl, rfl⟩) fun vl s2 ⟨l, H2, I2, pl, el, e2⟩ => ?_)
  subst el e2
  refine thn (po_none.run pins s2 σ H2 (fun o H3 => o = none ∧ H3 = H2) I2 ⟨rfl, rfl⟩) fun vu s3 ⟨u, H3, I3, pu, eu, e3⟩ => ?_
  subst eu e3
  refine thn (hst.run pins s3 σ H3 (fun o H4 => o = some (-1) ∧ H4 = H3) I3 ⟨1, rfl, -1, rfl, rfl, rfl⟩) fun vs s4 ⟨o, H4, I4, ps, eo, e4⟩ => ?_
  subst eo e4
  have I5 : Inv X pins σ H4 { s4 with heap := s4.heap.push { cls := .type "slice", data := .fields #[vl, vu, vs] } } := I4.kept (t' := s4.toks) fun b ob q => Heap.get?_push_of_some _ q
  obtain ⟨its, r, ht, hz⟩ := I5.tuple hx
  have hlen := r.length
  cases pl
  cases pu
  show wpAny (model X.prog X.w) X.A (subscriptTail e (.Slice none none (some (.UnaryOp .USub (.Constant (.int 1) k p1) p2)) p3) (.ref a) (.ref s4.heap.objs.size)) (EP X pins σ Q) X.xe { s4 with heap := s4.heap.push { cls := .type "slice", data := .fields #[.none, .none, vs] } }
  refine tail_any (ops := [.ref a, .ref s4.heap.objs.size]) ht.typeIs (PyProof.Rows.slot_tuple_getitem.lookup) ?_ (by with_unfolding_all rfl)
  refine LoT.getItem_tuple_rev ht (Heap.IsSliceOf.new _ .none .none vs) ps ?_ (by rw [List.size_toArray]; omega)
  refine ⟨.ref _, _, I5.laid (t' := s4.toks) (o := .tup xs.reverse) (fun b ob q => Heap.get?_push_of_some _ q) (Nat.le_refl _) ?_, rfl, q _ (I5.hok.fresh (Nat.le_refl _))⟩
  exact ⟨by rw [List.length_reverse]; exact hz, its.reverse, r.reverse, IsTup.new _ its.reverse.toArray⟩
/-- a power of an int of less than a thousand bits -/
def CPowW (i j : Int) : Prop := 0 ≤ j ∧ j ≤ 1000 ∧ i.natAbs.log2 < 1000
theorem op_powW : OpR X (binaryOp .Pow) (rI CPowW fun i j => .int (i ^ j.toNat)) := opI fun i j _ _ _ _ _ hc q => by
  obtain ⟨h0, h1, h2⟩ := hc
  refine PyProof.Rows.pow_int h0 ?_ q
  have hb : Builtin.Int.intBits i ≤ 1000 := by
    unfold Builtin.Int.intBits
    split <;> omega
  have h3 : ((Builtin.Int.intBits i : Nat) : Int) * j ≤ 1000 * 1000 := Int.mul_le_mul (by omega) h1 h0 (by decide)
  have e : (2 : Int) ^ 27 = 134217728 := by decide
  omega
theorem lg_mul0 (l : Addr) (items : Array Value) (n : Nat) (dd : Option Addr) (sl : Array (Option Value)) (x : Int) (u : Tok) (c0 : (decide (x < -(2 ^ 63)) || decide (x ≥ 2 ^ 63)) = false) (c1 : (items.isEmpty || x == 1) = false) (c2 : (decide (x ≤ 0) || items.isEmpty) = true) :
    Meets (Builtin.«tuple.__mul__» ⟨[.ref l, .int x u], []⟩) (fun _ R s => s.heap.get? l = some { cls := .type "tuple", dict := dd, data := .seq items n, slots := sl } ∧
      R (.ok (.ret (Value.ref s.heap.objs.size))) { s with heap := s.heap.push { cls := Value.type "tuple", data := Data.seq #[] }, toks := s.toks }) :=
  .of_wp fun prog w A R s h => by
    obtain ⟨hp, g, d, tk, os⟩ := s
    obtain ⟨hl, h⟩ := h
    have f1 := AutoSeq1.idx_int
    wp_walk using AutoSeq1.wpAny_loadPart' hl
    repeat (first
      | (refine wpAny_ite_false (decide_eq_false (by rw [c0]; exact Bool.false_ne_true)) ?_; wp_walk using AutoSeq1.wpAny_loadPart' hl)
      | (refine wpAny_ite_false (decide_eq_false (by rw [c1]; exact Bool.false_ne_true)) ?_; wp_walk using AutoSeq1.wpAny_loadPart' hl)
      | (refine wpAny_ite_true (decide_eq_true (by rw [c2])) ?_; wp_walk using AutoSeq1.wpAny_loadPart' hl))
    exact ⟨_, rfl, h⟩
theorem lg_mul1 (l : Addr) (items : Array Value) (n : Nat) (dd : Option Addr) (sl : Array (Option Value)) (u : Tok) :
    Meets (Builtin.«tuple.__mul__» ⟨[.ref l, .int 1 u], []⟩) (fun _ R s => s.heap.get? l = some { cls := .type "tuple", dict := dd, data := .seq items n, slots := sl } ∧
      R (.ok (.ret (Value.ref l))) s) :=
  .of_wp fun prog w A R s h => by
    obtain ⟨hp, g, d, tk, os⟩ := s
    obtain ⟨hl, h⟩ := h
    have f1 := AutoSeq1.idx_int
    wp_walk using AutoSeq1.wpAny_loadPart' hl
    exact ⟨_, rfl, h⟩
/-- a tuple that is not empty times an int of at least 0: once gives the tuple itself -/
def rRepA (K : PySem.W.Frag) : R2 := fun x y H Q => ∃ l k xs, x = .ref l ∧ y = .int k ∧ SqT K H l xs ∧ xs ≠ [] ∧ 0 ≤ k ∧ k ≤ 1000 ∧ xs.length ≤ 1000 ∧
  (k = 1 → Q (.ref l) H) ∧ (k ≠ 1 → ∀ p, H p = none → Q (.ref p) (upd H p (.tup (List.replicate k.toNat xs).flatten)))
theorem op_repA : OpR X (binaryOp .Mult) (rRepA X.K) := by
  intro pins s σ H x y v u Q I rx ry h
  obtain ⟨l, k, xs, rfl, rfl, hT, hne, h0, h2, hz, q1, q2⟩ := h
  by_cases h1 : 2 ≤ k
  · exact op_repT pins s σ H _ _ v u Q I rx ry ⟨l, k, xs, rfl, rfl, hT, hne, h1, h2, hz, q2 (by omega)⟩
  · cases rx
    obtain ⟨t, rfl⟩ := ry
    obtain ⟨its, r, ⟨⟨cls, dd, data, sl⟩, ho, hc, n, hd⟩, hs⟩ := I.tuple hT
    simp only at hc hd
    subst hc hd
    have hle : its.length = xs.length := r.length.symm
    have hn : its ≠ [] := fun e => hne (by
      rw [e] at hle
      exact List.eq_nil_of_length_eq_zero hle.symm)
    have hi : its.toArray.isEmpty = false := by
      cases its with
      | nil => exact absurd rfl hn
      | cons a b => rfl
    by_cases hk : k = 1
    · subst hk
      refine wpAny_binaryOp_repeat_ref (T := "tuple") (U := "int") (by decide) ⟨_, ho, rfl⟩ (fun s' => typeIs_int s' 1 t) noFill_tuple_mul F.fills_int_mul F.slot_int_rmul repeat_tuple F.slot_int_index.lookup
        (call_meets F.slot_int_rmul (typeIs_int s 1 t) F.entry_int_rmul (F.args_int_rmul_2 _ _) (int_rmul_tuple 1 t l its.toArray n dd sl)
          ⟨ho, rfl, ⟨_, ho, rfl⟩, call_meets F.slot_tuple_mul ⟨_, ho, rfl⟩ F.entry_tuple_mul (F.args_tuple_mul_2 _ _) (lg_mul1 l its.toArray n dd sl t) ⟨ho, ?_⟩⟩)
      exact ⟨.ref l, H, I, rfl, q1 rfl⟩
    · have e0 : k = 0 := by omega
      subst e0
      have c0 : (decide ((0 : Int) < -(2 ^ 63)) || decide ((0 : Int) ≥ 2 ^ 63)) = false := by decide
      have c1 : (its.toArray.isEmpty || (0 : Int) == 1) = false := by rw [hi]; rfl
      have c2 : (decide ((0 : Int) ≤ 0) || its.toArray.isEmpty) = true := by rw [hi]; rfl
      refine wpAny_binaryOp_repeat_ref (T := "tuple") (U := "int") (by decide) ⟨_, ho, rfl⟩ (fun s' => typeIs_int s' 0 t) noFill_tuple_mul F.fills_int_mul F.slot_int_rmul repeat_tuple F.slot_int_index.lookup
        (call_meets F.slot_int_rmul (typeIs_int s 0 t) F.entry_int_rmul (F.args_int_rmul_2 _ _) (int_rmul_tuple 0 t l its.toArray n dd sl)
          ⟨ho, rfl, ⟨_, ho, rfl⟩, call_meets F.slot_tuple_mul ⟨_, ho, rfl⟩ F.entry_tuple_mul (F.args_tuple_mul_2 _ _) (lg_mul0 l its.toArray n dd sl 0 t c0 c1 c2) ⟨ho, ?_⟩⟩)
      refine ⟨.ref s.heap.objs.size, _, I.laid (t' := s.toks) (o := .tup (List.replicate (0 : Int).toNat xs).flatten) (fun b ob q => Heap.get?_push_of_some _ q) (Nat.le_refl _) ?_, rfl, q2 hk _ (I.hok.fresh (Nat.le_refl _))⟩
      exact ⟨Nat.zero_le _, [], .nil, IsTup.new _ _⟩
end
end Lo

/-! == and != by an own __eq__; str(x) by an own __str__. -/
namespace LoW
open PySem PySem.Spec PySem.Calls PyProof.Rows PySem.W
section
variable {prog : Program} {w : World} {M : Model} {A : Around} {E : Value → Shared → Prop} {s : Shared} {K : Frag} {x C f : Addr} {ox : Obj} {od : Option Obj} {b tb : Value}
open Builtin in
theorem lg_one {Q : Value → Shared → Prop} (hu : A.in1.units < cLine) (X : K.In s.heap) (I : InstAt s.heap x ox C od) (hm : mroIn K C (.type "object") = some true) (hs : findIn K (.ref C) "__eq__" = some (some (.ref f))) (hf : isFn K (.ref f) = true)
    (h : wpAny (model prog w) A.in1 (call (.ref f) [.ref x, b]) (fun v s' => ∃ r, v = .bool r ∧ Q (.bool (!r)) s') E s) : wpAny (model prog w) A (call (.builtin "object.__ne__") [.ref x, b]) Q E s := by
  refine wpAny_call (codeAny_call_builtin PySem.F.slot_object_ne.plain PySem.F.entry_object_ne (check_slot (i := "object.__ne__") (owner := "object") (n := "__ne__") (by decide +kernel) (by decide +kernel) (I.type.andThen (looks_mroIn X hm)) (PySem.F.args_object_ne_2 _ _) ?_))
  unfold Builtin.«object.__ne__»
  refine wpAny_bind (m := slotArgs "__ne__" 1 _) (wpAny_pure ?_)
  refine wpAny_bind (m := cRoomFor _ _) (wpAny_cRoomFor hu ?_)
  refine wpAny_bind (m := callSpecialIfBound? (.ref x) (Str.ofString "__eq__") _) (ifBound_K X I hs hf (wpAny_mono h (fun r s' hq => ?_) fun _ _ y => y))
  obtain ⟨k, rfl, hq⟩ := hq
  exact wpAny_bind (wpAny_truthy_bool (wpAny_pure hq))
theorem lg_ifBound {args : List Value} {name : Str} {id : String} {Q : Option Value → Shared → Prop} (X : K.In s.heap) (I : InstAt s.heap x ox C od) (hs : findIn K (.ref C) name = some (some (.builtin id)))
    (hb : ∀ self, bindSpecial (.builtin id) self = pure (.builtin id, [self]))
    (h : wpAny M A (call (.builtin id) (.ref x :: args)) (fun v => Q (some v)) E s) : wpAny M A (callSpecialIfBound? (.ref x) name args) Q E s := by
  simp only [callSpecialIfBound?, bindSpecialIfBound?]
  refine wpAny_holding (wpAny_bind (wpAny_bind (wpAny_bind (I.type.here ((looks_findIn X hs).here ?_)))))
  refine wpAny_bind (wpAny_askSetting (wpAny_ite ?_))
  have fin : wpAny M A (call (.builtin id) ([.ref x] ++ args) >>= fun v => pure (some v)) Q E s := wpAny_bind (wpAny_mono h (fun v s' h' => wpAny_pure h') fun _ _ h' => h')
  split
  · exact wpAny_bind ((Looks.of_pure (hb _)).here (wpAny_pure (by exact fin)))
  · exact wpAny_tryCatch (wpAny_bind ((Looks.of_pure (hb _)).here (wpAny_pure (by exact fin))))
/-- x != b where the class has __eq__ of its own and object's __ne__ -/
theorem lg_ne {Q : Value → Shared → Prop} (hu : A.units < cLine) (hu1 : A.in1.units < cLine) (X : K.In s.heap) (I : InstAt s.heap x ox C od) (hb : Looks (model prog w) s.heap (typeOf b) tb) (hn : notFirst K C tb = true)
    (hm : mroIn K C (.type "object") = some true) (hne : findIn K (.ref C) "__ne__" = some (some (.builtin "object.__ne__"))) (hs : findIn K (.ref C) "__eq__" = some (some (.ref f))) (hf : isFn K (.ref f) = true)
    (h : wpAny (model prog w) A.in1 (call (.ref f) [.ref x, b]) (fun v s' => ∃ r, v = .bool r ∧ Q (.bool (!r)) s') E s) : wpAny (model prog w) A (richCompare .NotEq (.ref x) b) Q E s := by
  have one : wpAny (model prog w) A (tryCompare (.ref x) (cmpInfo .NotEq).2.1 b) (fun r s' => ∃ v, r = some v ∧ Q v s') E s := by
    unfold tryCompare
    refine wpAny_bind (lg_ifBound X I hne PySem.F.slot_object_ne.bind (lg_one hu1 X I hm hs hf (wpAny_mono h (fun v s' hv => ?_) fun _ _ e => e)))
    obtain ⟨r, rfl, hq⟩ := hv
    exact ⟨r, rfl, wpAny_pure ⟨_, rfl, hq⟩⟩
  unfold richCompare
  simp only [oneThing_ref]
  refine wpAny_holding (wpAny_bind (wpAny_cRoomFor hu ?_))
  refine wpAny_bind (I.type.here (wpAny_bind (hb.here ?_)))
  split
  · rename_i q
    have e : subIn K tb (.ref C) = some false := by
      rcases Bool.or_eq_true_iff.mp hn with e | e
      · rw [beq_iff_eq.mp e] at q; simp at q
      · exact beq_iff_eq.mp e
    refine wpAny_bind ((looks_subIn X e).here ?_)
    simp only [Bool.false_eq_true, if_false]
    refine wpAny_bind (wpAny_mono one (fun r s' z => ?_) fun _ _ e => e)
    obtain ⟨v, rfl, hq⟩ := z
    exact wpAny_pure hq
  · refine wpAny_bind (wpAny_pure ?_)
    simp only [Bool.false_eq_true, if_false]
    refine wpAny_bind (wpAny_mono one (fun r s' z => ?_) fun _ _ e => e)
    obtain ⟨v, rfl, hq⟩ := z
    exact wpAny_pure hq
end
end LoW
namespace Lo
open PySem PySem.Spec PyProof.Rows L2
section
variable {X : Cx} {CX : CXT} {k : Nat} {C f : Addr} {sp : Sp} {E : XK}
theorem sub_in1 {A : Around} (s : Sub X (k + 1) A) : Sub X k A.in1 := s.in1
/-- x == y of instances, by the class's __eq__ -/
theorem op_eqI (F : FnR X.prog X.w X.K X.mg X.base CX k f sp) (hr : Room k X.A) (hx : Passes CX X E)
    (hs : PySem.W.findIn X.K (.ref C) "__eq__" = some (some (.ref f))) (hf : PySem.W.isFn X.K (.ref f) = true) :
    OpR X (compareOp .Eq) (fun x y H Q => ∃ a b dx dy fs gs, x = .ref a ∧ y = .ref b ∧ H a = some (.ins C dx fs) ∧ H b = some (.ins C dy gs) ∧ sp [.ref a, .ref b] H Q E) := by
  intro pins s σ H x y v u Q I rx ry ⟨a, b, dx, dy, fs, gs, e1, e2, ha, hb, h⟩
  subst e1 e2
  cases rx
  cases ry
  obtain ⟨od, J⟩ := ins_at I ha
  obtain ⟨od', J'⟩ := ins_at I hb
  obtain ⟨m, hF⟩ := I.fr
  exact PySem.W.cmp_K (op := .Eq) (tb := .ref C) hr.units0 hF I.ok.mod.kin J J'.type (by simp [PySem.W.notFirst]) hs hf (call_back (vs := [.ref a, .ref b]) F (sub_here hr) hx I (.cons rfl (.cons rfl .nil)) h)
/-- x != y of instances: its answer turned -/
theorem op_neI (F : FnR X.prog X.w X.K X.mg X.base CX k f sp) (hr : Room (k + 1) X.A) (hx : Passes CX X E) (hm : PySem.W.mroIn X.K C (.type "object") = some true)
    (hne : PySem.W.findIn X.K (.ref C) "__ne__" = some (some (.builtin "object.__ne__"))) (hs : PySem.W.findIn X.K (.ref C) "__eq__" = some (some (.ref f))) (hf : PySem.W.isFn X.K (.ref f) = true) :
    OpR X (compareOp .NotEq) (fun x y H Q => ∃ a b dx dy fs gs, x = .ref a ∧ y = .ref b ∧ H a = some (.ins C dx fs) ∧ H b = some (.ins C dy gs) ∧
      sp [.ref a, .ref b] H (fun z H' => ∃ r, z = .bl r ∧ Q (.bl (!r)) H') E) := by
  intro pins s σ H x y v u Q I rx ry ⟨a, b, dx, dy, fs, gs, e1, e2, ha, hb, h⟩
  subst e1 e2
  cases rx
  cases ry
  obtain ⟨od, J⟩ := ins_at I ha
  obtain ⟨od', J'⟩ := ins_at I hb
  have sb := sub_here (X := X) hr
  refine LoW.lg_ne (tb := .ref C) hr.units0 sb.in1.room.units0 I.kIn J J'.type (by simp [PySem.W.notFirst]) hm hne hs hf ?_
  refine wpAny_mono (call_at (vs := [.ref a, .ref b]) F sb.in1 hx I (.cons rfl (.cons rfl .nil)) h) (fun u s' ⟨z, H', I', rz, r, ez, q⟩ => ?_) fun _ _ e => e
  subst ez
  cases rz
  exact ⟨r, rfl, .bl (!r), H', I', rfl, q⟩
/-- str(x) of an instance with its own __str__ -/
theorem call_strI (F : FnR X.prog X.w X.K X.mg X.base CX k f sp) (hr : Room (k + 2) X.A) (hx : Passes CX X E)
    (hs : PySem.W.findIn X.K (.ref C) "__str__" = some (some (.ref f))) (hf : PySem.W.isFn X.K (.ref f) = true) :
    CallR X (.type "str") (fun xs H Q => ∃ a dx fs, xs = [.ref a] ∧ H a = some (.ins C dx fs) ∧ sp [.ref a] H (fun z H' => ∃ y, z = .str y ∧ Q (.str y) H') E) := by
  intro pins s σ H xs us Q I r ⟨a, dx, fs, e1, ha, h⟩
  subst e1
  obtain ⟨u, rfl, rx⟩ := vals1 r
  cases rx
  obtain ⟨od, J⟩ := ins_at I ha
  have sb := sub_here (X := X) hr
  refine PySem.W.kso_call sb.in1.in1.room.units0 I.kIn J hs hf ?_
  refine wpAny_mono (call_at (vs := [.ref a]) F sb.in1.in1 hx I (.cons rfl .nil) h) (fun u s' ⟨z, H', I', rz, y, ez, q⟩ => ?_) fun _ _ e => e
  subst ez
  obtain ⟨t, rfl⟩ := rz
  exact ⟨.str y, H', I', ⟨t, rfl⟩, q⟩
end
end Lo

/-! sum of a list of instances, by their + (and int + instance for the first). -/
namespace Lo
open PySem PySem.Spec PyProof.Rows L2
/-- the running total over the items that are left: each + by r, its answer an object; the list stands -/
def sumK (K : PySem.W.Frag) (l : Addr) (xs : List V) (r : R2) : List V → V → Hp → VK → Prop
  | [], y, H, Q => (∃ b, y = .ref b) ∧ Q y H
  | x :: rest, y, H, Q => (∃ a, x = .ref a) ∧ r y x H fun z H' => (∃ b, z = .ref b) ∧ SqL K H' l xs ∧ sumK K l xs r rest z H' Q
section
variable {X : Cx} {pins : List (Addr × Obj)} {σ : L2.St} {A : Around} {r : R2}
theorem fp_mono {H H' : Hp} {b : Addr} (h : FpOk X pins H b) (n : H' b = none) : FpOk X pins H' b := ⟨n, h.2⟩
abbrev lstObj (u : Value) (c : Nat) : Obj := { cls := .type "list", dict := none, data := .seq #[u] c, slots := #[] }
/-- + at the loop: the iterator and the total's cell stand, what the operator changes is told -/
theorem sum_add {it S : Addr} {H : Hp} {s : Shared} {x y : V} {v u : Value} {Q : VK} {i : Nat} {l : Addr} {tot : Value} {c : Nat} {P : Value → Shared → Prop} (hop : OpA X A (binaryOp .Add) r) (I : Inv X pins σ H s) (f1 : FpOk X pins H it) (f2 : FpOk X pins H S)
    (st : s.heap.IsListIter it l i) (hS : s.heap.get? S = some (lstObj tot c)) (ry : RelV y v) (rx : RelV x u) (h : r y x H Q)
    (k : ∀ z w H' s', Inv X pins σ H' s' → FpOk X pins H' it → FpOk X pins H' S → s'.heap.IsListIter it l i → s'.heap.get? S = some (lstObj tot c) → RelV z w → Q z H' → P w s') :
    wpAny (model X.prog X.w) A (binaryOp .Add v u) P X.xe s := by
  obtain ⟨oi, ei, ci, di⟩ := id st
  have hf : ∀ b ∈ [it, S], FpOk X pins H b := fun b hb => by
    rcases List.mem_cons.mp hb with e | hb
    · rw [e]; exact f1
    · rw [List.mem_singleton.mp hb]; exact f2
  have ho : ∀ b ∈ [it, S], ∃ o, s.heap.get? b = some o ∧ ∀ v, o.data ≠ .cell v := fun b hb => by
    rcases List.mem_cons.mp hb with e | hb
    · rw [e]; exact ⟨oi, ei, fun v z => by rw [di] at z; cases z⟩
    · rw [List.mem_singleton.mp hb]; exact ⟨_, hS, fun v z => nomatch z⟩
  have I2 := I.pinned hf ho
  refine wpAny_mono (hop _ s σ H y x v u Q I2 ry rx h) (fun w s' ⟨z, H', I', rz, q⟩ => ?_) fun _ _ e => e
  have p1 := I'.pin (it, oi) (List.mem_append_right _ (List.mem_append_right _ (mem_pinsAt (by simp) ei)))
  have p2 := I'.pin (S, _) (List.mem_append_right _ (List.mem_append_right _ (mem_pinsAt (by simp) hS)))
  exact k z w H' s' I'.unpinned (fp_mono f1 p1.2.1) (fp_mono f2 p2.2.1) ⟨oi, p1.1, ci, di⟩ p2.1 rz q
theorem sum_store {S : Addr} {H : Hp} {s : Shared} {tot u : Value} {c : Nat} {Q : Unit → Shared → Prop} {E : Value → Shared → Prop} (I : Inv X pins σ H s) (f : FpOk X pins H S) (hS : s.heap.get? S = some (lstObj tot c))
    (h : ∀ s' c', Inv X pins σ H s' → s'.heap.get? S = some (lstObj u c') → (∀ b o, b ≠ S → s.heap.get? b = some o → s'.heap.get? b = some o) → Q () s') :
    wpAny (model X.prog X.w) A (updateSeq S fun _ => #[u]) Q E s := by
  refine wpAny_updateSeq hS rfl ?_
  have hk : ∀ b o, b ≠ S → s.heap.get? b = some o → (s.heap.update S (Obj.mapSeq fun _ => #[u])).get? b = some o := fun b o hb e => (Heap.get?_update_other _ _ (Ne.symm hb)).trans e
  have I1 : Inv X pins σ H { s with heap := s.heap.update S (Obj.mapSeq fun _ => #[u]) } := I.turned (t' := s.toks) hk f.1 f.2.1 f.2.2.2.1 f.2.2.2.2.1 f.2.2.2.2.2
  exact h _ _ I1 (Heap.get?_update_self _ hS rfl) hk
theorem sum_loop (hh : A.in1.handled = none) (hxe : ∀ e s, X.xe e s → False) (hop : OpA X A.in1 (binaryOp .Add) r) {it S l : Addr} {xs : List V} {Q : VK} (hne : it ≠ S) :
    ∀ (rest : List V) (i : Nat) (s : Shared) (H : Hp) (b : Addr) (c : Nat), xs.drop i = rest → Inv X pins σ H s → FpOk X pins H it → FpOk X pins H S → s.heap.IsListIter it l i → s.heap.get? S = some (lstObj (.ref b) c) → SqL X.K H l xs →
      sumK X.K l xs r rest (.ref b) H Q →
      codeAny (model X.prog X.w) A (.builtin "sum.loop" ⟨[.ref it, .ref S, rawInt 2, rawInt 0], []⟩) (fun r s' => match r with | .ok (.ret v) => EP X pins σ Q v s' | .ok _ => False | .error e => X.xe e s') s := by
  intro rest
  induction rest with
  | nil =>
    intro i s H b c hd I f1 f2 st hS hl hq
    obtain ⟨its, rv, p, hz⟩ := I.list hl
    have hlen := rv.length
    have hi : xs.length ≤ i := by
      have := congrArg List.length hd
      rw [List.length_drop, List.length_nil] at this
      omega
    refine codeAny_builtin F.entry_sum_loop ?_
    rw [Around.under_plainId F.plain_sum_loop _]
    show wpAny _ A.in1 (seqItems? (.ref S) >>= _) _ _ s
    refine wpAny_bind (wpAny_seqItems hS rfl ?_)
    show wpAny _ A.in1 (tryCatch (pyNext (.ref it)) _ >>= _) _ _ s
    refine wpAny_bind (wpAny_tryCatch (wpAny_pyNext_list_end hh st p.isList (by simp; omega) fun h' eb => ?_))
    have I1 : Inv X pins σ H { s with heap := h' } := I.turned (t' := s.toks) (fun b o hb e => eb b o hb e) f1.1 f1.2.1 f1.2.2.2.1 f1.2.2.2.2.1 f1.2.2.2.2.2
    exact wpAny_pure ⟨.ref b, H, I1, rfl, hq.2⟩
  | cons x rest ih =>
    intro i s H b c hd I f1 f2 st hS hl hq
    obtain ⟨⟨a, ex⟩, hq⟩ := hq
    subst ex
    obtain ⟨its, rv, p, hz⟩ := I.list hl
    have hx : xs[i]? = some (.ref a) := by
      have := congrArg (fun l => l[0]?) hd
      simpa using this
    obtain ⟨u, hu, ru⟩ := rv.get hx
    cases ru
    refine codeAny_builtin F.entry_sum_loop ?_
    rw [Around.under_plainId F.plain_sum_loop _]
    show wpAny _ A.in1 (seqItems? (.ref S) >>= _) _ _ s
    refine wpAny_bind (wpAny_seqItems hS rfl ?_)
    show wpAny _ A.in1 (tryCatch (pyNext (.ref it)) _ >>= _) _ _ s
    refine wpAny_bind (wpAny_tryCatch (wpAny_pyNext_list_item st p.isList (x := .ref a) (by simpa using hu) fun h' st' sb => ?_))
    have I1 : Inv X pins σ H { s with heap := h' } := I.turned (t' := s.toks) (fun b o hb e => (sb.2 b hb).trans e) f1.1 f1.2.1 f1.2.2.2.1 f1.2.2.2.2.1 f1.2.2.2.2.2
    have hS1 : h'.get? S = some (lstObj (.ref b) c) := (sb.2 S (Ne.symm hne)).trans hS
    show wpAny _ A.in1 ((holding [Value.ref a] (binaryOp .Add (.ref b) (.ref a))).attempt >>= _) _ _ _
    refine wpAny_bind (wpAny_attempt (wpAny_holding (wpAny_mono (sum_add (P := _) hop I1 f1 f2 st' hS1 (y := .ref b) (x := .ref a) rfl rfl hq fun z w H' s' I' g1 g2 st2 hS2 rz hz' => ?_) (fun _ _ e => e) fun e s' z => (hxe e s' z).elim)))
    obtain ⟨⟨b2, ez⟩, hl2, hq2⟩ := hz'
    subst ez
    cases rz
    show wpAny (model X.prog X.w) A.in1 (updateSeq S (fun _ => #[Value.ref b2]) >>= _) _ _ s'
    refine wpAny_bind (sum_store I' g2 hS2 fun s2 c2 I2 hS3 k2 => ?_)
    refine wpAny_bind (wpAny_letGo ?_)
    refine wpAny_bind (sum_store I2 g2 hS3 fun s3 c3 I3 hS4 k3 => ?_)
    have st3 : s3.heap.IsListIter it l (i + 1) := st2.at fun o e => k3 it o hne (k2 it o hne e)
    have hd2 : xs.drop (i + 1) = rest := by
      rw [← List.drop_drop, hd]; rfl
    exact wpAny_pure ⟨plainId_quiet F.plain_sum_loop _, ih (i + 1) s3 H' b2 c3 hd2 I3 g1 g2 st3 hS4 hl2 hq2⟩
theorem sum_first (hh : A.in1.handled = none) (hxe : ∀ e s, X.xe e s → False) (hop : OpA X A.in1 (binaryOp .Add) r) {it S l : Addr} {xs rest : List V} {x : V} {Q : VK} (hne : it ≠ S) {s : Shared} {H : Hp} {t : Tok} {c : Nat} (hd : xs = x :: rest) (I : Inv X pins σ H s)
    (f1 : FpOk X pins H it) (f2 : FpOk X pins H S) (st : s.heap.IsListIter it l 0) (hS : s.heap.get? S = some (lstObj (.int 0 t) c)) (hl : SqL X.K H l xs) (hq : sumK X.K l xs r xs (.int 0) H Q) :
    codeAny (model X.prog X.w) A (.builtin "sum.loop" ⟨[.ref it, .ref S, rawInt 0, rawInt 0], []⟩) (fun r s' => match r with | .ok (.ret v) => EP X pins σ Q v s' | .ok _ => False | .error e => X.xe e s') s := by
  rw [hd] at hq
  obtain ⟨⟨a, ex⟩, hq⟩ := hq
  subst ex
  obtain ⟨its, rv, p, hz⟩ := I.list hl
  have hx : xs[0]? = some (.ref a) := by rw [hd]; rfl
  obtain ⟨u, hu, ru⟩ := rv.get hx
  cases ru
  refine codeAny_builtin F.entry_sum_loop ?_
  rw [Around.under_plainId F.plain_sum_loop _]
  show wpAny _ A.in1 (seqItems? (.ref S) >>= _) _ _ s
  refine wpAny_bind (wpAny_seqItems hS rfl ?_)
  show wpAny _ A.in1 (tryCatch (pyNext (.ref it)) _ >>= _) _ _ s
  refine wpAny_bind (wpAny_tryCatch (wpAny_pyNext_list_item st p.isList (x := .ref a) (by simpa using hu) fun h' st' sb => ?_))
  have I1 : Inv X pins σ H { s with heap := h' } := I.turned (t' := s.toks) (fun b o hb e => (sb.2 b hb).trans e) f1.1 f1.2.1 f1.2.2.2.1 f1.2.2.2.2.1 f1.2.2.2.2.2
  have hS1 : h'.get? S = some (lstObj (.int 0 t) c) := (sb.2 S (Ne.symm hne)).trans hS
  refine wpAny_bind (wpAny_rule ?_)
  refine wpAny_bind (wpAny_attempt (wpAny_holding (wpAny_mono (sum_add (P := _) hop I1 f1 f2 st' hS1 (y := .int 0) (x := .ref a) ⟨t, rfl⟩ rfl hq fun z w H' s' I' g1 g2 st2 hS2 rz hz' => ?_) (fun _ _ e => e) fun e s' z => (hxe e s' z).elim)))
  obtain ⟨⟨b2, ez⟩, hl2, hq2⟩ := hz'
  subst ez
  cases rz
  show wpAny (model X.prog X.w) A.in1 (updateSeq S (fun _ => #[Value.ref b2]) >>= _) _ _ s'
  refine wpAny_bind (sum_store I' g2 hS2 fun s2 c2 I2 hS3 k2 => ?_)
  refine wpAny_bind (wpAny_letGo ?_)
  refine wpAny_bind (sum_store I2 g2 hS3 fun s3 c3 I3 hS4 k3 => ?_)
  have st3 : s3.heap.IsListIter it l 1 := st2.at fun o e => k3 it o hne (k2 it o hne e)
  have hd2 : xs.drop 1 = rest := by rw [hd]; rfl
  exact wpAny_pure ⟨plainId_quiet F.plain_sum_loop _, sum_loop hh hxe hop hne rest 1 s3 H' b2 c3 hd2 I3 g1 g2 st3 hS4 (by rw [hd]; exact hl2) (by rw [hd]; exact hq2)⟩
end
section
variable {X : Cx} {r : R2}
/-- sum(xs) of a list of instances that is not empty -/
theorem call_sumI (hc : X.calm = true) (hxe : ∀ e s, X.xe e s → False) (hop : OpA X X.A.in1 (binaryOp .Add) r) :
    CallR X (.builtin "sum") (fun vs H Q => ∃ l xs, vs = [.ref l] ∧ xs ≠ [] ∧ SqL X.K H l xs ∧ sumK X.K l xs r xs (.int 0) H Q) := by
  intro pins s σ H vs us Q I rr ⟨l, xs, e1, hne, hl, hq⟩
  subst e1
  obtain ⟨u, rfl, rx⟩ := vals1 rr
  cases rx
  obtain ⟨x, rest, hd⟩ : ∃ x rest, xs = x :: rest := by
    cases xs with
    | nil => exact absurd rfl hne
    | cons x r => exact ⟨x, r, rfl⟩
  obtain ⟨its, rv, p, hz⟩ := I.list hl
  have hh : X.A.in1.handled = none := I.ok.hd hc
  refine call_function_tree F.kind_sum F.plain_sum F.entry_sum (F.args_sum1 _) ?_
  unfold Builtin.«sum»
  simp only [List.length_cons, List.length_nil]
  rw [if_neg (by decide)]
  refine wpAny_bind (wpAny_of_eq (show Builtin.Builtins.bindParams "sum" ["start"] 0 { } = pure [none] from rfl) ?_)
  refine wpAny_bind (wpAny_pyIter_list p.isList ?_)
  refine wpAny_bind (wpAny_mkInt ?_)
  refine wpAny_bind (wpAny_pure ?_)
  simp only [List.forIn_cons, List.forIn_nil]
  refine wpAny_bind (wpAny_bind (wpAny_bind (wpAny_isInstance (T := "int") (b := false) (typeIs_int _ _ _) PySem.sub_int_str ?_)))
  simp only [Bool.false_eq_true, if_false]
  refine wpAny_pure (wpAny_bind (wpAny_bind (wpAny_isInstance (T := "int") (b := false) (typeIs_int _ _ _) PySem.sub_int_bytes ?_)))
  simp only [Bool.false_eq_true, if_false]
  refine wpAny_pure (wpAny_bind (wpAny_bind (wpAny_isInstance (T := "int") (b := false) (typeIs_int _ _ _) PySem.sub_int_bytearray ?_)))
  simp only [Bool.false_eq_true, if_false]
  refine wpAny_pure (wpAny_pure ?_)
  refine wpAny_bind (wpAny_newObj_type ?_)
  have I1 : Inv X pins σ H { s with heap := s.heap.push { cls := .type "list_iterator", data := .fields #[.ref l, .int 0 0] }, toks := s.toks + 1 } := I.kept fun b o e => Heap.get?_push_of_some _ e
  have I2 := I1.kept (h' := (s.heap.push { cls := .type "list_iterator", data := .fields #[.ref l, .int 0 0] }).push { cls := .type "list", data := .seq #[.int 0 s.toks] }) (t' := s.toks + 1) fun b o e => Heap.get?_push_of_some _ e
  have n1 : H s.heap.objs.size = none := I.hok.fresh (Nat.le_refl _)
  have sz : (s.heap.push { cls := .type "list_iterator", data := .fields #[.ref l, .int 0 0] }).objs.size = s.heap.objs.size + 1 := by simp [Heap.push]
  have n2 : H (s.heap.objs.size + 1) = none := I.hok.fresh (Nat.le_succ _)
  have g1 := I.fpOk (Nat.le_refl _) n1
  have g2 := I.fpOk (Nat.le_succ _) n2
  have st : ((s.heap.push { cls := .type "list_iterator", data := .fields #[.ref l, .int 0 0] }).push { cls := .type "list", data := .seq #[.int 0 s.toks] }).IsListIter s.heap.objs.size l 0 :=
    ⟨_, Heap.get?_push_of_some _ (Heap.get?_push_size _ rfl), rfl, rfl⟩
  have hS : ((s.heap.push { cls := .type "list_iterator", data := .fields #[.ref l, .int 0 0] }).push { cls := .type "list", data := .seq #[.int 0 s.toks] }).get? (s.heap.objs.size + 1) = some (lstObj (.int 0 s.toks) 0) := by
    rw [← sz]
    exact Heap.get?_push_size _ rfl
  have e2 : ({ heap := s.heap.push { cls := Value.type "list_iterator", data := Data.fields #[Value.ref l, Value.int 0 0] }, gens := s.gens, drawn := s.drawn, toks := s.toks + 1, os := s.os } : Shared).heap.objs.size = s.heap.objs.size + 1 := sz
  rw [e2]
  exact wpAny_pure ⟨plainId_quiet F.plain_sum_loop _, sum_first hh hxe hop (Nat.ne_of_lt (Nat.lt_succ_self _)) hd I2 g1 g2 st hS hl hq⟩
end
end Lo

/-! Instances made by C( *t), cls( *t), C() of a def with a star parameter. -/
namespace Lo
open PySem PySem.Spec PyProof.Rows L2 StX
/-- a new instance of the class at C from the values vs -/
def newI (C : Addr) (sp : Sp) (E : XK) (vs : List V) (H1 : Hp) (Q : VK) : Prop := ∀ x dx, H1 x = Option.none → H1 dx = Option.none → dx ≠ x →
  sp (V.ref x :: vs) (upd (upd H1 dx (.own x)) x (.ins C dx [])) (fun v H2 => v = .non ∧ Q (.ref x) H2) E
section
variable {X : Cx} {CX : CXT} {k i : Nat} {f C : Addr} {sp : Sp} {E : XK} {x : Str} {e : Expr} {te : TE} {p sp_ pos : Pos}
/-- C( *y) -/
theorem pe_makeS (M : Mk X.K C f) (F : FnR X.prog X.w X.K X.mg X.base CX k f sp) (hr : Room (k + 1) X.A) (hg : Gl X x) (hm : X.mg x = some (.ref C)) (hx : Passes CX X E) (he : PE X e te) (hd : (x == ("__debug__" : Str)) = false := by decide)
    (hst : starEach [.Starred e sp_] X.env = [(true, eval e X.env)] := by rfl) :
    PE X (.Call (.Name x p) [.Starred e sp_] [] pos) (fun σ H Q => te σ H fun y H1 => ∃ a xs, y = V.ref a ∧ (SqT X.K H1 a xs ∨ SqL X.K H1 a xs) ∧ newI C sp E xs H1 Q) := by
  refine ⟨fun pins s σ H Q I h => ?_⟩
  refine wpAny_Call_Name_kw (ld_glob I hg hm ?_ hd)
  refine PySem.W.callWith_S (h₀ := X.base) I.ok.mod.kin M.kp (thn (he.run pins s σ H _ I h) fun v s1 ⟨y, H1, I1, ry, a, xs, ey, hxs, q⟩ => ?_) hst
  subst ey
  obtain rfl : v = Value.ref a := ry
  exact star_any I1 hxs fun us s2 I2 rv => ⟨I2.kIn, run_makeR M F hr hx I2 rv q⟩
/-- cls( *y), cls a name that holds the class -/
theorem pe_makeSV (M : Mk X.K C f) (F : FnR X.prog X.w X.K X.mg X.base CX k f sp) (hr : Room (k + 1) X.A) (hN : X.N[i]? = some x) (hv : Vis X.env.scope x) (hx : Passes CX X E) (he : PE X e te) (hd : (x == ("__debug__" : Str)) = false := by decide)
    (hcd : (x == ("__classdict__" : Str)) = false := by decide) (hst : starEach [.Starred e sp_] X.env = [(true, eval e X.env)] := by rfl) :
    PE X (.Call (.Name x p) [.Starred e sp_] [] pos) (fun σ H Q => σ[i]? = some (some (.ref C)) ∧ te σ H fun y H1 => ∃ a xs, y = V.ref a ∧ (SqT X.K H1 a xs ∨ SqL X.K H1 a xs) ∧ newI C sp E xs H1 Q) := by
  refine ⟨fun pins s σ H Q I ⟨h0, h⟩ => ?_⟩
  refine wpAny_Call_Name_kw (thn ((pe_var hN hv hd hcd).run pins s σ H (fun v H1 => v = .ref C ∧ H1 = H) I ⟨_, h0, rfl, rfl⟩) fun v s0 ⟨y, H0, I0, ry, e1, e2⟩ => ?_)
  subst e1 e2
  cases ry
  refine PySem.W.callWith_S (h₀ := X.base) I.ok.mod.kin M.kp (thn (he.run pins s0 σ H0 _ I0 h) fun v s1 ⟨y, H1, I1, ry, a, xs, ey, hxs, q⟩ => ?_) hst
  subst ey
  obtain rfl : v = Value.ref a := ry
  exact star_any I1 hxs fun us s2 I2 rv => ⟨I2.kIn, run_makeR M F hr hx I2 rv q⟩
/-- C() -/
theorem pe_makeR0 (M : Mk X.K C f) (F : FnR X.prog X.w X.K X.mg X.base CX k f sp) (hr : Room (k + 1) X.A) (hg : Gl X x) (hm : X.mg x = some (.ref C)) (hx : Passes CX X E) (hdb : (x == ("__debug__" : Str)) = false := by decide) :
    PE X (.Call (.Name x p) [] [] pos) (fun σ H Q => newI C sp E [] H Q) := by
  refine ⟨fun pins s σ H Q I h => ?_⟩
  refine wpAny_Call_Name_kw (ld_glob I hg hm ?_ hdb)
  exact PySem.W.callWith_K0 I.kIn M.kp (run_makeR (us := []) M F hr hx I .nil h)
end
end Lo

/-! The text by places; what a polynomial is in the heap; small lemmas for the readings. -/
namespace Lg
open PySem L2
def top (i : Nat) : Stmt := PySem.Challenge.pw_loopgrowth_k59_whole_polynomials_are_the.main.body.getD i (.Pass ⟨0, 0, 0, 0⟩)
abbrev sInt : Stmt := top 7
abbrev sFig : Stmt := top 8
abbrev sCount : Stmt := top 11
abbrev sReqN : Stmt := top 12
abbrev sReqC : Stmt := top 13
abbrev sTrim : Stmt := top 14
abbrev sAt : Stmt := top 15
abbrev sSum : Stmt := top 16
abbrev sProdAt : Stmt := top 17
abbrev sProd : Stmt := top 18
abbrev sPow : Stmt := top 19
abbrev sInner : Stmt := top 20
abbrev sLeast : Stmt := top 21
abbrev sTerm : Stmt := top 22
abbrev meth (j : Nat) : Stmt := inClass (top 23) j
abbrev sMade : Stmt := top 24
abbrev sCoef : Stmt := top 25
abbrev sDice : Stmt := top 27
abbrev sRoll : Stmt := top 28
abbrev sOneOf : Stmt := top 29
abbrev sMixed : Stmt := top 30
abbrev sCoefs : Stmt := top 31
abbrev sDigits : Stmt := top 32
abbrev sWays : Stmt := top 33
abbrev sVals : Stmt := top 34
abbrev sRight : Stmt := top 35
abbrev sLaw : Stmt := top 36

/-- built-in names that the text does not bind -/
structure Blt (mg : Str → Option Value) : Prop where
  isinstance : mg "isinstance" = none
  int : mg "int" = none
  bool : mg "bool" = none
  tuple : mg "tuple" = none
  list : mg "list" = none
  str : mg "str" = none
  all : mg "all" = none
  len : mg "len" = none
  zip : mg "zip" = none
  range : mg "range" = none
  sum : mg "sum" = none
  abs : mg "abs" = none
  max : mg "max" = none
  min : mg "min" = none

/-! ### tuples of ivs -/
abbrev ivs (cs : List Int) : List V := cs.map V.int
def TupI (H : Hp) (a : Addr) (cs : List Int) : Prop := H a = some (.tup (ivs cs))
theorem TupI.sq {K : PySem.W.Frag} {H : Hp} {a : Addr} {cs : List Int} (h : TupI H a cs) : SqT K H a (ivs cs) := SqT.of h
theorem TupI.same {H H' : Hp} {a : Addr} {cs : List Int} (h : TupI H a cs) (s : Same H H') : TupI H' a cs := s _ _ h
theorem same_upd {H H' : Hp} {p : Addr} {o : HO} (s : Same H H') (h : H' p = none) : Same H (upd H' p o) := fun b u e => by
  rw [upd_ne (ne_of_none (s _ _ e) h)]
  exact s _ _ e
theorem tupI_new {H : Hp} {p : Addr} {cs : List Int} : TupI (upd H p (.tup (ivs cs))) p cs := upd_same
theorem ivs_get {cs : List Int} {i : Nat} {x : V} (h : (ivs cs)[i]? = some x) : ∃ c, cs[i]? = some c ∧ x = .int c := by
  rw [List.getElem?_map] at h
  cases e : cs[i]? with
  | none => rw [e] at h; cases h
  | some c => rw [e] at h; exact ⟨c, rfl, (Option.some.inj h).symm⟩
theorem get_ivs {cs : List Int} {i : Nat} {c : Int} (h : cs[i]? = some c) : (ivs cs)[i]? = some (.int c) := by
  rw [List.getElem?_map, h]; rfl
theorem getD_of {cs : List Int} {i : Nat} {c : Int} (h : cs[i]? = some c) : cs.getD i 0 = c := by
  rw [List.getD_eq_getElem?_getD, h]; rfl
theorem of_getD {cs : List Int} {i : Nat} (h : i < cs.length) : cs[i]? = some (cs.getD i 0) := by
  rw [List.getD_eq_getElem?_getD, List.getElem?_eq_getElem h]; rfl
theorem natAbs_lt {i : Int} {a : Nat} (h0 : 0 ≤ i) (h : i < 2 ^ a) : i.natAbs < 2 ^ a := by
  have e : ((2 ^ a : Nat) : Int) = (2 : Int) ^ a := by rw [Int.natCast_pow]; rfl
  omega
theorem lt_two_succ {x : Int} {k : Nat} (h : x ≤ 2 ^ k) : x < 2 ^ (k + 1) := by
  rw [Int.pow_succ]
  have := Int.pow_pos (n := 2) (m := k) (by decide)
  omega
/-- a product of two ints of known size -/
theorem mulW {x y : Int} {k b : Nat} (hx : 0 ≤ x) (h1 : x ≤ 2 ^ k) (hy : 0 ≤ y) (h2 : y ≤ 2 ^ b) (h : k + b + 2 ≤ 1000000) : CMulW x y :=
  wide_mul (natAbs_lt hx (lt_two_succ h1)) (natAbs_lt hy (lt_two_succ h2)) (Nat.succ_pos _) (Nat.succ_pos _) (by omega)
theorem line1000 {n : Nat} (h : n ≤ 1000) : n ≤ sizeLine := Nat.le_trans h (by decide)
theorem fin_true {H : Hp} {Q : VK} {b : Bool} (h : Q (.bl true) H) (e : b = true) : Q (.bl b) H := by rw [e]; exact h

/-! ### a def of the module that may be called by its name; sp: its promise -/
structure Cal (P : Program) (w : World) (K : PySem.W.Frag) (mg : Str → Option Value) (base : Heap) (k : Nat) (x : Str) (sp : Sp) : Prop where
  ex : ∃ f : Addr, FnR P w K mg base CX0 k f sp ∧ mg x = some (.ref f) ∧ PySem.W.keepIn K (.ref f) = true
theorem cal_of {P : Program} {w : World} {K : PySem.W.Frag} {mg : Str → Option Value} {base : Heap} {k : Nat} {x : Str} {sp : Sp} {f : Addr} {fd : FuncData} {ps : List Str} (F : FnOk P w K mg base CX0 k f fd ps sp) (b : Binds K fd ps []) (m : mg x = some (.ref f)) (kp : PySem.W.keepIn K (.ref f) = true) :
    Cal P w K mg base k x sp := ⟨f, (F.raw b .nil).imp (fun vs H Q E h => by rw [List.append_nil]; exact h), m, kp⟩
def tCl (sp : Sp) (t : TA) : TE := fun σ H Q => t σ H fun vs H1 => sp vs H1 Q E0
open PySem.Spec PyProof.Rows in
theorem pe_c {X : Cx} {k j : Nat} {x : Str} {sp : Sp} {p pos : Pos} {e : Expr} {es : List Expr} {t : TA} (c : Cal X.prog X.w X.K X.mg X.base k x sp) (hr : Room j X.A) (hk : k ≤ j) (hg : Gl X x) (ha : PA X (e :: es) t)
    (hdb : (x == ("__debug__" : Str)) = false := by decide) (he : starEach (e :: es) X.env = (false, eval e X.env) :: starEach es X.env := by rfl) (hpl : (backTo pos (starEach es X.env)).any (·.1) = false := by rfl) :
    PE X (.Call (.Name x p) (e :: es) [] pos) (tCl sp t) := by
  obtain ⟨f, F, hm, kp⟩ := c.ex
  refine ⟨fun pins s σ H Q I h => ?_⟩
  refine wpAny_Call_Name_kw (ld_glob I hg hm ?_ hdb)
  refine PySem.W.callWith_K (h₀ := X.base) I.ok.mod.kin kp (thn (ha.run pos pins s σ H _ I h) fun us s1 ⟨vs, H1, I1, r, q⟩ => ⟨I1.kIn, ?_⟩) he hpl
  exact wpAny_call (run_fnR F (hr.mono hk) pass0 I1 r q)

/-! ### readings grow with what is wanted -/
def MT (c : TT) : Prop := ∀ σ H Q Q', (∀ b H1, Q b H1 → Q' b H1) → c σ H Q → c σ H Q'
def ME (t : TE) : Prop := ∀ σ H (Q Q' : VK), (∀ b H1, Q b H1 → Q' b H1) → t σ H Q → t σ H Q'
def MA (t : TA) : Prop := ∀ σ H (Q Q' : List V → Hp → Prop), (∀ b H1, Q b H1 → Q' b H1) → t σ H Q → t σ H Q'
def MR (r : R2) : Prop := ∀ x y H (Q Q' : VK), (∀ b H1, Q b H1 → Q' b H1) → r x y H Q → r x y H Q'
theorem mono_var {i : Nat} : ME (tVar i) := fun _ _ _ _ m ⟨v, e, h⟩ => ⟨v, e, m _ _ h⟩
theorem mono_c {v : V} : ME (tC v) := fun _ _ _ _ m h => m _ _ h
theorem mono_op {r : R2} {ta tb : TE} (hr : MR r) (ha : ME ta) (hb : ME tb) : ME (tOp r ta tb) := fun σ H Q Q' m h => ha σ H _ _ (fun x H1 h1 => hb σ H1 _ _ (fun y H2 h2 => hr x y H2 _ _ m h2) h1) h
theorem mono_I0 {g : Int → Int → V} : MR (rI0 g) := fun _ _ _ _ _ m ⟨i, j, e1, e2, h⟩ => ⟨i, j, e1, e2, m _ _ h⟩
theorem mono_I {C : Int → Int → Prop} {g : Int → Int → V} : MR (rI C g) := fun _ _ _ _ _ m ⟨i, j, e1, e2, c, h⟩ => ⟨i, j, e1, e2, c, m _ _ h⟩
theorem mono_eq : MR rEq := fun _ _ _ _ _ m ⟨e, h⟩ => ⟨e, m _ _ h⟩
theorem mono_ixT {K : PySem.W.Frag} : MR (rIxT K) := fun _ _ _ _ _ m ⟨p, xs, i, v, e1, e2, e3, e4, h⟩ => ⟨p, xs, i, v, e1, e2, e3, e4, m _ _ h⟩
theorem mono_test {t : TE} (h : ME t) : MT (tTest t) := fun σ H Q Q' m hq => h σ H _ _ (fun _ _ ⟨k, e, hk⟩ => ⟨k, e, m _ _ hk⟩) hq
theorem mono_and {t u : TT} (h1 : MT t) (h2 : MT u) : MT (tAnd t u) := fun σ H Q Q' m h => h1 σ H _ _ (fun b H1 q => by
  cases b with
  | true => exact iteT (h2 σ H1 _ _ m ((if_pos rfl).mp q))
  | false => exact iteF (m _ _ ((if_neg Bool.false_ne_true).mp q))) h
theorem mono_nil : MA tNil := fun _ _ _ _ m h => m _ _ h
theorem mono_cons {ta : TE} {tr : TA} (ha : ME ta) (hr : MA tr) : MA (tCons ta tr) := fun σ H Q Q' m h => ha σ H _ _ (fun x H1 h1 => hr σ H1 _ _ (fun xs H2 h2 => m _ _ h2) h1) h
def MS (sp : Sp) : Prop := ∀ vs H Q Q' E, (∀ b H1, Q b H1 → Q' b H1) → sp vs H Q E → sp vs H Q' E
theorem mono_cl {sp : Sp} {t : TA} (hs : MS sp) (ht : MA t) : ME (tCl sp t) := fun σ H Q Q' m h => ht σ H _ _ (fun vs H1 q => hs vs H1 _ _ _ m q) h
end Lg

namespace Lg
open PySem L2 Lo
section
variable {P : Program} {w : World} {K : PySem.W.Frag} {mg : Str → Option Value} {base : Heap}
/-! ### at_in -/
def spAt : Sp := fun vs H Q _ => ∃ (a : Addr) (cs : List Int) (n : Int) (L k b : Nat), vs = [.ref a, .int n] ∧ TupI H a cs ∧ Fit cs L k ∧ 0 ≤ n ∧ n ≤ 2 ^ b ∧ k + b * (L + 1) ≤ 900000 ∧ ∀ H', Same H H' → Q (.int (ev cs n)) H'
theorem ev_step {cs : List Int} {n : Int} {j : Nat} {c : Int} (hj : j < cs.length) (h : cs.reverse[j]? = some c) : ev (cs.drop (cs.length - (j + 1))) n = ev (cs.drop (cs.length - j)) n * n + c := by
  have e : cs.length - j = cs.length - (j + 1) + 1 := by omega
  have hlt : cs.length - (j + 1) < cs.length := by omega
  have hc : cs[cs.length - (j + 1)] = c := by
    rw [List.getElem?_reverse (by omega)] at h
    rw [List.getElem?_eq_getElem (by omega)] at h
    have := Option.some.inj h
    rw [← this]
    congr 1
    omega
  rw [e, List.drop_eq_getElem_cons hlt, ev, hc]
theorem scAt : FnScope ["coefficients", "n", "found", "one"] ["coefficients", "n"] (defScope sAt) := ⟨rfl, rfl, rfl, by decide +kernel, rfl, by decide +kernel, by decide +kernel⟩
theorem ok_at {f : Addr} {fd : FuncData} (F : Fun K "at_in" "at_in" sAt f fd) : FnOk P w K mg base CX0 1 f fd ["coefficients", "n"] spAt := by
  refine F.ok scAt (fun vs H Q E h => ?_) (fun cdv A outer s H vs Q E hr h => ?_)
  · obtain ⟨a, cs, n, L, k, b, rfl, _⟩ := h
    rfl
  · obtain ⟨a, cs, n, L, k, b, rfl, hT, hF, h0, hn, hz, q⟩ := h
    refine ⟨_, pss_cons (ps_set (i := 2) scAt.nd rfl (.inl rfl) pe_int) (pss_cons (ps_for PySem.PassesOwn.never rfl (pi_tup (pe_revT (pv 0))) (pg_name (i := 3) scAt.nd rfl (.inl rfl))
      (pss_one (ps_set (i := 2) scAt.nd rfl (.inl rfl) (pe_op op_add (pe_op op_mulW (pv 2) (pv 1)) (pv 3))))) (pss_one (ps_ret (pv 2)))), ?_⟩
    refine ⟨_, rfl, a, _, rfl, hT.sq, fun p np => ?_⟩
    have s0 : Same H (upd H p (.tup (ivs cs).reverse)) := same_upd (Same.refl H) np
    refine ⟨p, rfl, ⟨_, SqT.of upd_same⟩, for_tup (K := K) (a := p) (xs := (ivs cs).reverse) (fun j σ H' => ∃ v, σ = [some (.ref a), some (.int n), some (.int (ev (cs.drop (cs.length - j)) n)), v] ∧ Same H H' ∧ H' p = some (.tup (ivs cs).reverse)) ?_ ?_ ?_ ?_⟩
    · refine ⟨none, ?_, s0, upd_same⟩
      rw [Nat.sub_zero, List.drop_length]
      rfl
    · rintro i σ H' _ ⟨v, _, _, e⟩
      exact SqT.of e
    · rintro j x σ H' hj ⟨v, rfl, hs, hp⟩
      have hlt : j < cs.length := by
        have := (List.getElem?_eq_some_iff.mp hj).1
        rw [List.length_reverse, List.length_map] at this
        exact this
      rw [← List.map_reverse] at hj
      obtain ⟨c, hc, rfl⟩ := ivs_get hj
      have fd := (hF.drop (cs.length - j)).ev_lt h0 hn
      have fp := ev_nn (hF.nn.drop (cs.length - j)) h0
      refine ⟨_, rfl, _, rfl, _, _, rfl, rfl, mulW fp (Int.le_of_lt fd) h0 hn (by have e : b * (L + 1) = b * L + b := Nat.mul_succ b L; omega), _, rfl, _, _, rfl, rfl, ?_⟩
      exact ⟨_, by rw [ev_step hlt hc]; rfl, hs, hp⟩
    · rintro σ H' ⟨v, rfl, hs, hp⟩
      refine ⟨_, rfl, ?_⟩
      rw [List.length_reverse, List.length_map, Nat.sub_self, List.drop_zero]
      exact q H' hs
end
end Lg

namespace Lg
open PySem L2 Lo
section
variable {P : Program} {w : World} {K : PySem.W.Frag} {mg : Str → Option Value} {base : Heap}
theorem boot_isinstance' : bootBuiltins "isinstance" = some (.builtin "isinstance") := by decide +kernel
theorem boot_int' : bootBuiltins "int" = some (.type "int") := by decide +kernel
theorem boot_bool' : bootBuiltins "bool" = some (.type "bool") := by decide +kernel
theorem boot_tuple' : bootBuiltins "tuple" = some (.type "tuple") := by decide +kernel
theorem boot_all' : bootBuiltins "all" = some (.builtin "all") := by decide +kernel
/-! ### is_integer -/
def spInt : Sp := fun vs H Q _ => ∃ i : Int, vs = [.int i] ∧ Q (.bl true) H
theorem scInt : FnScope ["value"] ["value"] (defScope sInt) := ⟨rfl, rfl, rfl, by decide +kernel, rfl, by decide +kernel, by decide +kernel⟩
theorem ok_int {f : Addr} {fd : FuncData} (F : Fun K "is_integer" "is_integer" sInt f fd) (B : Blt mg) : FnOk P w K mg base CX0 1 f fd ["value"] spInt := by
  refine F.ok scInt (fun vs H Q E h => ?_) (fun cdv A outer s H vs Q E hr h => ?_)
  · obtain ⟨i, rfl, _⟩ := h
    rfl
  · obtain ⟨i, rfl, q⟩ := h
    refine ⟨_, pss_one (ps_ret (pe_and (pe_callB call_isi (by rfl) B.isinstance boot_isinstance' (pa_cons (pv 0) (pa_cons (pe_bltn (v := .ty "int") (by rfl) B.int boot_int' rfl) pa_nil)))
      (pe_one (pe_not (pe_callB call_isi (by rfl) B.isinstance boot_isinstance' (pa_cons (pv 0) (pa_cons (pe_bltn (v := .ty "bool") (by rfl) B.bool boot_bool' rfl) pa_nil))))))), ?_⟩
    refine ⟨_, rfl, .int i, .ty "int", .type "int", .type "int", true, rfl, .ty _, .base (.int i), kit_ty (by decide +kernel), true, rfl, iteT ?_⟩
    exact ⟨_, rfl, .int i, .ty "bool", .type "int", .type "bool", false, rfl, .ty _, .base (.int i), kit_ty (by decide +kernel), false, rfl, q⟩
/-! ### is_count -/
def spCount : Sp := fun vs H Q _ => ∃ i : Int, vs = [.int i] ∧ Q (.bl (decide (0 ≤ i))) H
theorem scCount : FnScope ["value"] ["value"] (defScope sCount) := ⟨rfl, rfl, rfl, by decide +kernel, rfl, by decide +kernel, by decide +kernel⟩
theorem ok_count {f : Addr} {fd : FuncData} (F : Fun K "is_count" "is_count" sCount f fd) (c : Cal P w K mg base 1 "is_integer" spInt) : FnOk P w K mg base CX0 2 f fd ["value"] spCount := by
  refine F.ok scCount (fun vs H Q E h => ?_) (fun cdv A outer s H vs Q E hr h => ?_)
  · obtain ⟨i, rfl, _⟩ := h
    rfl
  · obtain ⟨i, rfl, q⟩ := h
    refine ⟨_, pss_one (ps_ret (pe_and (pe_c c hr (by decide) (by rfl) (pa_cons (pv 0) pa_nil)) (pe_one (pe_cmpR op_ge (pv 0) pe_int (nomark _))))), ?_⟩
    exact ⟨_, rfl, i, rfl, true, rfl, iteT ⟨_, rfl, _, _, rfl, rfl, q⟩⟩
/-! ### require_number -/
def spReqN : Sp := fun vs H Q _ => ∃ i : Int, vs = [.int i] ∧ 0 ≤ i ∧ Q .non H
theorem scReqN : FnScope ["value"] ["value"] (defScope sReqN) := ⟨rfl, rfl, rfl, by decide +kernel, rfl, by decide +kernel, by decide +kernel⟩
theorem ok_reqN {f : Addr} {fd : FuncData} (F : Fun K "require_number" "require_number" sReqN f fd) (c : Cal P w K mg base 2 "is_count" spCount) : FnOk P w K mg base CX0 3 f fd ["value"] spReqN := by
  refine F.ok scReqN (fun vs H Q E h => ?_) (fun cdv A outer s H vs Q E hr h => ?_)
  · obtain ⟨i, rfl, _⟩ := h
    rfl
  · obtain ⟨i, rfl, h0, q⟩ := h
    refine ⟨_, pss_one (ps_if (pt_not (pt_val (pe_c c hr (by decide) (by rfl) (pa_cons (pv 0) pa_nil)))) pss_never pss_nil), ?_⟩
    refine ⟨_, rfl, i, rfl, _, rfl, ?_⟩
    rw [decide_eq_true h0]
    exact iteF q
/-! ### require_coefficients -/
def spReqC : Sp := fun vs H Q _ => ∃ (a : Addr) (cs : List Int), vs = [.ref a] ∧ TupI H a cs ∧ NN cs ∧ cs.length ≤ 1000 ∧ ∀ H', Same H H' → Q .non H'
theorem scReqC : FnScope ["coefficients", "one"] ["coefficients"] (defScope sReqC) := ⟨rfl, rfl, rfl, by decide +kernel, rfl, by decide +kernel, by decide +kernel⟩
theorem ok_reqC {f : Addr} {fd : FuncData} (F : Fun K "require_coefficients" "require_coefficients" sReqC f fd) (B : Blt mg) (c : Cal P w K mg base 2 "is_count" spCount) : FnOk P w K mg base CX0 3 f fd ["coefficients"] spReqC := by
  refine F.ok scReqC (fun vs H Q E h => ?_) (fun cdv A outer s H vs Q E hr h => ?_)
  · obtain ⟨a, cs, rfl, _⟩ := h
    rfl
  · obtain ⟨a, cs, rfl, hT, hn, hl, q⟩ := h
    refine ⟨_, pss_one (ps_if (PW.pt (pw_or (pt_not (pt_val (pe_callB call_isi (by rfl) B.isinstance boot_isinstance' (pa_cons (pv 0) (pa_cons (pe_bltn (v := .ty "tuple") (by rfl) B.tuple boot_tuple' rfl) pa_nil)))))
      (pw_or1 (pt_not (pt_val (pe_callB (cr_all rfl) (by rfl) B.all boot_all' (pa_cons (pe_lc (own := [("one", 1)]) (g := gName 1) (by rfl) scReqC.nd (pi_tup (pv 0)) (blkOk_by (own := [("one", 1)]) (N := ["coefficients", "one"]) (sc := defScope sReqC) (by decide +kernel))
        (fun _ _ _ _ _ => pg_name (i := 1) scReqC.nd rfl (Or.inl rfl)) (fun _ _ _ _ _ => pts_nil) (fun _ _ _ _ _ => pe_c c hr (by decide) (by rfl) (pa_cons (pv 1) pa_nil))) pa_nil))))))) pss_never pss_nil), ?_⟩
    refine ⟨_, rfl, .ref a, .ty "tuple", .type "tuple", .type "tuple", true, rfl, .ty _, .base (.tup hT), kit_ty (by decide +kernel), true, rfl, iteF ?_⟩
    refine ⟨_, rfl, a, rfl, ⟨_, hT.sq⟩, fun D hD => ?_⟩
    have s0 : Same H (upd H D (.lst [])) := same_upd (Same.refl H) hD
    refine lc_tup (K := K) (a := a) (xs := ivs cs) (fun i H' => Same H H' ∧ H' D = some (.lst (List.replicate i (.bl true)))) ⟨s0, upd_same⟩ (fun i H' _ h => (hT.same h.1).sq) ?_ ?_
    · rintro i x H' hi ⟨hs, hD'⟩
      obtain ⟨z, hz, rfl⟩ := ivs_get hi
      refine ⟨rfl, _, rfl, z, rfl, _, hD', ?_, fun b o e => ?_, ?_⟩
      · rw [List.length_replicate]
        have := (List.getElem?_eq_some_iff.mp hz).1
        exact Nat.lt_of_lt_of_le (by omega) (line1000 hl)
      · rw [upd_ne]
        · exact hs _ _ e
        · intro eb; rw [eb, hD] at e; cases e
      · rw [upd_same, decide_eq_true (hn z (List.mem_of_getElem? hz)), List.replicate_succ']
    · rintro H' ⟨hs, hD'⟩
      refine ⟨D, List.replicate (ivs cs).length true, rfl, SqL.of (by rw [List.map_replicate]; exact hD'), _, rfl, ?_⟩
      have e : (List.replicate (ivs cs).length true).all id = true := by simp
      rw [e]
      exact iteF (q H' hs)
end
end Lg

namespace Lg
open PySem L2 Lo
section
variable {P : Program} {w : World} {K : PySem.W.Frag} {mg : Str → Option Value} {base : Heap}
theorem boot_len' : bootBuiltins "len" = some (.builtin "len") := by decide +kernel
theorem boot_zip' : bootBuiltins "zip" = some (.type "zip") := by decide +kernel
theorem boot_tuple2 : bootBuiltins "tuple" = some (.type "tuple") := by decide +kernel
/-! ### trimmed -/
def spTrim : Sp := fun vs H Q _ => ∃ (a : Addr) (cs : List Int), vs = [.ref a] ∧ TupI H a cs ∧ cs.length ≤ 1000 ∧ ∀ H' p, Same H H' → TupI H' p (trim cs) → Q (.ref p) H'
theorem scTrim : FnScope ["coefficients", "size"] ["coefficients"] (defScope sTrim) := ⟨rfl, rfl, rfl, by decide +kernel, rfl, by decide +kernel, by decide +kernel⟩
theorem cut_take (cs : List Int) (k : Nat) (hk : k ≤ cs.length) : cutV (ivs cs) none (some (k : Int)) = ivs (cs.take k) := by
  unfold cutV
  rw [HT.sIx_none, HT.sIx_nat, List.length_map, Nat.min_eq_left hk, List.drop_zero, Nat.sub_zero]
  exact List.map_take.symm
theorem ok_trim {f : Addr} {fd : FuncData} (F : Fun K "trimmed" "trimmed" sTrim f fd) (B : Blt mg) : FnOk P w K mg base CX0 1 f fd ["coefficients"] spTrim := by
  refine F.ok scTrim (fun vs H Q E h => ?_) (fun cdv A outer s H vs Q E hr h => ?_)
  · obtain ⟨a, cs, rfl, _⟩ := h
    rfl
  · obtain ⟨a, cs, rfl, hT, hl, q⟩ := h
    refine ⟨_, pss_cons (ps_set (i := 1) scTrim.nd rfl (.inl rfl) (pe_callB call_len_seq (by rfl) B.len boot_len' (pa_cons (pv 0) pa_nil)))
      (pss_cons (ps_while PySem.PassesOwn.never (PW.pt (pw_and (pt_cmpR op_gt (pv 1) pe_int (nomark _)) (pw_and1 (pt_cmpR op_eq (pe_ix ix_tup (pv 0) (pe_op op_sub (pv 1) pe_int) (fun _ _ => rfl)) pe_int (nomark _)))))
        (pss_one (ps_aug (i := 1) scTrim.nd rfl (.inl rfl) pe_int ip_sub)))
      (pss_one (ps_ret (pe_slice sl_tupA (pv 0) po_none (po_some (pv 1)))))), ?_⟩
    refine ⟨_, rfl, a, _, rfl, .inr hT.sq, ?_⟩
    refine while_by (fun σ H' => ∃ k : Nat, σ = [some (.ref a), some (.int (k : Int))] ∧ H' = H ∧ k ≤ cs.length ∧ ∀ j, k ≤ j → j < cs.length → cs.getD j 0 = 0)
      (fun σ _ => match σ with | [_, some (.int k)] => k.toNat | _ => 0) ⟨cs.length, by rw [List.length_map]; rfl, rfl, Nat.le_refl _, fun j h1 h2 => by omega⟩ ?_ ?_
    · rintro σ H' ⟨k, rfl, rfl, hk, hz⟩
      have fin : (k = 0 ∨ cs.getD (k - 1) 0 ≠ 0) → tRet (tSl (rSlA K) (tVar 0) tNoPart (tPart (tVar 1))) { nx := fun _ H' => Q .non H', rt := Q } [some (.ref a), some (.int (k : Int))] H' := fun hend => by
        have et := trim_take cs k hk hz hend
        refine ⟨_, rfl, _, rfl, (k : Int), rfl, a, _, rfl, hT.sq, fun hw => ?_, fun _ p np => ?_⟩
        · refine q H' a (Same.refl _) ?_
          have e : k = cs.length := by
            have := hw.2
            rw [HT.sIx_nat, List.length_map] at this
            omega
          rw [← et, e, List.take_length]
          exact hT
        · rw [cut_take cs k hk, et]
          exact q _ p (same_upd (Same.refl _) np) tupI_new
      refine ⟨_, rfl, _, _, rfl, rfl, _, rfl, ?_⟩
      by_cases h0 : k = 0
      · rw [decide_eq_false (by omega)]
        refine iteF (iteF ?_)
        exact fin (.inl h0)
      · rw [decide_eq_true (by omega)]
        have hlt : k - 1 < cs.length := by omega
        refine iteT ⟨_, rfl, _, rfl, _, _, rfl, rfl, a, _, _, _, rfl, rfl, hT.sq, at_of (j := k - 1) (by omega) (get_ivs (of_getD hlt)), rfl, _, rfl, ?_⟩
        by_cases hc : cs.getD (k - 1) 0 = 0
        · rw [hc, decide_eq_true rfl]
          refine iteT ⟨_, rfl, _, _, rfl, rfl, ⟨k - 1, ?_, rfl, by omega, fun j h1 h2 => ?_⟩, ?_⟩
          · show [some (V.ref a), some (V.int ((k : Int) - 1))] = _
            rw [show (k : Int) - 1 = ((k - 1 : Nat) : Int) by omega]
          · by_cases e : j = k - 1
            · rw [e]; exact hc
            · exact hz j (by omega) h2
          · show ((k : Int) - 1).toNat < (k : Int).toNat
            omega
        · rw [decide_eq_false (by intro e; exact hc (V.int.inj e))]
          exact iteF (fin (.inr hc))
    · exact mono_and (mono_test (mono_op mono_I0 mono_var mono_c)) (mono_test (mono_op mono_eq (mono_op mono_ixT mono_var (mono_op mono_I0 mono_var mono_c)) mono_c))
end
end Lg

namespace Lg
open PySem L2 Lo
/-- a comprehension over zip of two tuples of one length -/
theorem lc_zipT {K : PySem.W.Frag} {a b : Addr} {xs ys : List V} {g : TG} {tt : TT} {te : TE} {vs : List Nat} {σ : L2.St} {H1 : Hp} {D : Addr} {Qd : Hp → Prop} (hl : xs.length = ys.length) (Pv : Nat → Hp → Prop) (h0 : Pv 0 (upd H1 D (.lst []))) (hq : ∀ i H, Pv i H → SqT K H a xs ∧ SqT K H b ys)
    (hs : ∀ (i : Nat) (x y : V) (T : Addr) (H : Hp), xs[i]? = some x → ys[i]? = some y → Pv i H → H T = none → g (.ref T) (wipe σ vs) (upd H T (.tup [x, y])) fun σ2 H2 => wipe σ2 vs = wipe σ vs ∧ tt σ2 H2 fun b H3 =>
      if b = true then te σ2 H3 fun y H4 => ∃ acc, H4 D = some (.lst acc) ∧ acc.length < sizeLine ∧ Pv (i + 1) (upd H4 D (.lst (acc ++ [y]))) else Pv (i + 1) H3) (hd : ∀ H, Pv xs.length H → Qd H) :
    ∃ W : Nat → Nat → Hp → Prop, (∃ m, W 0 m (upd H1 D (.lst []))) ∧ ∀ i m H, W i m H →
      ((RZ.ItzT K a b).stop i H ∧ Qd H) ∨ ((RZ.ItzT K a b).go i H ∧ ∃ Nx : Hp → Prop, (∀ H', Nx H' → ∃ m', m' < m ∧ W (i + 1) m' H') ∧ ∀ x H', (RZ.ItzT K a b).yld i H x H' → g x (wipe σ vs) H' fun σ2 H2 => wipe σ2 vs = wipe σ vs ∧ tt σ2 H2 fun b H3 =>
        if b = true then te σ2 H3 fun y H4 => ∃ acc, H4 D = some (.lst acc) ∧ acc.length < sizeLine ∧ Nx (upd H4 D (.lst (acc ++ [y]))) else Nx H3) := by
  refine ⟨fun i m H => m = xs.length - i ∧ i ≤ xs.length ∧ Pv i H, ⟨xs.length, rfl, Nat.zero_le _, h0⟩, ?_⟩
  rintro i m H ⟨rfl, hi, p⟩
  obtain ⟨qx, qy⟩ := hq i H p
  by_cases hlt : i < xs.length
  · have hx : xs[i]? = some xs[i] := List.getElem?_eq_getElem hlt
    have hlt2 : i < ys.length := by omega
    have hy : ys[i]? = some ys[i] := List.getElem?_eq_getElem hlt2
    refine .inr ⟨⟨xs, ys, _, _, qx, qy, hx, hy⟩, Pv (i + 1), fun H' p' => ⟨xs.length - (i + 1), by omega, rfl, hlt, p'⟩, fun v H' y => ?_⟩
    obtain ⟨T, x', y', rfl, hT, rfl, f1, f2⟩ := y
    exact hs i x' y' T H (f1 xs qx) (f2 ys qy) p hT
  · have e : i = xs.length := by omega
    subst e
    exact .inl ⟨⟨xs, ys, qx, qy, Or.inl (Nat.le_refl _)⟩, hd H p⟩
/-- what a list that a comprehension builds at D leaves as it was -/
theorem same_at {H H' : Hp} {D : Addr} {o : HO} (s : Same H H') (hD : H D = none) : Same H (upd H' D o) := fun b u e => by
  rw [upd_ne (ne_of_none e hD)]
  exact s _ _ e
section
variable {P : Program} {w : World} {K : PySem.W.Frag} {mg : Str → Option Value} {base : Heap}
/-! ### sum_in -/
def spSum : Sp := fun vs H Q _ => ∃ (a b : Addr) (xs ys : List Int), vs = [.ref a, .ref b] ∧ TupI H a xs ∧ TupI H b ys ∧ xs.length ≤ 1000 ∧ ys.length ≤ 1000 ∧ ∀ H' p, Same H H' → TupI H' p (addL xs ys) → Q (.ref p) H'
theorem scSum : FnScope ["first", "second", "longer", "shorter", "more", "one", "other"] ["first", "second"] (defScope sSum) := ⟨rfl, rfl, rfl, by decide +kernel, rfl, by decide +kernel, by decide +kernel⟩
theorem rep_flat (k : Nat) : (List.replicate k (ivs [0])).flatten = ivs (List.replicate k 0) := by
  induction k with
  | zero => rfl
  | succ k ih => rw [List.replicate_succ, List.replicate_succ, List.flatten_cons, ih]; rfl
theorem zip_step {xs ys : List Int} {i : Nat} {x y : Int} (hx : xs[i]? = some x) (hy : ys[i]? = some y) : (List.zipWith (· + ·) xs ys).take i ++ [x + y] = (List.zipWith (· + ·) xs ys).take (i + 1) := by
  rw [List.take_add_one, List.getElem?_zipWith, hx, hy]
  rfl
theorem rep_all {H : Hp} {p : Addr} {z : Int} {d : Nat} {Q : VK} (hz : z = (d : Int)) (hp : TupI H p [0]) (hd : d ≤ 1000) (q : ∀ r H2, Same H H2 → TupI H2 r (List.replicate d 0) → Q (.ref r) H2) : rRepA K (.ref p) (.int z) H Q := by
  subst hz
  refine ⟨p, d, _, rfl, rfl, hp.sq, List.cons_ne_nil _ _, by omega, by omega, by show 1 ≤ 1000; decide, fun e => ?_, fun _ r nr => ?_⟩
  · have e1 : d = 1 := by omega
    subst e1
    exact q p H (Same.refl _) hp
  · rw [Int.toNat_natCast]
    show Q (.ref r) (upd H r (.tup (List.replicate d (ivs [0])).flatten))
    rw [rep_flat]
    exact q r _ (same_upd (Same.refl _) nr) tupI_new
theorem cat_all {H : Hp} {m r : Addr} {vs zs : List Int} {Q : VK} (hm : TupI H m vs) (hr : TupI H r zs) (hl : vs.length + zs.length ≤ 2000) (q : ∀ z H2, Same H H2 → TupI H2 z (vs ++ zs) → Q (.ref z) H2) : rCatA K (.ref m) (.ref r) H Q := by
  refine ⟨m, r, _, _, rfl, rfl, hm.sq, hr.sq, ?_, fun e => ?_, fun _ e => ?_, fun _ _ z nz => ?_⟩
  · rw [List.length_map, List.length_map]
    exact Nat.le_trans hl (by decide)
  · have e1 : vs = [] := List.map_eq_nil_iff.mp e
    subst e1
    exact q r H (Same.refl _) hr
  · have e1 : zs = [] := List.map_eq_nil_iff.mp e
    subst e1
    exact q m H (Same.refl _) (by rw [List.append_nil]; exact hm)
  · rw [← List.map_append]
    exact q z _ (same_upd (Same.refl _) nz) tupI_new
theorem ok_sum {f : Addr} {fd : FuncData} (F : Fun K "sum_in" "sum_in" sSum f fd) (B : Blt mg) : FnOk P w K mg base CX0 1 f fd ["first", "second"] spSum := by
  refine F.ok scSum (fun vs H Q E h => ?_) (fun cdv A outer s H vs Q E hr h => ?_)
  · obtain ⟨a, b, xs, ys, rfl, _⟩ := h
    rfl
  · obtain ⟨a, b, xs, ys, rfl, hA, hB, lx, ly, q⟩ := h
    refine ⟨_, C8.pss_cut (ps_asg (pe_ifExp (pt_cmpR op_ge (pe_callB call_len_seq (by rfl) B.len boot_len' (pa_cons (pv 0) pa_nil)) (pe_callB call_len_seq (by rfl) B.len boot_len' (pa_cons (pv 1) pa_nil)) (nomark _))
        (pe_tup (pa_cons (pv 0) (pa_cons (pv 1) pa_nil))) (pe_tup (pa_cons (pv 1) (pa_cons (pv 0) pa_nil))))
        (pg_tup rfl (pgs_cons (pg_name (i := 2) scSum.nd rfl (.inl rfl)) (pgs_cons (pg_name (i := 3) scSum.nd rfl (.inl rfl)) pgs_nil))))
      (pss_cons (ps_set (i := 4) scSum.nd rfl (.inl rfl) (pe_op op_catA (pv 3) (pe_op op_repA (pe_tup (pa_cons pe_int pa_nil))
        (pe_op op_sub (pe_callB call_len_seq (by rfl) B.len boot_len' (pa_cons (pv 2) pa_nil)) (pe_callB call_len_seq (by rfl) B.len boot_len' (pa_cons (pv 3) pa_nil))))))
      (pss_one (ps_ret (pe_callTy call_tuple_of (by rfl) B.tuple boot_tuple2 (pa_cons (pe_lc (own := [("one", 5), ("other", 6)]) (g := gTup K 2 (gCons (gName 5) (gCons (gName 6) gNil))) (by rfl) scSum.nd (RZ.pi_zipA (by rfl) B.zip (pa_cons (pv 2) (pa_cons (pv 4) pa_nil)))
        (blkOk_by (own := [("one", 5), ("other", 6)]) (N := ["first", "second", "longer", "shorter", "more", "one", "other"]) (sc := defScope sSum) (by decide +kernel))
        (fun _ _ _ _ _ => pg_tup rfl (pgs_cons (pg_name (i := 5) scSum.nd rfl (.inl rfl)) (pgs_cons (pg_name (i := 6) scSum.nd rfl (.inl rfl)) pgs_nil))) (fun _ _ _ _ _ => pts_nil) (fun _ _ _ _ _ => pe_op op_add (pv 5) (pv 6))) pa_nil))))), ?_⟩
    refine ⟨fun σ H1 => ∃ (l m : Addr) (us vs : List Int), σ = [some (.ref a), some (.ref b), some (.ref l), some (.ref m), none, none, none] ∧ Same H H1 ∧ TupI H1 l us ∧ TupI H1 m vs ∧ vs.length ≤ us.length ∧ us.length ≤ 1000 ∧ addL us vs = addL xs ys, ?_, ?_⟩
    · refine ⟨_, rfl, a, _, rfl, .inr hA.sq, _, rfl, b, _, rfl, .inr hB.sq, _, _, rfl, rfl, _, rfl, ?_⟩
      rw [List.length_map, List.length_map]
      by_cases hle : ys.length ≤ xs.length
      · rw [decide_eq_true (by omega)]
        refine iteT ⟨_, rfl, _, rfl, by show 2 ≤ sizeLine; decide, fun p np => ⟨p, _, rfl, SqT.of upd_same, rfl, _, _, rfl, _, _, rfl, rfl, ?_⟩⟩
        exact ⟨a, b, xs, ys, rfl, same_upd (Same.refl _) np, hA.same (same_upd (Same.refl _) np), hB.same (same_upd (Same.refl _) np), hle, lx, rfl⟩
      · rw [decide_eq_false (by omega)]
        refine iteF ⟨_, rfl, _, rfl, by show 2 ≤ sizeLine; decide, fun p np => ⟨p, _, rfl, SqT.of upd_same, rfl, _, _, rfl, _, _, rfl, rfl, ?_⟩⟩
        exact ⟨b, a, ys, xs, rfl, same_upd (Same.refl _) np, hB.same (same_upd (Same.refl _) np), hA.same (same_upd (Same.refl _) np), by omega, ly, addL_comm _ _⟩
    · rintro σ H1 ⟨l, m, us, vs, rfl, s1, hL, hM, hle, lu, e⟩
      have hd : ((ivs us).length : Int) - ((ivs vs).length : Int) = ((us.length - vs.length : Nat) : Int) := by rw [List.length_map, List.length_map]; omega
      refine ⟨_, rfl, by show 1 ≤ sizeLine; decide, fun p np => ⟨_, rfl, l, _, rfl, .inr (TupI.same hL (same_upd (Same.refl _) np)).sq, _, rfl, m, _, rfl, .inr (TupI.same hM (same_upd (Same.refl _) np)).sq, _, _, rfl, rfl, ?_⟩⟩
      refine rep_all (p := p) hd (tupI_new (cs := [0])) (by omega) fun r H2 s2 hR => cat_all ((hM.same (same_upd (Same.refl _) np)).same s2) hR (by rw [List.length_replicate]; omega) fun z H3 s3 hZ => ?_
      have s13 : Same H1 H3 := ((same_upd (Same.refl _) np).trans s2).trans s3
      have hL3 := hL.same s13
      refine ⟨_, rfl, _, rfl, l, z, _, _, rfl, .inr ⟨hL3.sq, hZ.sq, fun D hD => ?_⟩⟩
      have hlen : (ivs us).length = (ivs (vs ++ List.replicate (us.length - vs.length) 0)).length := by
        rw [List.length_map, List.length_map, List.length_append, List.length_replicate]; omega
      have ez := addL_zip us vs hle
      refine lc_zipT hlen (fun i H' => Same H3 H' ∧ H' D = some (.lst (ivs ((addL us vs).take i)))) ⟨same_upd (Same.refl _) hD, upd_same⟩ (fun i H' h => ⟨(hL3.same h.1).sq, (hZ.same h.1).sq⟩) ?_ ?_
      · rintro i x y T H' hx hy ⟨s4, hD'⟩ nT
        obtain ⟨x', hx', rfl⟩ := ivs_get hx
        obtain ⟨y', hy', rfl⟩ := ivs_get hy
        have nDT : D ≠ T := ne_of_none hD' nT
        refine ⟨T, _, rfl, SqT.of upd_same, rfl, _, _, rfl, _, _, rfl, rfl, rfl, _, rfl, _, rfl, _, _, rfl, rfl, _, (by rw [upd_ne nDT]; exact hD'), ?_, same_at (same_upd s4 nT) hD, ?_⟩
        · rw [List.length_map, List.length_take]
          exact Nat.lt_of_le_of_lt (Nat.min_le_right _ _) (by rw [len_addL]; exact Nat.lt_of_le_of_lt (by omega : _ ≤ 1000) (by decide))
        · rw [upd_same, ← ez, ← zip_step hx' hy', ivs, ivs, List.map_append]
          rfl
      · rintro H' ⟨s4, hD'⟩
        rw [List.length_map] at hD'
        have et : (addL us vs).take us.length = addL us vs := List.take_of_length_le (by rw [len_addL]; omega)
        rw [et] at hD'
        refine ⟨D, _, rfl, .inl ⟨SqL.of hD', fun r2 nr => ?_⟩⟩
        rw [e]
        exact q _ r2 (same_upd ((s1.trans s13).trans s4) nr) tupI_new
end
end Lg

namespace Lg
open PySem L2 Lo
section
variable {P : Program} {w : World} {K : PySem.W.Frag} {mg : Str → Option Value} {base : Heap}
theorem boot_range' : bootBuiltins "range" = some (.type "range") := by decide +kernel
theorem boot_sum' : bootBuiltins "sum" = some (.builtin "sum") := by decide +kernel
/-! ### product_at -/
def spProdAt : Sp := fun vs H Q _ => ∃ (a b : Addr) (xs ys : List Int) (p : Int) (L M k j : Nat), vs = [.ref a, .ref b, .int p] ∧ TupI H a xs ∧ TupI H b ys ∧ Fit xs L k ∧ Fit ys M j ∧ L ≤ 1000 ∧ M ≤ 1000 ∧ k + j ≤ 900000 ∧
  ∀ H', Same H H' → Q (.int (coefAt xs ys p)) H'
theorem scProdAt : FnScope ["first", "second", "place", "spots", "at"] ["first", "second", "place"] (defScope sProdAt) := ⟨rfl, rfl, rfl, by decide +kernel, rfl, by decide +kernel, by decide +kernel⟩
def natV (l : List Nat) : List V := l.map fun (i : Nat) => V.int (i : Int)
theorem natV_get {l : List Nat} {i : Nat} {x : V} (h : (natV l)[i]? = some x) : ∃ c, l[i]? = some c ∧ x = .int (c : Int) := by
  unfold natV at h
  rw [List.getElem?_map] at h
  cases e : l[i]? with
  | none => rw [e] at h; cases h
  | some c => rw [e] at h; exact ⟨c, rfl, (Option.some.inj h).symm⟩
theorem mem_spots {xs ys : List Int} {p : Int} {i : Nat} (h : i ∈ spots xs ys p) : i < xs.length ∧ 0 ≤ p - (i : Int) ∧ p - (i : Int) < (ys.length : Int) := by
  obtain ⟨h1, h2⟩ := List.mem_filter.mp h
  rw [Bool.and_eq_true, decide_eq_true_eq, decide_eq_true_eq] at h2
  exact ⟨List.mem_range.mp h1, h2⟩
theorem ok_prodAt {f : Addr} {fd : FuncData} (F : Fun K "product_at" "product_at" sProdAt f fd) (B : Blt mg) : FnOk P w K mg base CX0 1 f fd ["first", "second", "place"] spProdAt := by
  refine F.ok scProdAt (fun vs H Q E h => ?_) (fun cdv A outer s H vs Q E hr h => ?_)
  · obtain ⟨a, b, xs, ys, p, L, M, k, j, rfl, _⟩ := h
    rfl
  · obtain ⟨a, b, xs, ys, p, L, M, k, j, rfl, hA, hB, fA, fB, hL, hM, hkj, q⟩ := h
    have lA := fA.len
    have lB := fB.len
    refine ⟨_, pss_cons (ps_setLc (i := 3) (own := [("at", 4)]) (g := gName 4) (tt := tTest (tChain (rI0 fun i j => .bl (decide (i ≤ j))) (rI0 fun i j => .bl (decide (i < j))) (tC (.int 0)) (tOp (rI0 fun i j => .int (i - j)) (tVar 2) (tVar 4)) (tCB (fun xs H Q => ∃ p ys, xs = [.ref p] ∧ (SqL K H p ys ∨ SqT K H p ys) ∧ Q (.int ys.length) H) (tCons (tVar 1) tNil))))
        (te := tVar 4) rfl scProdAt.nd rfl rfl (sw_true rfl rfl rfl (by decide +kernel)) (pi_range1 (by rfl) B.range (pa_cons (pe_callB call_len_seq (by rfl) B.len boot_len' (pa_cons (pv 0) pa_nil)) pa_nil))
        (blkOk_by (own := [("at", 4)]) (N := ["first", "second", "place", "spots", "at"]) (sc := defScope sProdAt) (by decide +kernel)) (fun _ _ _ _ _ => pg_name (i := 4) scProdAt.nd rfl (Or.inl rfl))
        (fun _ _ _ _ _ => pts_one (pt_chain op_le op_lt pe_int (pe_op op_sub (pv 2) (pv 4)) (pe_callB call_len_seq (by rfl) B.len boot_len' (pa_cons (pv 1) pa_nil)))) (fun _ _ _ _ _ => pv 4))
      (pss_one (ps_ret (pe_callB (cr_sum rfl) (by rfl) B.sum boot_sum' (pa_cons (pe_lc (own := [("at", 4)]) (g := gName 4) (te := tOp (rI CMulW fun i j => .int (i * j)) (tOp (rIxT K) (tVar 0) (tVar 4)) (tOp (rIxT K) (tVar 1) (tOp (rI0 fun i j => .int (i - j)) (tVar 2) (tVar 4)))) rfl scProdAt.nd (pi_list (pv 3))
        (blkOk_by (own := [("at", 4)]) (N := ["first", "second", "place", "spots", "at"]) (sc := defScope sProdAt) (by decide +kernel)) (fun _ _ _ _ _ => pg_name (i := 4) scProdAt.nd rfl (Or.inl rfl)) (fun _ _ _ _ _ => pts_nil)
        (fun _ _ _ _ _ => pe_op op_mulW (pe_ix ix_tup (pv 0) (pv 4) (fun _ _ => rfl)) (pe_ix ix_tup (pv 1) (pe_op op_sub (pv 2) (pv 4)) (fun _ _ => rfl)))) pa_nil)))), ?_⟩
    refine ⟨_, rfl, a, _, rfl, .inr hA.sq, _, rfl, ?_, ?_, fun D hD => ?_⟩
    · show -(2 ^ 62) ≤ (((ivs xs).length : Nat) : Int)
      omega
    · show (((ivs xs).length : Nat) : Int) < 2 ^ 62
      rw [List.length_map]
      omega
    refine lc_range (lo := 0) (n := _) (fun i H' => Same H H' ∧ H' D = some (.lst (natV ((List.range i).filter fun (i : Nat) => decide (0 ≤ p - (i : Int)) && decide (p - (i : Int) < (ys.length : Int))))))
      ⟨same_upd (Same.refl _) hD, upd_same⟩ ?_ ?_
    · rintro i H' hi ⟨hs, hD'⟩
      have hB' := hB.same hs
      refine ⟨rfl, _, rfl, _, rfl, _, _, rfl, rfl, _, _, rfl, rfl, _, rfl, ?_⟩
      have hix : (0 : Int) + (i : Int) = (i : Int) := Int.zero_add _
      have fl : ((List.range (i + 1)).filter fun (i : Nat) => decide (0 ≤ p - (i : Int)) && decide (p - (i : Int) < (ys.length : Int))) = ((List.range i).filter fun (i : Nat) => decide (0 ≤ p - (i : Int)) && decide (p - (i : Int) < (ys.length : Int))) ++ (if (decide (0 ≤ p - (i : Int)) && decide (p - (i : Int) < (ys.length : Int))) = true then [i] else []) := by
        rw [List.range_succ, List.filter_append, List.filter_cons]
        rfl
      have add : 0 ≤ p - (i : Int) → p - (i : Int) < (ys.length : Int) → natV ((List.range i).filter fun (i : Nat) => decide (0 ≤ p - (i : Int)) && decide (p - (i : Int) < (ys.length : Int))) ++ [.int ((0 : Int) + (i : Int))] = natV ((List.range (i + 1)).filter fun (i : Nat) => decide (0 ≤ p - (i : Int)) && decide (p - (i : Int) < (ys.length : Int))) := fun h1 h2 => by
        rw [fl, decide_eq_true h1, decide_eq_true h2, hix]
        unfold natV
        rw [List.map_append]; rfl
      have skip : ¬ (0 ≤ p - (i : Int) ∧ p - (i : Int) < (ys.length : Int)) → ((List.range (i + 1)).filter fun (i : Nat) => decide (0 ≤ p - (i : Int)) && decide (p - (i : Int) < (ys.length : Int))) = ((List.range i).filter fun (i : Nat) => decide (0 ≤ p - (i : Int)) && decide (p - (i : Int) < (ys.length : Int))) := fun h => by
        rw [fl, if_neg, List.append_nil]
        rw [Bool.and_eq_true, decide_eq_true_eq, decide_eq_true_eq]
        exact h
      have line : ∀ l : List Nat, l.length ≤ 1000 → (natV l).length < sizeLine := fun l h => by
        unfold natV
        rw [List.length_map]
        exact Nat.lt_of_le_of_lt h (by decide)
      have hi2 : i ≤ 1000 := by
        have : (((ivs xs).length : Nat) : Int).toNat ≤ 1000 := by rw [List.length_map]; omega
        omega
      have lf : ((List.range i).filter fun (i : Nat) => decide (0 ≤ p - (i : Int)) && decide (p - (i : Int) < (ys.length : Int))).length ≤ 1000 := Nat.le_trans (List.length_filter_le _ _) (by rw [List.length_range]; exact hi2)
      by_cases h1 : 0 ≤ p - ((0 : Int) + (i : Int))
      · rw [decide_eq_true h1]
        refine iteT ⟨_, rfl, b, _, rfl, .inr hB'.sq, _, _, rfl, rfl, _, rfl, ?_⟩
        rw [List.length_map]
        by_cases h2 : p - ((0 : Int) + (i : Int)) < (ys.length : Int)
        · rw [decide_eq_true h2]
          refine iteT ⟨_, rfl, _, hD', line _ lf, same_at hs hD, ?_⟩
          rw [upd_same, add (by omega) (by omega)]
        · rw [decide_eq_false h2]
          refine iteF ⟨hs, ?_⟩
          rw [skip (by omega)]; exact hD'
      · rw [decide_eq_false h1]
        refine iteF ⟨_, rfl, iteF ⟨hs, ?_⟩⟩
        rw [skip (by omega)]; exact hD'
    · rintro H' ⟨hs, hD'⟩
      have en : (((ivs xs).length : Nat) : Int).toNat = xs.length := by rw [List.length_map]; omega
      rw [en] at hD'
      have hD2 : H' D = some (.lst (natV (spots xs ys p))) := hD'
      have hA' := hA.same hs
      have hB' := hB.same hs
      refine ⟨_, rfl, D, rfl, ⟨_, SqL.of hD2⟩, fun D2 nD2 => ?_⟩
      refine lc_list (K := K) (a := D) (xs := natV (spots xs ys p)) (fun i H'' => Same H' H'' ∧ H'' D2 = some (.lst (ivs (((spots xs ys p).take i).map fun i => xs.getD i 0 * ys.getD (p - (i : Int)).toNat 0)))) ⟨same_upd (Same.refl _) nD2, upd_same⟩
        (fun i H'' _ h => SqL.of (h.1 _ _ hD2)) ?_ ?_
      · rintro i x H'' hx ⟨s2, hD3⟩
        obtain ⟨c, hc, rfl⟩ := natV_get hx
        obtain ⟨c1, c2, c3⟩ := mem_spots (List.mem_of_getElem? hc)
        have g1 := fA.getD c
        have g2 := fB.getD (p - (c : Int)).toNat
        refine ⟨rfl, _, rfl, _, rfl, a, _, _, _, rfl, rfl, (hA'.same s2).sq, atI_nat (get_ivs (of_getD c1)), _, rfl, _, rfl, _, rfl, _, _, rfl, rfl, b, _, _, _, rfl, rfl, (hB'.same s2).sq,
          at_of (j := (p - (c : Int)).toNat) (by omega) (get_ivs (of_getD (by omega))), _, _, rfl, rfl, mulW g1.1 (Int.le_of_lt g1.2) g2.1 (Int.le_of_lt g2.2) (by omega), _, hD3, ?_, same_at s2 nD2, ?_⟩
        · rw [List.length_map, List.length_map, List.length_take]
          refine Nat.lt_of_le_of_lt (Nat.min_le_right _ _) ?_
          exact Nat.lt_of_le_of_lt (Nat.le_trans (List.length_filter_le _ _) (by rw [List.length_range]; omega : _ ≤ 1000)) (by decide)
        · rw [upd_same, List.take_add_one, hc, List.map_append, ivs, ivs, List.map_append]
          rfl
      · rintro H'' ⟨s2, hD3⟩
        have e2 : (spots xs ys p).take (natV (spots xs ys p)).length = spots xs ys p := List.take_of_length_le (by unfold natV; rw [List.length_map]; exact Nat.le_refl _)
        rw [e2] at hD3
        exact ⟨D2, _, rfl, SqL.of hD3, q H'' (hs.trans s2)⟩
end
end Lg

namespace Lg
open PySem L2 Lo
/-! ### == of tuples and lists of ints -/
theorem eqvAll_ints : ∀ cs ds : List Int, PyData.eqvAll (cs.map PyData.int) (ds.map PyData.int) = decide (cs = ds)
  | [], [] => by simp [PyData.eqvAll]
  | [], d :: ds => by simp [PyData.eqvAll]
  | c :: cs, [] => by simp [PyData.eqvAll]
  | c :: cs, d :: ds => by
    rw [List.map_cons, List.map_cons, PyData.eqvAll, PyData.eqv, eqvAll_ints cs ds]
    by_cases h : c = d
    · subst h; simp
    · simp [h]
theorem eqv_tup (cs ds : List Int) : PyData.eqv (.tuple (cs.map PyData.int)) (.tuple (ds.map PyData.int)) = decide (cs = ds) := by rw [PyData.eqv, eqvAll_ints]
theorem eqv_lst (cs ds : List Int) : PyData.eqv (.list (cs.map PyData.int)) (.list (ds.map PyData.int)) = decide (cs = ds) := by rw [PyData.eqv, eqvAll_ints]
theorem lay_ints : ∀ cs : List Int, PyData.canLayAll0 (cs.map PyData.int) = true
  | [] => rfl
  | c :: cs => by rw [List.map_cons, PyData.canLayAll0, lay_ints cs]; rfl
theorem depth_ints : ∀ cs : List Int, PyData.depthAll (cs.map PyData.int) = 0
  | [] => by simp [PyData.depthAll]
  | c :: cs => by rw [List.map_cons, PyData.depthAll, depth_ints cs]; simp [PyData.depth]
theorem shaped_tup (cs : List Int) : SeqAt.shaped (.tuple (cs.map PyData.int)) = true := by
  unfold SeqAt.shaped
  rw [PyData.canLay0, lay_ints, PyData.depth, depth_ints]; rfl
theorem shaped_lst (cs : List Int) : SeqAt.shaped (.list (cs.map PyData.int)) = true := by
  unfold SeqAt.shaped
  rw [PyData.canLay0, lay_ints, PyData.depth, depth_ints]; rfl
theorem dp_all {K : PySem.W.Frag} {H : Hp} : ∀ cs : List Int, DpAll K H (ivs cs) (cs.map PyData.int)
  | [] => .nil
  | c :: cs => .cons (.int c) (dp_all cs)
theorem dp_tup {K : PySem.W.Frag} {H : Hp} {a : Addr} {cs : List Int} (h : TupI H a cs) : Dp K H (.ref a) (.tuple (cs.map PyData.int)) := .tup h.sq (dp_all cs)
theorem dp_lst {K : PySem.W.Frag} {H : Hp} {a : Addr} {cs : List Int} (h : H a = some (.lst (ivs cs))) : Dp K H (.ref a) (.list (cs.map PyData.int)) := .lst (SqL.of h) (dp_all cs)
section
variable {P : Program} {w : World} {K : PySem.W.Frag} {mg : Str → Option Value} {base : Heap}
/-! ### product_in -/
def spProd : Sp := fun vs H Q _ => ∃ (a b : Addr) (xs ys : List Int) (L M k j : Nat), vs = [.ref a, .ref b] ∧ TupI H a xs ∧ TupI H b ys ∧ Fit xs L k ∧ Fit ys M j ∧ L + M ≤ 1000 ∧ k + j ≤ 900000 ∧
  ∀ H' p, Same H H' → TupI H' p (mulL xs ys) → Q (.ref p) H'
theorem scProd : FnScope ["first", "second", "size", "place"] ["first", "second"] (defScope sProd) := ⟨rfl, rfl, rfl, by decide +kernel, rfl, by decide +kernel, by decide +kernel⟩
theorem ok_prod {f : Addr} {fd : FuncData} (F : Fun K "product_in" "product_in" sProd f fd) (B : Blt mg) (c : Cal P w K mg base 1 "product_at" spProdAt) : FnOk P w K mg base CX0 2 f fd ["first", "second"] spProd := by
  refine F.ok scProd (fun vs H Q E h => ?_) (fun cdv A outer s H vs Q E hr h => ?_)
  · obtain ⟨a, b, xs, ys, L, M, k, j, rfl, _⟩ := h
    rfl
  · obtain ⟨a, b, xs, ys, L, M, k, j, rfl, hA, hB, fA, fB, hLM, hkj, q⟩ := h
    have lA := fA.len
    have lB := fB.len
    refine ⟨_, C8.pss_cut (ps_if (PW.pt (pw_or (pt_cmpR (op_eqD hr.units) (pv 0) (pe_tup pa_nil) (nomark _)) (pw_or1 (pt_cmpR (op_eqD hr.units) (pv 1) (pe_tup pa_nil) (nomark _))))) (pss_one (ps_ret (pe_tup pa_nil))) pss_nil)
      (pss_cons (ps_set (i := 2) scProd.nd rfl (.inl rfl) (pe_op op_sub (pe_op op_add (pe_callB call_len_seq (by rfl) B.len boot_len' (pa_cons (pv 0) pa_nil)) (pe_callB call_len_seq (by rfl) B.len boot_len' (pa_cons (pv 1) pa_nil))) pe_int))
      (pss_one (ps_ret (pe_callTy call_tuple_of (by rfl) B.tuple boot_tuple2 (pa_cons (pe_lc (own := [("place", 3)]) (g := gName 3) (te := tCl spProdAt (tCons (tVar 0) (tCons (tVar 1) (tCons (tVar 3) tNil)))) rfl scProd.nd
        (pi_range1 (by rfl) B.range (pa_cons (pv 2) pa_nil)) (blkOk_by (own := [("place", 3)]) (N := ["first", "second", "size", "place"]) (sc := defScope sProd) (by decide +kernel)) (fun _ _ _ _ _ => pg_name (i := 3) scProd.nd rfl (Or.inl rfl))
        (fun _ _ _ _ _ => pts_nil) (fun _ _ _ _ _ => pe_c c hr (by decide) (by rfl) (pa_cons (pv 0) (pa_cons (pv 1) (pa_cons (pv 3) pa_nil))))) pa_nil))))), ?_⟩
    refine ⟨fun σ H1 => σ = [some (.ref a), some (.ref b), none, none] ∧ Same H H1 ∧ xs ≠ [] ∧ ys ≠ [], ?_, ?_⟩
    · have none1 : ∀ H1, Same H H1 → (xs = [] ∨ ys = []) → tRet (tTup tNil) { nx := fun σ H1 => σ = [some (.ref a), some (.ref b), none, none] ∧ Same H H1 ∧ xs ≠ [] ∧ ys ≠ [], rt := Q } [some (.ref a), some (.ref b), none, none] H1 := fun H1 s1 hn =>
        ⟨Nat.zero_le _, fun p np => q _ p (same_upd s1 np) (by rw [mulL, if_pos hn]; exact tupI_new (cs := []))⟩
      refine ⟨_, rfl, Nat.zero_le _, fun p np => ⟨_, _, dp_tup (hA.same (same_upd (Same.refl _) np)), dp_tup (cs := []) upd_same, shaped_tup _, shaped_tup [], _, rfl, ?_⟩⟩
      have s1 : Same H (upd H p (.tup [])) := same_upd (Same.refl _) np
      rw [eqv_tup]
      by_cases hx : xs = []
      · rw [decide_eq_true hx]
        exact iteT (iteT (none1 _ s1 (.inl hx)))
      · rw [decide_eq_false hx]
        refine iteF ⟨_, rfl, Nat.zero_le _, fun p2 np2 => ⟨_, _, dp_tup (hB.same (same_upd s1 np2)), dp_tup (cs := []) upd_same, shaped_tup _, shaped_tup [], _, rfl, ?_⟩⟩
        rw [eqv_tup]
        by_cases hy : ys = []
        · rw [decide_eq_true hy]
          exact iteT (none1 _ (same_upd s1 np2) (.inr hy))
        · rw [decide_eq_false hy]
          exact iteF ⟨rfl, same_upd s1 np2, hx, hy⟩
    · rintro σ H1 ⟨rfl, s1, hx, hy⟩
      have hA1 := hA.same s1
      have hB1 := hB.same s1
      have px := List.length_pos_iff.mpr hx
      have py := List.length_pos_iff.mpr hy
      refine ⟨_, rfl, a, _, rfl, .inr hA1.sq, _, rfl, b, _, rfl, .inr hB1.sq, _, _, rfl, rfl, _, _, rfl, rfl, _, rfl, _, rfl, ?_, ?_, fun D hD => ?_⟩
      · rw [List.length_map, List.length_map]; omega
      · rw [List.length_map, List.length_map]; omega
      have en : ((((ivs xs).length : Nat) : Int) + (((ivs ys).length : Nat) : Int) - 1).toNat = xs.length + ys.length - 1 := by rw [List.length_map, List.length_map]; omega
      refine lc_range (lo := 0) (n := _) (fun i H' => Same H1 H' ∧ H' D = some (.lst (ivs ((List.range i).map fun (p : Nat) => coefAt xs ys (p : Int))))) ⟨same_upd (Same.refl _) hD, upd_same⟩ ?_ ?_
      · rintro i H' hi ⟨s2, hD'⟩
        rw [en] at hi
        refine ⟨rfl, _, rfl, _, rfl, _, rfl, a, b, xs, ys, (0 : Int) + (i : Int), L, M, k, j, rfl, hA1.same s2, hB1.same s2, fA, fB, by omega, by omega, hkj, fun H2 s3 => ?_⟩
        refine ⟨_, s3 _ _ hD', ?_, same_at (s2.trans s3) hD, ?_⟩
        · rw [List.length_map, List.length_map, List.length_range]
          exact Nat.lt_of_le_of_lt (by omega : _ ≤ 1000) (by decide)
        · rw [upd_same, List.range_succ, List.map_append, Int.zero_add, ivs, ivs, List.map_append]
          rfl
      · rintro H' ⟨s2, hD'⟩
        rw [en] at hD'
        refine ⟨D, _, rfl, .inl ⟨SqL.of hD', fun r nr => q _ r (same_upd (s1.trans s2) nr) ?_⟩⟩
        rw [mulL, if_neg (by intro h; rcases h with h | h; exact hx h; exact hy h)]
        exact tupI_new
/-! ### power_in -/
def spPow : Sp := fun vs H Q _ => ∃ (a : Addr) (xs : List Int) (m L k : Nat), vs = [.ref a, .int (m : Int)] ∧ TupI H a xs ∧ Fit xs L k ∧ m ≤ 20 ∧ 1 + 21 * L ≤ 900 ∧ 1 + 21 * k ≤ 800000 ∧
  ∀ H' p, Same H H' → TupI H' p (powL xs m) → Q (.ref p) H'
theorem scPow : FnScope ["coefficients", "many", "found", "turn"] ["coefficients", "many"] (defScope sPow) := ⟨rfl, rfl, rfl, by decide +kernel, rfl, by decide +kernel, by decide +kernel⟩
theorem ok_pow {f : Addr} {fd : FuncData} (F : Fun K "power_in" "power_in" sPow f fd) (B : Blt mg) (c : Cal P w K mg base 2 "product_in" spProd) : FnOk P w K mg base CX0 3 f fd ["coefficients", "many"] spPow := by
  refine F.ok scPow (fun vs H Q E h => ?_) (fun cdv A outer s H vs Q E hr h => ?_)
  · obtain ⟨a, xs, m, L, k, rfl, _⟩ := h
    rfl
  · obtain ⟨a, xs, m, L, k, rfl, hA, fA, hm, hL, hk, q⟩ := h
    refine ⟨_, pss_cons (ps_set (i := 2) scPow.nd rfl (.inl rfl) (pe_tup (pa_cons pe_int pa_nil))) (pss_cons (ps_for PySem.PassesOwn.never rfl (pi_range1 (by rfl) B.range (pa_cons (pv 1) pa_nil)) (pg_name (i := 3) scPow.nd rfl (.inl rfl))
      (pss_one (ps_set (i := 2) scPow.nd rfl (.inl rfl) (pe_c c hr (by decide) (by rfl) (pa_cons (pv 2) (pa_cons (pv 0) pa_nil)))))) (pss_one (ps_ret (pv 2)))), ?_⟩
    refine ⟨by show 1 ≤ sizeLine; decide, fun p np => ⟨_, rfl, _, rfl, by omega, by omega, ?_⟩⟩
    have en : ((m : Nat) : Int).toNat = m := Int.toNat_natCast m
    rw [en]
    refine for_range (fun i σ H' => ∃ r v, σ = [some (.ref a), some (.int (m : Int)), some (.ref r), v] ∧ Same H H' ∧ TupI H' r (powL xs i)) ⟨p, none, rfl, same_upd (Same.refl _) np, tupI_new (cs := [1])⟩ ?_ ?_
    · rintro i σ H' hi ⟨r, v, rfl, s1, hR⟩
      have fi := fA.pow i
      have e1 : i * L ≤ 20 * L := Nat.mul_le_mul_right L (by omega)
      have e2 : i * k ≤ 20 * k := Nat.mul_le_mul_right k (by omega)
      refine ⟨_, rfl, _, rfl, r, a, _, _, _, _, _, _, rfl, hR, hA.same s1, fi, fA, by omega, by omega, fun H2 z s2 hZ => ?_⟩
      exact ⟨z, _, rfl, s1.trans s2, hZ⟩
    · rintro σ H' ⟨r, v, rfl, s1, hR⟩
      exact ⟨_, rfl, q H' r s1 hR⟩
/-! ### inner_in -/
def spInner : Sp := fun vs H Q _ => ∃ (a b : Addr) (xs ys : List Int) (L M k j : Nat), vs = [.ref a, .ref b] ∧ TupI H a xs ∧ TupI H b ys ∧ Fit xs L k ∧ Fit ys M j ∧ L * (M + 1) + M ≤ 900 ∧ k + j * (L + 1) ≤ 800000 ∧
  ∀ H' p, Same H H' → TupI H' p (innerL xs ys) → Q (.ref p) H'
theorem scInner : FnScope ["outer", "inner", "found", "one"] ["outer", "inner"] (defScope sInner) := ⟨rfl, rfl, rfl, by decide +kernel, rfl, by decide +kernel, by decide +kernel⟩
theorem inner_step {xs ys : List Int} {i : Nat} {c : Int} (hi : i < xs.length) (h : xs.reverse[i]? = some c) : innerL (xs.drop (xs.length - (i + 1))) ys = addL (mulL (innerL (xs.drop (xs.length - i)) ys) ys) [c] := by
  have e : xs.length - i = xs.length - (i + 1) + 1 := by omega
  have hlt : xs.length - (i + 1) < xs.length := by omega
  have hc : xs[xs.length - (i + 1)] = c := by
    rw [List.getElem?_reverse (by omega)] at h
    rw [List.getElem?_eq_getElem (by omega)] at h
    have := Option.some.inj h
    rw [← this]
    congr 1
    omega
  rw [e, List.drop_eq_getElem_cons hlt, innerL, hc]
theorem ok_inner {f : Addr} {fd : FuncData} (F : Fun K "inner_in" "inner_in" sInner f fd) (cp : Cal P w K mg base 2 "product_in" spProd) (cs : Cal P w K mg base 1 "sum_in" spSum) : FnOk P w K mg base CX0 3 f fd ["outer", "inner"] spInner := by
  refine F.ok scInner (fun vs H Q E h => ?_) (fun cdv A outer s H vs Q E hr h => ?_)
  · obtain ⟨a, b, xs, ys, L, M, k, j, rfl, _⟩ := h
    rfl
  · obtain ⟨a, b, xs, ys, L, M, k, j, rfl, hA, hB, fA, fB, hLM, hkj, q⟩ := h
    refine ⟨_, pss_cons (ps_set (i := 2) scInner.nd rfl (.inl rfl) (pe_tup pa_nil)) (pss_cons (ps_for PySem.PassesOwn.never rfl (pi_tup (pe_revT (pv 0))) (pg_name (i := 3) scInner.nd rfl (.inl rfl))
      (pss_one (ps_set (i := 2) scInner.nd rfl (.inl rfl) (pe_c cs hr (by decide) (by rfl) (pa_cons (pe_c cp hr (by decide) (by rfl) (pa_cons (pv 2) (pa_cons (pv 1) pa_nil))) (pa_cons (pe_tup (pa_cons (pv 3) pa_nil)) pa_nil)))))) (pss_one (ps_ret (pv 2)))), ?_⟩
    refine ⟨Nat.zero_le _, fun p np => ⟨_, rfl, a, _, rfl, (hA.same (same_upd (Same.refl _) np)).sq, fun p2 np2 => ?_⟩⟩
    have s0 : Same H (upd (upd H p (.tup [])) p2 (.tup (ivs xs).reverse)) := same_upd (same_upd (Same.refl _) np) np2
    have h0 : TupI (upd (upd H p (.tup [])) p2 (.tup (ivs xs).reverse)) p [] := TupI.same (H := upd H p (.tup [])) (tupI_new (cs := [])) (same_upd (Same.refl _) np2)
    refine ⟨p2, rfl, ⟨_, SqT.of upd_same⟩, for_tup (K := K) (a := p2) (xs := (ivs xs).reverse) (fun i σ H' => ∃ r v, σ = [some (.ref a), some (.ref b), some (.ref r), v] ∧ Same H H' ∧ H' p2 = some (.tup (ivs xs).reverse) ∧ TupI H' r (innerL (xs.drop (xs.length - i)) ys))
      ⟨p, none, rfl, s0, upd_same, by rw [Nat.sub_zero, List.drop_length]; exact h0⟩ ?_ ?_ ?_⟩
    · rintro i σ H' _ ⟨r, v, _, _, e, _⟩
      exact SqT.of e
    · rintro i x σ H' hi ⟨r, v, rfl, s1, hp2, hR⟩
      have hlt : i < xs.length := by
        have := (List.getElem?_eq_some_iff.mp hi).1
        rw [List.length_reverse, List.length_map] at this
        exact this
      rw [← List.map_reverse] at hi
      obtain ⟨c, hc, rfl⟩ := ivs_get hi
      have fR := (fA.drop (xs.length - i)).inner fB
      have e0 : j * (L + 1) = j * L + j := Nat.mul_succ j L
      refine ⟨_, rfl, _, rfl, r, b, _, _, _, _, _, _, rfl, hR, hB.same s1, fR, fB, by omega, by omega, fun H2 z s2 hZ => ?_⟩
      have lz := (fR.mul fB).len
      refine ⟨_, rfl, by show 1 ≤ sizeLine; decide, fun u nu => ⟨z, u, _, [c], rfl, hZ.same (same_upd (Same.refl _) nu), tupI_new (cs := [c]), by omega, by show 1 ≤ 1000; decide, fun H3 y s3 hY => ?_⟩⟩
      have s4 : Same H' H3 := (s2.trans (same_upd (Same.refl _) nu)).trans s3
      exact ⟨y, _, rfl, s1.trans s4, s4 _ _ hp2, by rw [inner_step hlt hc]; exact hY⟩
    · rintro σ H' ⟨r, v, rfl, s1, _, hR⟩
      refine ⟨_, rfl, q H' r s1 ?_⟩
      rw [List.length_reverse, List.length_map, Nat.sub_self, List.drop_zero] at hR
      exact hR
end
end Lg

namespace Lg
open PySem L2 Lo
section
variable {P : Program} {w : World} {K : PySem.W.Frag} {mg : Str → Option Value} {base : Heap}
theorem ms_at : MS spAt := fun vs H Q Q' E m ⟨a, cs, n, L, k, b, e, hT, hF, h0, hn, hz, q⟩ => ⟨a, cs, n, L, k, b, e, hT, hF, h0, hn, hz, fun H' s => m _ _ (q H' s)⟩
theorem two61 : (2 : Int) ^ 61 = 2305843009213693952 := by decide
/-! ### least_in -/
def spLeast : Sp := fun vs H Q _ => ∃ (a : Addr) (cs : List Int) (m : Int) (L k : Nat), vs = [.ref a, .int (ev cs m)] ∧ TupI H a cs ∧ Can cs ∧ 2 ≤ cs.length ∧ Fit cs L k ∧ 0 ≤ m ∧ m ≤ 1152921504606846976 ∧ k + 61 * (L + 1) ≤ 900000 ∧
  ∀ H', Same H H' → Q (.int m) H'
theorem scLeast : FnScope ["coefficients", "goal", "high", "low", "middle"] ["coefficients", "goal"] (defScope sLeast) := ⟨rfl, rfl, rfl, by decide +kernel, rfl, by decide +kernel, by decide +kernel⟩
theorem ok_least {f : Addr} {fd : FuncData} (F : Fun K "least_in" "least_in" sLeast f fd) (B : Blt mg) (c : Cal P w K mg base 1 "at_in" spAt) : FnOk P w K mg base CX0 2 f fd ["coefficients", "goal"] spLeast := by
  refine F.ok scLeast (fun vs H Q E h => ?_) (fun cdv A outer s H vs Q E hr h => ?_)
  · obtain ⟨a, cs, m, L, k, rfl, _⟩ := h
    rfl
  · obtain ⟨a, cs, m, L, k, rfl, hT, hC, h2, hF, h0, hm, hz, q⟩ := h
    refine ⟨_, pss_cons (ps_if (pt_cmpR op_ge (pe_c c hr (by decide) (by rfl) (pa_cons (pv 0) (pa_cons pe_int pa_nil))) (pv 1) (nomark _)) (pss_one (ps_ret pe_int)) pss_nil)
      (pss_cons (ps_if (pt_cmpR op_lt (pe_callB call_len_seq (by rfl) B.len boot_len' (pa_cons (pv 0) pa_nil)) pe_int (nomark _)) pss_never pss_nil)
      (pss_cons (ps_set (i := 2) scLeast.nd rfl (.inl rfl) pe_int)
      (pss_cons (ps_while PySem.PassesOwn.never (pt_cmpR op_lt (pe_c c hr (by decide) (by rfl) (pa_cons (pv 0) (pa_cons (pv 2) pa_nil))) (pv 1) (nomark _)) (pss_one (ps_aug (i := 2) scLeast.nd rfl (.inl rfl) pe_int iop_mul)))
      (pss_cons (ps_set (i := 3) scLeast.nd rfl (.inl rfl) (pe_op op_fdiv (pv 2) pe_int))
      (pss_cons (ps_while PySem.PassesOwn.never (pt_cmpR op_lt (pe_op op_add (pv 3) pe_int) (pv 2) (nomark _))
        (pss_cons (ps_set (i := 4) scLeast.nd rfl (.inl rfl) (pe_op op_fdiv (pe_op op_add (pv 3) (pv 2)) pe_int))
        (pss_one (ps_if (pt_cmpR op_lt (pe_c c hr (by decide) (by rfl) (pa_cons (pv 0) (pa_cons (pv 4) pa_nil))) (pv 1) (nomark _)) (pss_one (ps_set (i := 3) scLeast.nd rfl (.inl rfl) (pv 4))) (pss_one (ps_set (i := 2) scLeast.nd rfl (.inl rfl) (pv 4)))))))
      (pss_one (ps_ret (pv 2)))))))), ?_⟩
    refine ⟨_, rfl, a, cs, 0, L, k, 61, rfl, hT, hF, Int.le_refl _, by decide, hz, fun H1 s1 => ⟨_, rfl, _, _, rfl, rfl, _, rfl, ?_⟩⟩
    by_cases hb : ev cs m ≤ ev cs 0
    · rw [decide_eq_true hb]
      have em : m = 0 := by
        have := (ev_lt_iff (n := 0) (m := m) (Int.le_refl _) h0 hC h2)
        omega
      subst em
      exact iteT (q H1 s1)
    · rw [decide_eq_false hb]
      have pm : 0 < m := by
        have := (ev_lt_iff (n := 0) (m := m) (Int.le_refl _) h0 hC h2)
        omega
      refine iteF ⟨_, rfl, a, _, rfl, .inr (hT.same s1).sq, _, _, rfl, rfl, _, rfl, ?_⟩
      rw [List.length_map, decide_eq_false (by omega)]
      refine iteF ?_
      refine while_by (fun σ H' => ∃ h : Int, σ = [some (.ref a), some (.int (ev cs m)), some (.int h), none, none] ∧ Same H H' ∧ 1 ≤ h ∧ h / 2 < m) (fun σ _ => match σ with | [_, _, some (.int h), _, _] => (2 * m - h).toNat | _ => 0)
        ⟨1, rfl, s1, Int.le_refl _, pm⟩ ?_ (mono_test (mono_op mono_I0 (mono_cl ms_at (mono_cons mono_var (mono_cons mono_var mono_nil))) mono_var))
      rintro σ H2 ⟨h, rfl, s2, l1, l2⟩
      refine ⟨_, rfl, _, rfl, a, cs, h, L, k, 61, rfl, hT.same s2, hF, by omega, by rw [two61]; omega, hz, fun H3 s3 => ⟨_, rfl, _, _, rfl, rfl, _, rfl, ?_⟩⟩
      have s23 := s2.trans s3
      have iff1 := ev_lt_iff (n := h) (m := m) (by omega) h0 hC h2
      by_cases hlt : h < m
      · rw [decide_eq_true (iff1.mpr hlt)]
        refine iteT ⟨_, rfl, _, _, rfl, rfl, .inr (by decide), ⟨h * 2, rfl, s23, by omega, by omega⟩, ?_⟩
        show (2 * m - h * 2).toNat < (2 * m - h).toNat
        omega
      · rw [decide_eq_false (fun z => hlt (iff1.mp z))]
        refine iteF ⟨_, rfl, _, _, rfl, rfl, by show (0 : Int) < 2 ∧ (2 : Int) < 1073741824; decide, ?_⟩
        refine while_by (fun σ H' => ∃ h lo v, σ = [some (.ref a), some (.int (ev cs m)), some (.int h), some (.int lo), v] ∧ Same H H' ∧ 0 ≤ lo ∧ lo < m ∧ m ≤ h ∧ h ≤ 2305843009213693952) (fun σ _ => match σ with | [_, _, some (.int h), some (.int lo), _] => (h - lo).toNat | _ => 0)
          ⟨h, h / 2, none, rfl, s23, by omega, by omega, by omega, by omega⟩ ?_ (mono_test (mono_op mono_I0 (mono_op mono_I0 mono_var mono_c) mono_var))
        rintro σ H4 ⟨h', lo, v, rfl, s4, b1, b2, b3, b4⟩
        refine ⟨_, rfl, _, _, rfl, rfl, _, rfl, _, _, rfl, rfl, _, rfl, ?_⟩
        by_cases hgo : lo + 1 < h'
        · rw [decide_eq_true hgo]
          refine iteT ⟨_, rfl, _, rfl, _, _, rfl, rfl, _, _, rfl, rfl, by show (0 : Int) < 2 ∧ (2 : Int) < 1073741824; decide, ?_⟩
          refine ⟨_, rfl, _, rfl, a, cs, (lo + h') / 2, L, k, 61, rfl, hT.same s4, hF, by omega, by rw [two61]; omega, hz, fun H5 s5 => ⟨_, rfl, _, _, rfl, rfl, _, rfl, ?_⟩⟩
          have s45 := s4.trans s5
          have iff2 := ev_lt_iff (n := (lo + h') / 2) (m := m) (by omega) h0 hC h2
          by_cases hm2 : (lo + h') / 2 < m
          · rw [decide_eq_true (iff2.mpr hm2)]
            refine iteT ⟨_, rfl, ⟨h', (lo + h') / 2, _, rfl, s45, by omega, hm2, b3, b4⟩, ?_⟩
            show (h' - (lo + h') / 2).toNat < (h' - lo).toNat
            omega
          · rw [decide_eq_false (fun z => hm2 (iff2.mp z))]
            refine iteF ⟨_, rfl, ⟨(lo + h') / 2, lo, _, rfl, s45, b1, b2, by omega, by omega⟩, ?_⟩
            show ((lo + h') / 2 - lo).toNat < (h' - lo).toNat
            omega
        · rw [decide_eq_false hgo]
          have e : h' = m := by omega
          subst e
          exact iteF ⟨_, rfl, q H4 s4⟩
end
end Lg

namespace Lg
open PySem L2 Lo
/-! ### a polynomial in the heap -/
abbrev fC : Str := "own_coefficients"
def PolyAt (C : Addr) (H : Hp) (p : Addr) (cs : List Int) : Prop := ∃ dx t, H p = some (.ins C dx [(fC, .ref t)]) ∧ TupI H t cs
theorem PolyAt.same {C : Addr} {H H' : Hp} {p : Addr} {cs : List Int} (h : PolyAt C H p cs) (s : Same H H') : PolyAt C H' p cs := by
  obtain ⟨dx, t, h1, h2⟩ := h
  exact ⟨dx, t, s _ _ h1, h2.same s⟩
/-- a polynomial, or an int as one -/
def Opd (C : Addr) (H : Hp) (v : V) (cs : List Int) : Prop := (∃ p, v = .ref p ∧ PolyAt C H p cs) ∨ (∃ i : Int, v = .int i ∧ 0 ≤ i ∧ cs = [i])
theorem Opd.same {C : Addr} {H H' : Hp} {v : V} {cs : List Int} (h : Opd C H v cs) (s : Same H H') : Opd C H' v cs := by
  rcases h with ⟨p, e, h⟩ | h
  · exact .inl ⟨p, e, h.same s⟩
  · exact .inr h
/-- what the text's class has -/
structure PolyC (K : PySem.W.Frag) (mg : Str → Option Value) (C : Addr) : Prop where
  cl : Cls K C
  nF : NoAttr K C fC
  mgC : mg "Polynomial" = some (.ref C)
  ca : PySem.W.findIn K (.ref C) "__class__" = some (some (.builtin "object.__class__"))
  cn : PySem.W.specialIn K (.builtin "object.__class__") "__get__" = some (some (.builtin "getset_descriptor.__get__"))
  ct : PySem.W.takesIn K (.builtin "object.__class__") = some true
  cm : PySem.W.mroIn K C (.type "object") = some true
  ty : PySem.W.typeIn K (.ref C) = some (.type "type")
  s1 : PySem.W.subIn K (.type "int") (.ref C) = some false
  s2 : PySem.W.subIn K (.ref C) (.type "int") = some false
  sf : PySem.W.selfFirst K C = true
  ne : PySem.W.findIn K (.ref C) "__ne__" = some (some (.builtin "object.__ne__"))
section
variable {P : Program} {w : World} {K : PySem.W.Frag} {mg : Str → Option Value} {base : Heap} {C : Addr}
theorem PolyC.kit1 (_T : PolyC K mg C) : PySem.W.kitOne K (.ref C) (.ref C) = some true := if_pos (beq_self_eq_true _)
theorem PolyC.kit0 (T : PolyC K mg C) : PySem.W.kitOne K (.type "int") (.ref C) = some false := by
  unfold PySem.W.kitOne
  rw [if_neg (by intro q; cases beq_iff_eq.mp q)]
  unfold PySem.W.kitCls
  have hc : (PySem.W.clsIn K C).isSome = true := by
    obtain ⟨cd, hc, _⟩ := PySem.W.any_some T.cl.hd
    rw [hc]; rfl
  show (if ((PySem.W.clsIn K C).isSome && PySem.W.typeIn K (.ref C) == some (.type "type")) = true then _ else _) = _
  rw [hc, T.ty, if_pos (by simp)]
  exact T.s1
theorem PolyC.tyx (T : PolyC K mg C) {H : Hp} {p : Addr} {cs : List Int} (h : PolyAt C H p cs) : TyX K H (.ref p) (.ref C) := by
  obtain ⟨dx, t, h1, _⟩ := h
  exact .base (.ins h1 T.cl T.ca T.cn T.ct T.cm)
/-- self.own_coefficients -/
theorem fld_ok {H : Hp} {p : Addr} {cs : List Int} {σ : L2.St} {i : Nat} {Q : VK} (T : PolyC K mg C) (hσ : σ[i]? = some (some (.ref p))) (h : PolyAt C H p cs) (q : ∀ t, TupI H t cs → Q (.ref t) H) : tFld K (tVar i) fC σ H Q := by
  obtain ⟨dx, t, h1, h2⟩ := h
  exact ⟨_, hσ, p, C, dx, _, _, rfl, h1, T.cl, T.nF, rfl, q t h2⟩

/-! ### __init__ -/
def spInit0 (C : Addr) : Sp := fun vs H Q _ => ∃ (x p dx : Addr) (cs : List Int), vs = [.ref x, .ref p] ∧ H x = some (.ins C dx []) ∧ TupI H p cs ∧ NN cs ∧ cs.length ≤ 1000 ∧
  ∀ H' t, (∀ b o, b ≠ x → H b = some o → H' b = some o) → H' x = some (.ins C dx [(fC, .ref t)]) → TupI H' t (trim cs) → Q .non H'
def spInit (C : Addr) : Sp := fun vs H Q E => ∃ ws rest : List V, vs = ws ++ rest ∧ ws.length = (["self"] : List Str).length ∧ rest.length ≤ sizeLine ∧ ∀ p, H p = Option.none → spInit0 C (ws ++ [V.ref p]) (upd H p (.tup rest)) Q E
theorem scInit : FnScope ((["self"] : List Str) ++ (["coefficients"] : List Str)) ((["self"] : List Str) ++ (["coefficients"] : List Str)) (defScope (meth 0)) := ⟨rfl, rfl, rfl, by decide +kernel, rfl, by decide +kernel, by decide +kernel⟩
theorem ok_init {f : Addr} {fd : FuncData} (F : Fun K "__init__" "Polynomial.__init__" (meth 0) f fd) (T : PolyC K mg C) (cr : Cal P w K mg base 3 "require_coefficients" spReqC) (ct : Cal P w K mg base 1 "trimmed" spTrim) : FnR P w K mg base CX0 4 f (spInit C) := by
  obtain ⟨oc, od, kV, doc, pm, an, cdv, ct', osl, rfl, lk, hcd⟩ := F.ex
  refine StX.fn_star (ps := ["self"]) (pv := "coefficients") lk hcd scInit StX.cxUp_none (StX.bind_star1 (B := fun l => bindArgs (PySem.W.fnOf "__init__" "Polynomial.__init__" (defArgs (meth 0)) (defBody (meth 0)) (defScope (meth 0)) .none kV doc pm an cdv ct') ⟨l, []⟩) (fun a => rfl) fun a r rs => rfl) fun A outer s H vs Q E hr h => ?_
  obtain ⟨x, p, dx, cs, rfl, hx, hp, hn, hl, q⟩ := h
  refine ⟨_, pss_cons (ps_expr (pe_c cr hr (by decide) (by rfl) (pa_cons (pv 1) pa_nil))) (pss_one (ps_fld (pv 0) (pe_c ct hr (by decide) (by rfl) (pa_cons (pv 1) pa_nil)) rfl)), ?_⟩
  refine ⟨_, rfl, p, cs, rfl, hp, hn, hl, fun H1 s1 => ⟨_, rfl, p, cs, rfl, hp.same s1, hl, fun H2 t s2 ht => ⟨_, rfl, x, C, dx, [], rfl, s2 _ _ (s1 _ _ hx), T.cl, T.nF, by show 0 < 1000; decide, ?_⟩⟩⟩
  have nt : t ≠ x := ne_of ht (s2 _ _ (s1 _ _ hx)) (by intro z; cases z)
  exact q _ t (fun b o hb e => by rw [upd_ne hb]; exact s2 _ _ (s1 _ _ e)) upd_same (by show upd H2 x _ t = _; rw [upd_ne nt]; exact ht)
/-- a new polynomial -/
theorem new_poly {H : Hp} {cs : List Int} {Q : VK} (hn : NN cs) (hl : cs.length ≤ 1000) (q : ∀ H' x, Same H H' → PolyAt C H' x (trim cs) → Q (.ref x) H') : newI C (spInit C) E0 (ivs cs) H Q := by
  intro x dx nx nd ne
  refine ⟨[.ref x], ivs cs, rfl, rfl, by rw [List.length_map]; exact line1000 hl, fun p np => ?_⟩
  have nxp : x ≠ p := fun e => by
    rw [← e, upd_same] at np
    cases np
  refine ⟨x, p, dx, cs, rfl, by rw [upd_ne nxp]; exact upd_same, tupI_new, hn, hl, fun H' t k e ht => ⟨rfl, q H' x (fun b o hb => ?_) ⟨dx, t, e, ht⟩⟩⟩
  have nbx : b ≠ x := ne_of_none hb nx
  have nbd : b ≠ dx := ne_of_none hb nd
  have nbp : b ≠ p := fun z => by
    rw [z] at hb nbx nbd
    rw [upd_ne nbx, upd_ne nbd, hb] at np
    cases np
  refine k b o nbx ?_
  rw [upd_ne nbp, upd_ne nbx, upd_ne nbd]
  exact hb

/-! ### made, coefficients_of -/
def spMade (C : Addr) : Sp := fun vs H Q _ => ∃ (a : Addr) (cs : List Int), vs = [.ref a] ∧ TupI H a cs ∧ NN cs ∧ cs.length ≤ 1000 ∧ ∀ H' x, Same H H' → PolyAt C H' x (trim cs) → Q (.ref x) H'
theorem scMade : FnScope ["coefficients"] ["coefficients"] (defScope sMade) := ⟨rfl, rfl, rfl, by decide +kernel, rfl, by decide +kernel, by decide +kernel⟩
theorem ok_made {f fi : Addr} {fd : FuncData} (F : Fun K "made" "made" sMade f fd) (T : PolyC K mg C) (M : Mk K C fi) (I : FnR P w K mg base CX0 4 fi (spInit C)) : FnOk P w K mg base CX0 6 f fd ["coefficients"] (spMade C) := by
  refine F.ok scMade (fun vs H Q E h => ?_) (fun cdv A outer s H vs Q E hr h => ?_)
  · obtain ⟨a, cs, rfl, _⟩ := h
    rfl
  · obtain ⟨a, cs, rfl, hT, hn, hl, q⟩ := h
    refine ⟨_, pss_one (ps_ret (pe_makeS M I hr (by rfl) T.mgC pass0 (pv 0))), ?_⟩
    exact ⟨_, rfl, a, _, rfl, .inl hT.sq, new_poly hn hl q⟩
def spCoef (C : Addr) : Sp := fun vs H Q _ => ∃ (v : V) (cs : List Int), vs = [v] ∧ Opd C H v cs ∧ ∀ H' t, Same H H' → TupI H' t cs → Q (.ref t) H'
theorem scCoef : FnScope ["value"] ["value"] (defScope sCoef) := ⟨rfl, rfl, rfl, by decide +kernel, rfl, by decide +kernel, by decide +kernel⟩
theorem ok_coef {f : Addr} {fd : FuncData} (F : Fun K "coefficients_of" "coefficients_of" sCoef f fd) (B : Blt mg) (T : PolyC K mg C) (cc : Cal P w K mg base 2 "is_count" spCount) : FnOk P w K mg base CX0 3 f fd ["value"] (spCoef C) := by
  refine F.ok scCoef (fun vs H Q E h => ?_) (fun cdv A outer s H vs Q E hr h => ?_)
  · obtain ⟨v, cs, rfl, _⟩ := h
    rfl
  · obtain ⟨v, cs, rfl, ho, q⟩ := h
    refine ⟨_, pss_cons (ps_if (pt_val (pe_callB call_isi (by rfl) B.isinstance boot_isinstance' (pa_cons (pv 0) (pa_cons (pe_glob (v := .ref C) (by rfl) T.mgC rfl) pa_nil)))) (pss_one (ps_ret (pe_fld (pv 0) rfl))) pss_nil)
      (pss_cons (ps_if (pt_not (pt_val (pe_c cc hr (by decide) (by rfl) (pa_cons (pv 0) pa_nil)))) pss_never pss_nil) (pss_one (ps_ret (pe_tup (pa_cons (pv 0) pa_nil))))), ?_⟩
    rcases ho with ⟨p, rfl, hp⟩ | ⟨i, rfl, h0, rfl⟩
    · refine ⟨_, rfl, .ref p, .ref C, .ref C, .ref C, true, rfl, .own C, T.tyx hp, T.kit1, true, rfl, iteT ?_⟩
      exact fld_ok T rfl hp fun t ht => q H t (Same.refl _) ht
    · refine ⟨_, rfl, .int i, .ref C, .type "int", .ref C, false, rfl, .own C, .base (.int i), T.kit0, false, rfl, iteF ?_⟩
      refine ⟨_, rfl, i, rfl, _, rfl, ?_⟩
      rw [decide_eq_true h0]
      exact iteF ⟨_, rfl, by show 1 ≤ sizeLine; decide, fun t nt => q _ t (same_upd (Same.refl _) nt) (tupI_new (cs := [i]))⟩
end
end Lg

namespace Lg
open PySem L2 Lo
section
variable {P : Program} {w : World} {K : PySem.W.Frag} {mg : Str → Option Value} {base : Heap} {C : Addr}
/-! ### of -/
@[irreducible] def spOf (C : Addr) : Sp := fun vs H Q _ => ∃ (a : Addr) (cs : List Int), vs = [.ref C, .ref a] ∧ TupI H a cs ∧ NN cs ∧ cs.length ≤ 1000 ∧ ∀ H' x, Same H H' → PolyAt C H' x (trim cs) → Q (.ref x) H'
theorem scOf : FnScope ["cls", "coefficients"] ["cls", "coefficients"] (defScope (meth 1)) := ⟨rfl, rfl, rfl, by decide +kernel, rfl, by decide +kernel, by decide +kernel⟩
theorem ok_of {f fi : Addr} {fd : FuncData} (F : Fun K "of" "Polynomial.of" (meth 1) f fd) (M : Mk K C fi) (I : FnR P w K mg base CX0 4 fi (spInit C)) (cr : Cal P w K mg base 3 "require_coefficients" spReqC) : FnOk P w K mg base CX0 6 f fd ["cls", "coefficients"] (spOf C) := by
  refine F.ok scOf (fun vs H Q E h => ?_) (fun cdv A outer s H vs Q E hr h => ?_)
  · unfold spOf at h
    obtain ⟨a, cs, rfl, _⟩ := h
    rfl
  · unfold spOf at h
    obtain ⟨a, cs, rfl, hT, hn, hl, q⟩ := h
    refine ⟨_, pss_cons (ps_expr (pe_c cr hr (by decide) (by rfl) (pa_cons (pv 1) pa_nil))) (pss_one (ps_ret (pe_makeSV (i := 0) M I hr (by rfl) (Or.inl rfl) pass0 (pv 1)))), ?_⟩
    refine ⟨_, rfl, a, cs, rfl, hT, hn, hl, fun H1 s1 => ?_⟩
    exact ⟨rfl, _, rfl, a, _, rfl, .inl (hT.same s1).sq, new_poly hn hl fun H' x s2 h => q H' x (s1.trans s2) h⟩
/-! ### the properties -/
@[irreducible] def spCo (C : Addr) : Sp := fun vs H Q _ => ∃ (p : Addr) (cs : List Int), vs = [.ref p] ∧ PolyAt C H p cs ∧ ∀ t, TupI H t cs → Q (.ref t) H
theorem scCo : FnScope ["self"] ["self"] (defScope (meth 2)) := ⟨rfl, rfl, rfl, by decide +kernel, rfl, by decide +kernel, by decide +kernel⟩
theorem ok_co {f : Addr} {fd : FuncData} (F : Fun K "coefficients" "Polynomial.coefficients" (meth 2) f fd) (T : PolyC K mg C) : FnOk P w K mg base CX0 1 f fd ["self"] (spCo C) := by
  refine F.ok scCo (fun vs H Q E h => ?_) (fun cdv A outer s H vs Q E hr h => ?_)
  · unfold spCo at h
    obtain ⟨p, cs, rfl, _⟩ := h
    rfl
  · unfold spCo at h
    obtain ⟨p, cs, rfl, hp, q⟩ := h
    exact ⟨_, pss_one (ps_ret (pe_fld (pv 0) rfl)), fld_ok T rfl hp q⟩
@[irreducible] def spDeg (C : Addr) : Sp := fun vs H Q _ => ∃ (p : Addr) (cs : List Int), vs = [.ref p] ∧ PolyAt C H p cs ∧ Q (.int ((cs.length : Int) - 1)) H
theorem scDeg : FnScope ["self"] ["self"] (defScope (meth 3)) := ⟨rfl, rfl, rfl, by decide +kernel, rfl, by decide +kernel, by decide +kernel⟩
theorem ok_deg {f : Addr} {fd : FuncData} (F : Fun K "degree" "Polynomial.degree" (meth 3) f fd) (B : Blt mg) (T : PolyC K mg C) : FnOk P w K mg base CX0 1 f fd ["self"] (spDeg C) := by
  refine F.ok scDeg (fun vs H Q E h => ?_) (fun cdv A outer s H vs Q E hr h => ?_)
  · unfold spDeg at h
    obtain ⟨p, cs, rfl, _⟩ := h
    rfl
  · unfold spDeg at h
    obtain ⟨p, cs, rfl, hp, q⟩ := h
    refine ⟨_, pss_one (ps_ret (pe_op op_sub (pe_callB call_len_seq (by rfl) B.len boot_len' (pa_cons (pe_fld (pv 0) rfl) pa_nil)) pe_int)), ?_⟩
    refine fld_ok T rfl hp fun t ht => ⟨t, _, rfl, .inr ht.sq, _, _, rfl, rfl, ?_⟩
    show Q (.int (((ivs cs).length : Int) - 1)) H
    rw [List.length_map]
    exact q
/-! ### reach -/
def spReach (C : Addr) : Sp := fun vs H Q _ => ∃ (p : Addr) (cs : List Int) (m : Int) (L k : Nat), vs = [.ref p, .int (ev cs m)] ∧ PolyAt C H p cs ∧ Can cs ∧ 2 ≤ cs.length ∧ Fit cs L k ∧ 0 ≤ m ∧ m ≤ 1152921504606846976 ∧ k + 61 * (L + 1) ≤ 900000 ∧ ∀ H', Same H H' → Q (.int m) H'
theorem scReach : FnScope ["self", "goal"] ["self", "goal"] (defScope (meth 4)) := ⟨rfl, rfl, rfl, by decide +kernel, rfl, by decide +kernel, by decide +kernel⟩
theorem ok_reach {f : Addr} {fd : FuncData} (F : Fun K "reach" "Polynomial.reach" (meth 4) f fd) (T : PolyC K mg C) (cr : Cal P w K mg base 3 "require_number" spReqN) (cl : Cal P w K mg base 2 "least_in" spLeast) : FnOk P w K mg base CX0 4 f fd ["self", "goal"] (spReach C) := by
  refine F.ok scReach (fun vs H Q E h => ?_) (fun cdv A outer s H vs Q E hr h => ?_)
  · obtain ⟨p, cs, m, L, k, rfl, _⟩ := h
    rfl
  · obtain ⟨p, cs, m, L, k, rfl, hp, hC, h2, hF, h0, hm, hz, q⟩ := h
    refine ⟨_, pss_cons (ps_expr (pe_c cr hr (by decide) (by rfl) (pa_cons (pv 1) pa_nil))) (pss_one (ps_ret (pe_c cl hr (by decide) (by rfl) (pa_cons (pe_fld (pv 0) rfl) (pa_cons (pv 1) pa_nil))))), ?_⟩
    refine ⟨_, rfl, _, rfl, ev_nn hC.nn h0, ?_⟩
    obtain ⟨dx, t, h1, ht⟩ := hp
    exact ⟨_, rfl, p, C, dx, _, _, rfl, h1, T.cl, T.nF, rfl, _, rfl, t, cs, m, L, k, rfl, ht, hC, h2, hF, h0, hm, hz, q⟩
/-! ### at -/
@[irreducible] def spAtM (C : Addr) : Sp := fun vs H Q _ => ∃ (p r : Addr) (xs ys : List Int) (L M k j : Nat), vs = [.ref p, .ref r] ∧ PolyAt C H p xs ∧ PolyAt C H r ys ∧ Fit xs L k ∧ Fit ys M j ∧ L * (M + 1) + M ≤ 900 ∧ k + j * (L + 1) ≤ 800000 ∧
  ∀ H' x, Same H H' → PolyAt C H' x (pat xs ys) → Q (.ref x) H'
theorem scAtM : FnScope ["self", "other"] ["self", "other"] (defScope (meth 5)) := ⟨rfl, rfl, rfl, by decide +kernel, rfl, by decide +kernel, by decide +kernel⟩
theorem ok_atM {f : Addr} {fd : FuncData} (F : Fun K "at" "Polynomial.at" (meth 5) f fd) (B : Blt mg) (T : PolyC K mg C) (cm : Cal P w K mg base 6 "made" (spMade C)) (ci : Cal P w K mg base 3 "inner_in" spInner) : FnOk P w K mg base CX0 7 f fd ["self", "other"] (spAtM C) := by
  refine F.ok scAtM (fun vs H Q E h => ?_) (fun cdv A outer s H vs Q E hr h => ?_)
  · unfold spAtM at h
    obtain ⟨p, r, xs, ys, L, M, k, j, rfl, _⟩ := h
    rfl
  · unfold spAtM at h
    obtain ⟨p, r, xs, ys, L, M, k, j, rfl, hp, hr', fA, fB, hLM, hkj, q⟩ := h
    refine ⟨_, pss_cons (ps_if (pt_not (pt_val (pe_callB call_isi (by rfl) B.isinstance boot_isinstance' (pa_cons (pv 1) (pa_cons (pe_glob (v := .ref C) (by rfl) T.mgC rfl) pa_nil))))) pss_never pss_nil)
      (pss_one (ps_ret (pe_c cm hr (by decide) (by rfl) (pa_cons (pe_c ci hr (by decide) (by rfl) (pa_cons (pe_fld (pv 0) rfl) (pa_cons (pe_fld (pv 1) rfl) pa_nil))) pa_nil)))), ?_⟩
    obtain ⟨dx, t, h1, ht⟩ := id hp
    obtain ⟨dy, u, h2, hu⟩ := id hr'
    refine ⟨_, rfl, .ref r, .ref C, .ref C, .ref C, true, rfl, .own C, T.tyx hr', T.kit1, true, rfl, iteF ?_⟩
    refine ⟨_, rfl, p, C, dx, _, _, rfl, h1, T.cl, T.nF, rfl, _, rfl, r, C, dy, _, _, rfl, h2, T.cl, T.nF, rfl, t, u, xs, ys, L, M, k, j, rfl, ht, hu, fA, fB, hLM, hkj, fun H1 z s1 hz => ?_⟩
    have fI := fA.inner fB
    exact ⟨z, _, rfl, hz, fI.nn, by have := fI.len; omega, fun H' x s2 hx => q H' x (s1.trans s2) hx⟩
/-! ### p(n) -/
@[irreducible] def spCall (C : Addr) : Sp := fun vs H Q _ => ∃ (p : Addr) (cs : List Int) (n : Int) (L k b : Nat), vs = [.ref p, .int n] ∧ PolyAt C H p cs ∧ Fit cs L k ∧ 0 ≤ n ∧ n ≤ 2 ^ b ∧ k + b * (L + 1) ≤ 900000 ∧ ∀ H', Same H H' → Q (.int (ev cs n)) H'
theorem scCall : FnScope ["self", "n"] ["self", "n"] (defScope (meth 6)) := ⟨rfl, rfl, rfl, by decide +kernel, rfl, by decide +kernel, by decide +kernel⟩
theorem ok_call {f : Addr} {fd : FuncData} (F : Fun K "__call__" "Polynomial.__call__" (meth 6) f fd) (T : PolyC K mg C) (cr : Cal P w K mg base 3 "require_number" spReqN) (ca : Cal P w K mg base 1 "at_in" spAt) : FnOk P w K mg base CX0 4 f fd ["self", "n"] (spCall C) := by
  refine F.ok scCall (fun vs H Q E h => ?_) (fun cdv A outer s H vs Q E hr h => ?_)
  · unfold spCall at h
    obtain ⟨p, cs, n, L, k, b, rfl, _⟩ := h
    rfl
  · unfold spCall at h
    obtain ⟨p, cs, n, L, k, b, rfl, hp, hF, h0, hn, hz, q⟩ := h
    refine ⟨_, pss_cons (ps_expr (pe_c cr hr (by decide) (by rfl) (pa_cons (pv 1) pa_nil))) (pss_one (ps_ret (pe_c ca hr (by decide) (by rfl) (pa_cons (pe_fld (pv 0) rfl) (pa_cons (pv 1) pa_nil))))), ?_⟩
    refine ⟨_, rfl, _, rfl, h0, ?_⟩
    obtain ⟨dx, t, h1, ht⟩ := hp
    exact ⟨_, rfl, p, C, dx, _, _, rfl, h1, T.cl, T.nF, rfl, _, rfl, t, cs, n, L, k, b, rfl, ht, hF, h0, hn, hz, q⟩
/-! ### p + q, p * q, either way round -/
def spBin (C : Addr) (g : List Int → List Int → List Int) (ok : Nat → Nat → Nat → Nat → Prop) : Sp := fun vs H Q _ => ∃ (p : Addr) (v : V) (xs ys : List Int) (L M k j : Nat), vs = [.ref p, v] ∧ PolyAt C H p xs ∧ Opd C H v ys ∧ Fit xs L k ∧ Fit ys M j ∧ ok L M k j ∧
  ∀ H' x, Same H H' → PolyAt C H' x (g xs ys) → Q (.ref x) H'
def okAdd (L M _ _ : Nat) : Prop := L ≤ 1000 ∧ M ≤ 1000
def okMul (L M k j : Nat) : Prop := L + M ≤ 1000 ∧ k + j ≤ 900000
theorem scAdd : FnScope ["self", "other"] ["self", "other"] (defScope (meth 10)) := ⟨rfl, rfl, rfl, by decide +kernel, rfl, by decide +kernel, by decide +kernel⟩
theorem scRadd : FnScope ["self", "other"] ["self", "other"] (defScope (meth 11)) := ⟨rfl, rfl, rfl, by decide +kernel, rfl, by decide +kernel, by decide +kernel⟩
theorem scMul : FnScope ["self", "other"] ["self", "other"] (defScope (meth 12)) := ⟨rfl, rfl, rfl, by decide +kernel, rfl, by decide +kernel, by decide +kernel⟩
theorem scRmul : FnScope ["self", "other"] ["self", "other"] (defScope (meth 13)) := ⟨rfl, rfl, rfl, by decide +kernel, rfl, by decide +kernel, by decide +kernel⟩
theorem add_end {H H1 : Hp} {t u : Addr} {xs ys : List Int} {L M k j : Nat} {Q : VK} (s0 : Same H H1) (ht : TupI H1 t xs) (hu : TupI H1 u ys) (fA : Fit xs L k) (fB : Fit ys M j) (ho : okAdd L M k j) (q : ∀ H' x, Same H H' → PolyAt C H' x (padd xs ys) → Q (.ref x) H') :
    spSum [.ref t, .ref u] H1 (fun v H2 => spMade C [v] H2 Q E0) E0 := by
  have l1 := fA.len
  have l2 := fB.len
  refine ⟨t, u, xs, ys, rfl, ht, hu, by have := ho.1; omega, by have := ho.2; omega, fun H2 z s2 hz => ?_⟩
  exact ⟨z, _, rfl, hz, nn_addL fA.nn fB.nn, by rw [len_addL]; have := ho.1; have := ho.2; omega, fun H' x s3 hx => q H' x ((s0.trans s2).trans s3) hx⟩
theorem mul_end {H H1 : Hp} {t u : Addr} {xs ys : List Int} {L M k j : Nat} {Q : VK} (s0 : Same H H1) (ht : TupI H1 t xs) (hu : TupI H1 u ys) (fA : Fit xs L k) (fB : Fit ys M j) (ho : okMul L M k j) (q : ∀ H' x, Same H H' → PolyAt C H' x (pmul xs ys) → Q (.ref x) H') :
    spProd [.ref t, .ref u] H1 (fun v H2 => spMade C [v] H2 Q E0) E0 := by
  have fM := fA.mul fB
  refine ⟨t, u, xs, ys, L, M, k, j, rfl, ht, hu, fA, fB, ho.1, ho.2, fun H2 z s2 hz => ?_⟩
  exact ⟨z, _, rfl, hz, fM.nn, by have := fM.len; have := ho.1; omega, fun H' x s3 hx => q H' x ((s0.trans s2).trans s3) hx⟩
theorem ok_add {f : Addr} {fd : FuncData} (F : Fun K "__add__" "Polynomial.__add__" (meth 10) f fd) (T : PolyC K mg C) (cm : Cal P w K mg base 6 "made" (spMade C)) (cs : Cal P w K mg base 1 "sum_in" spSum) (cc : Cal P w K mg base 3 "coefficients_of" (spCoef C)) : FnOk P w K mg base CX0 7 f fd ["self", "other"] (spBin C padd okAdd) := by
  refine F.ok scAdd (fun vs H Q E h => ?_) (fun cdv A outer s H vs Q E hr h => ?_)
  · obtain ⟨p, v, xs, ys, L, M, k, j, rfl, _⟩ := h
    rfl
  · obtain ⟨p, v, xs, ys, L, M, k, j, rfl, hp, ho, fA, fB, hok, q⟩ := h
    refine ⟨_, pss_one (ps_ret (pe_c cm hr (by decide) (by rfl) (pa_cons (pe_c cs hr (by decide) (by rfl) (pa_cons (pe_fld (pv 0) rfl) (pa_cons (pe_c cc hr (by decide) (by rfl) (pa_cons (pv 1) pa_nil)) pa_nil))) pa_nil))), ?_⟩
    obtain ⟨dx, t, h1, ht⟩ := hp
    refine ⟨_, rfl, p, C, dx, _, _, rfl, h1, T.cl, T.nF, rfl, _, rfl, v, ys, rfl, ho, fun H1 u s1 hu => ?_⟩
    exact add_end s1 (ht.same s1) hu fA fB hok q
theorem ok_radd {f : Addr} {fd : FuncData} (F : Fun K "__radd__" "Polynomial.__radd__" (meth 11) f fd) (T : PolyC K mg C) (cm : Cal P w K mg base 6 "made" (spMade C)) (cs : Cal P w K mg base 1 "sum_in" spSum) (cc : Cal P w K mg base 3 "coefficients_of" (spCoef C)) : FnOk P w K mg base CX0 7 f fd ["self", "other"] (spBin C padd okAdd) := by
  refine F.ok scRadd (fun vs H Q E h => ?_) (fun cdv A outer s H vs Q E hr h => ?_)
  · obtain ⟨p, v, xs, ys, L, M, k, j, rfl, _⟩ := h
    rfl
  · obtain ⟨p, v, xs, ys, L, M, k, j, rfl, hp, ho, fA, fB, hok, q⟩ := h
    refine ⟨_, pss_one (ps_ret (pe_c cm hr (by decide) (by rfl) (pa_cons (pe_c cs hr (by decide) (by rfl) (pa_cons (pe_fld (pv 0) rfl) (pa_cons (pe_c cc hr (by decide) (by rfl) (pa_cons (pv 1) pa_nil)) pa_nil))) pa_nil))), ?_⟩
    obtain ⟨dx, t, h1, ht⟩ := hp
    refine ⟨_, rfl, p, C, dx, _, _, rfl, h1, T.cl, T.nF, rfl, _, rfl, v, ys, rfl, ho, fun H1 u s1 hu => ?_⟩
    exact add_end s1 (ht.same s1) hu fA fB hok q
theorem ok_mul {f : Addr} {fd : FuncData} (F : Fun K "__mul__" "Polynomial.__mul__" (meth 12) f fd) (T : PolyC K mg C) (cm : Cal P w K mg base 6 "made" (spMade C)) (cs : Cal P w K mg base 2 "product_in" spProd) (cc : Cal P w K mg base 3 "coefficients_of" (spCoef C)) : FnOk P w K mg base CX0 7 f fd ["self", "other"] (spBin C pmul okMul) := by
  refine F.ok scMul (fun vs H Q E h => ?_) (fun cdv A outer s H vs Q E hr h => ?_)
  · obtain ⟨p, v, xs, ys, L, M, k, j, rfl, _⟩ := h
    rfl
  · obtain ⟨p, v, xs, ys, L, M, k, j, rfl, hp, ho, fA, fB, hok, q⟩ := h
    refine ⟨_, pss_one (ps_ret (pe_c cm hr (by decide) (by rfl) (pa_cons (pe_c cs hr (by decide) (by rfl) (pa_cons (pe_fld (pv 0) rfl) (pa_cons (pe_c cc hr (by decide) (by rfl) (pa_cons (pv 1) pa_nil)) pa_nil))) pa_nil))), ?_⟩
    obtain ⟨dx, t, h1, ht⟩ := hp
    refine ⟨_, rfl, p, C, dx, _, _, rfl, h1, T.cl, T.nF, rfl, _, rfl, v, ys, rfl, ho, fun H1 u s1 hu => ?_⟩
    exact mul_end s1 (ht.same s1) hu fA fB hok q
theorem ok_rmul {f : Addr} {fd : FuncData} (F : Fun K "__rmul__" "Polynomial.__rmul__" (meth 13) f fd) (T : PolyC K mg C) (cm : Cal P w K mg base 6 "made" (spMade C)) (cs : Cal P w K mg base 2 "product_in" spProd) (cc : Cal P w K mg base 3 "coefficients_of" (spCoef C)) : FnOk P w K mg base CX0 7 f fd ["self", "other"] (spBin C pmul okMul) := by
  refine F.ok scRmul (fun vs H Q E h => ?_) (fun cdv A outer s H vs Q E hr h => ?_)
  · obtain ⟨p, v, xs, ys, L, M, k, j, rfl, _⟩ := h
    rfl
  · obtain ⟨p, v, xs, ys, L, M, k, j, rfl, hp, ho, fA, fB, hok, q⟩ := h
    refine ⟨_, pss_one (ps_ret (pe_c cm hr (by decide) (by rfl) (pa_cons (pe_c cs hr (by decide) (by rfl) (pa_cons (pe_fld (pv 0) rfl) (pa_cons (pe_c cc hr (by decide) (by rfl) (pa_cons (pv 1) pa_nil)) pa_nil))) pa_nil))), ?_⟩
    obtain ⟨dx, t, h1, ht⟩ := hp
    refine ⟨_, rfl, p, C, dx, _, _, rfl, h1, T.cl, T.nF, rfl, _, rfl, v, ys, rfl, ho, fun H1 u s1 hu => ?_⟩
    exact mul_end s1 (ht.same s1) hu fA fB hok q
/-! ### p ** k -/
def spPowM (C : Addr) : Sp := fun vs H Q _ => ∃ (p : Addr) (xs : List Int) (m L k : Nat), vs = [.ref p, .int (m : Int)] ∧ PolyAt C H p xs ∧ Fit xs L k ∧ m ≤ 20 ∧ 1 + 21 * L ≤ 900 ∧ 1 + 21 * k ≤ 800000 ∧
  ∀ H' x, Same H H' → PolyAt C H' x (ppow xs m) → Q (.ref x) H'
theorem scPowM : FnScope ["self", "many"] ["self", "many"] (defScope (meth 14)) := ⟨rfl, rfl, rfl, by decide +kernel, rfl, by decide +kernel, by decide +kernel⟩
theorem ok_powM {f : Addr} {fd : FuncData} {tM : Tok} (F : Fun K "__pow__" "Polynomial.__pow__" (meth 14) f fd) (T : PolyC K mg C) (hM : mg "MAX_POWER" = some (.int 20 tM)) (cm : Cal P w K mg base 6 "made" (spMade C)) (cp : Cal P w K mg base 3 "power_in" spPow) (cc : Cal P w K mg base 2 "is_count" spCount) : FnOk P w K mg base CX0 7 f fd ["self", "many"] (spPowM C) := by
  refine F.ok scPowM (fun vs H Q E h => ?_) (fun cdv A outer s H vs Q E hr h => ?_)
  · obtain ⟨p, xs, m, L, k, rfl, _⟩ := h
    rfl
  · obtain ⟨p, xs, m, L, k, rfl, hp, fA, hm, hL, hk, q⟩ := h
    refine ⟨_, pss_cons (ps_if (PW.pt (pw_or (pt_not (pt_val (pe_c cc hr (by decide) (by rfl) (pa_cons (pv 1) pa_nil)))) (pw_or1 (pt_cmpR op_gt (pv 1) (pe_glob (v := .int 20) (by rfl) hM ⟨tM, rfl⟩) (nomark _))))) pss_never pss_nil)
      (pss_one (ps_ret (pe_c cm hr (by decide) (by rfl) (pa_cons (pe_c cp hr (by decide) (by rfl) (pa_cons (pe_fld (pv 0) rfl) (pa_cons (pv 1) pa_nil))) pa_nil)))), ?_⟩
    refine ⟨_, rfl, _, rfl, _, rfl, ?_⟩
    rw [decide_eq_true (by omega)]
    refine iteF ⟨_, rfl, _, _, rfl, rfl, _, rfl, ?_⟩
    rw [decide_eq_false (by omega)]
    obtain ⟨dx, t, h1, ht⟩ := hp
    refine iteF ⟨_, rfl, p, C, dx, _, _, rfl, h1, T.cl, T.nF, rfl, _, rfl, t, xs, m, L, k, rfl, ht, fA, hm, hL, hk, fun H1 z s1 hz => ?_⟩
    have fP := fA.pow m
    have e1 : m * L ≤ 20 * L := Nat.mul_le_mul_right L hm
    exact ⟨z, _, rfl, hz, fP.nn, by have := fP.len; omega, fun H' x s2 hx => q H' x (s1.trans s2) hx⟩
/-! ### p == q -/
@[irreducible] def spEqM (C : Addr) : Sp := fun vs H Q _ => ∃ (p r : Addr) (xs ys : List Int), vs = [.ref p, .ref r] ∧ PolyAt C H p xs ∧ PolyAt C H r ys ∧ Q (.bl (decide (xs = ys))) H
theorem scEq : FnScope ["self", "other"] ["self", "other"] (defScope (meth 15)) := ⟨rfl, rfl, rfl, by decide +kernel, rfl, by decide +kernel, by decide +kernel⟩
theorem ok_eq {f : Addr} {fd : FuncData} (F : Fun K "__eq__" "Polynomial.__eq__" (meth 15) f fd) (B : Blt mg) (T : PolyC K mg C) : FnOk P w K mg base CX0 1 f fd ["self", "other"] (spEqM C) := by
  refine F.ok scEq (fun vs H Q E h => ?_) (fun cdv A outer s H vs Q E hr h => ?_)
  · unfold spEqM at h
    obtain ⟨p, r, xs, ys, rfl, _⟩ := h
    rfl
  · unfold spEqM at h
    obtain ⟨p, r, xs, ys, rfl, hp, hr', q⟩ := h
    refine ⟨_, pss_one (ps_ret (pe_and (pe_callB call_isi (by rfl) B.isinstance boot_isinstance' (pa_cons (pv 1) (pa_cons (pe_glob (v := .ref C) (by rfl) T.mgC rfl) pa_nil))) (pe_one (pe_cmpR (op_eqD hr.units) (pe_fld (pv 0) rfl) (pe_fld (pv 1) rfl) (nomark _))))), ?_⟩
    obtain ⟨dx, t, h1, ht⟩ := id hp
    obtain ⟨dy, u, h2, hu⟩ := id hr'
    refine ⟨_, rfl, .ref r, .ref C, .ref C, .ref C, true, rfl, .own C, T.tyx hr', T.kit1, true, rfl, iteT ?_⟩
    refine ⟨_, rfl, p, C, dx, _, _, rfl, h1, T.cl, T.nF, rfl, _, rfl, r, C, dy, _, _, rfl, h2, T.cl, T.nF, rfl, _, _, dp_tup ht, dp_tup hu, shaped_tup _, shaped_tup _, ?_⟩
    rw [eqv_tup]
    exact q
end
end Lg

namespace Lg
open PySem L2 Lo
def figT (i : Int) : Str := toString i
def nameT (p : Int) : Str := if p = 1 then "n" else ("n^" : Str) ++ figT p
def termT (one p : Int) : Str := if p = 0 then figT one else if one = 1 then nameT p else figT one ++ (" " : Str) ++ nameT p
def termsT (cs : List Int) : List Str := ((List.range cs.length).filter fun (p : Nat) => decide (0 < cs.getD p 0)).map fun (p : Nat) => termT (cs.getD p 0) (p : Int)
def strT (cs : List Int) : Str := Txt.join (" + " : Str) (termsT cs).reverse
theorem len_fig : ∀ n : _root_.Fin 21, (figT (n.val : Int)).length ≤ 2 := by decide +kernel
theorem len_term : ∀ n m : _root_.Fin 21, (termT (n.val : Int) (m.val : Int)).length ≤ 20 := by decide +kernel
theorem ok_term : ∀ n m : _root_.Fin 21, PyData.strOk (termT (n.val : Int) (m.val : Int)) = true := by decide +kernel
theorem str1 : strT [1, 3, 3, 1] = ("n^3 + 3 n^2 + 3 n + 1" : Str) := by decide +kernel
theorem str2 : strT [0, 15, 10] = ("10 n^2 + 15 n" : Str) := by decide +kernel
theorem str1n : termsT [1, 3, 3, 1] ≠ [] := by decide +kernel
theorem join1 : ∀ n : _root_.Fin 21, Txt.join ("" : Str) [figT (n.val : Int)] = figT (n.val : Int) := by decide +kernel
theorem fin21 {i : Int} (h0 : 0 ≤ i) (h : i ≤ 20) : ∃ n : _root_.Fin 21, i = (n.val : Int) := ⟨⟨i.toNat, by omega⟩, by show i = ((i.toNat : Nat) : Int); omega⟩
theorem small_log {i : Int} (h0 : 0 ≤ i) (h : i ≤ 20) : i.natAbs.log2 < 1920 := by
  obtain ⟨n, rfl⟩ := fin21 h0 h
  have : ∀ n : _root_.Fin 21, ((n.val : Int)).natAbs.log2 < 1920 := by decide +kernel
  exact this n
theorem line40 {n : Nat} (h : n ≤ 40) : n ≤ sizeLine := Nat.le_trans h (by decide)
section
variable {P : Program} {w : World} {K : PySem.W.Frag} {mg : Str → Option Value} {base : Heap} {C : Addr}
theorem boot_str' : bootBuiltins "str" = some (.type "str") := by decide +kernel
/-! ### figures_of -/
def spFig : Sp := fun vs H Q _ => ∃ i : Int, vs = [.int i] ∧ 0 ≤ i ∧ i ≤ 20 ∧ ∀ H', Same H H' → Q (.str (figT i)) H'
theorem scFig : FnScope ["number", "pieces"] ["number"] (defScope sFig) := ⟨rfl, rfl, rfl, by decide +kernel, rfl, by decide +kernel, by decide +kernel⟩
theorem ok_fig {f : Addr} {fd : FuncData} {tL : Tok} (F : Fun K "figures_of" "figures_of" sFig f fd) (B : Blt mg) (hL : mg "LONG" = some (.int (10 ^ 60) tL)) : FnOk P w K mg base CX0 1 f fd ["number"] spFig := by
  refine F.ok scFig (fun vs H Q E h => ?_) (fun cdv A outer s H vs Q E hr h => ?_)
  · obtain ⟨i, rfl, _⟩ := h
    rfl
  · obtain ⟨i, rfl, h0, h1, q⟩ := h
    refine ⟨_, pss_cons (ps_set (i := 1) scFig.nd rfl (.inl rfl) (pe_lst pa_nil)) (pss_cons (ps_while PySem.PassesOwn.never (pt_cmpR op_ge (pv 0) (pe_glob (v := .int (10 ^ 60)) (by rfl) hL ⟨tL, rfl⟩) (nomark _)) pss_never)
      (pss_one (ps_ret (pe_join pe_str (pe_lst (pa_cons (pe_callTy call_str_int (by rfl) B.str boot_str' (pa_cons (pv 0) pa_nil)) (StX.pa_star (pe_revL (pv 1)) pa_nil))))))), ?_⟩
    refine ⟨Nat.zero_le _, fun l nl => ?_⟩
    have s0 : Same H (upd H l (.lst [])) := same_upd (Same.refl _) nl
    refine while_by (fun σ H' => σ = [some (.int i), some (.ref l)] ∧ H' = upd H l (.lst [])) (fun _ _ => 0) ⟨rfl, rfl⟩ ?_ (mono_test (mono_op mono_I0 mono_var mono_c))
    rintro σ H' ⟨rfl, rfl⟩
    refine ⟨_, rfl, _, _, rfl, rfl, _, rfl, ?_⟩
    have hb : (20 : Int) < 10 ^ 60 := by decide +kernel
    rw [decide_eq_false (by omega)]
    refine iteF ⟨⟨_, rfl⟩, _, rfl, i, rfl, small_log h0 h1, _, rfl, l, [], rfl, SqL.of upd_same, fun l2 nl2 => ⟨l2, [], rfl, .inr (SqL.of upd_same), by show 1 ≤ sizeLine; decide, fun l3 nl3 => ?_⟩⟩
    obtain ⟨n, rfl⟩ := fin21 h0 h1
    refine ⟨_, l3, [figT (n.val : Int)], rfl, rfl, .inl (SqL.of upd_same), ?_, ?_⟩
    · have := len_fig n
      simp only [List.map_cons, List.map_nil, List.sum_cons, List.sum_nil, List.length_cons, List.length_nil]
      have e : (("" : Str)).length = 0 := by decide +kernel
      rw [e]
      omega
    · show Q (.str (Txt.join ("" : Str) [figT (n.val : Int)])) _
      rw [join1]
      exact q _ (same_upd (same_upd s0 nl2) nl3)
/-! ### term_text -/
def spTerm : Sp := fun vs H Q _ => ∃ i p : Int, vs = [.int i, .int p] ∧ 0 ≤ i ∧ i ≤ 20 ∧ 0 ≤ p ∧ p ≤ 20 ∧ ∀ H', Same H H' → Q (.str (termT i p)) H'
theorem scTerm : FnScope ["one", "power", "name"] ["one", "power"] (defScope sTerm) := ⟨rfl, rfl, rfl, by decide +kernel, rfl, by decide +kernel, by decide +kernel⟩
theorem len_name : ∀ n : _root_.Fin 21, (nameT (n.val : Int)).length ≤ 10 := by decide +kernel
theorem len_fs : ∀ n : _root_.Fin 21, (Str.empty ++ figT (n.val : Int)).length ≤ 10 := by decide +kernel
theorem len_fs2 : ∀ n : _root_.Fin 21, (Str.empty ++ figT (n.val : Int) ++ (" " : Str)).length ≤ 10 := by decide +kernel
theorem len_nm : (Str.empty ++ ("n^" : Str)).length ≤ 10 := by decide +kernel
theorem len_nm2 : ∀ n : _root_.Fin 21, (Str.empty ++ ("n^" : Str) ++ figT (n.val : Int)).length ≤ 10 := by decide +kernel
theorem eq_nm2 : ∀ n : _root_.Fin 21, Str.empty ++ ("n^" : Str) ++ figT (n.val : Int) = ("n^" : Str) ++ figT (n.val : Int) := by decide +kernel
theorem len_tm : ∀ n m : _root_.Fin 21, (Str.empty ++ figT (n.val : Int) ++ (" " : Str) ++ nameT (m.val : Int)).length ≤ 20 := by decide +kernel
theorem eq_tm : ∀ n m : _root_.Fin 21, Str.empty ++ figT (n.val : Int) ++ (" " : Str) ++ nameT (m.val : Int) = figT (n.val : Int) ++ (" " : Str) ++ nameT (m.val : Int) := by decide +kernel
theorem ok_termF {f : Addr} {fd : FuncData} (F : Fun K "term_text" "term_text" sTerm f fd) (cf : Cal P w K mg base 1 "figures_of" spFig) : FnOk P w K mg base CX0 2 f fd ["one", "power"] spTerm := by
  refine F.ok scTerm (fun vs H Q E h => ?_) (fun cdv A outer s H vs Q E hr h => ?_)
  · obtain ⟨i, p, rfl, _⟩ := h
    rfl
  · obtain ⟨i, p, rfl, h0, h1, h2, h3, q⟩ := h
    refine ⟨_, pss_cons (ps_if (pt_cmpR op_eq (pv 1) pe_int (nomark _)) (pss_one (ps_ret (pe_c cf hr (by decide) (by rfl) (pa_cons (pv 0) pa_nil)))) pss_nil)
      (pss_cons (ps_set (i := 2) scTerm.nd rfl (.inl rfl) (pe_ifExp (pt_cmpR op_eq (pv 1) pe_int (nomark _)) pe_str (pe_joined (PJ.cons pe_str (PJ.cons (pe_fmt (pv 1)) .nil)))))
      (pss_one (ps_ret (pe_ifExp (pt_cmpR op_eq (pv 0) pe_int (nomark _)) (pv 2) (pe_joined (PJ.cons (pe_fmt (pe_c cf hr (by decide) (by rfl) (pa_cons (pv 0) pa_nil))) (PJ.cons pe_str (PJ.cons (pe_fmt (pv 2)) .nil)))))))), ?_⟩
    refine ⟨_, rfl, rfl, _, rfl, ?_⟩
    by_cases hp0 : p = 0
    · subst hp0
      rw [decide_eq_true rfl]
      exact iteT ⟨_, rfl, i, rfl, h0, h1, fun H' s' => by have := q H' s'; rw [termT, if_pos rfl] at this; exact this⟩
    · rw [decide_eq_false (fun z => hp0 (V.int.inj z))]
      obtain ⟨n, en⟩ := fin21 h0 h1
      obtain ⟨m, em⟩ := fin21 h2 h3
      have lm := len_name m
      have rest : tRet (tIf (tTest (tOp rEq (tVar 0) (tC (.int 1)))) (tVar 2) (fun σ H Q => tJs [tFmt (tCl spFig (tCons (tVar 0) tNil)), tC (.str " "), tFmt (tVar 2)] Str.empty σ H fun out H1 => Q (.str out) H1))
          { nx := fun _ H' => Q .non H', rt := Q } [some (.int i), some (.int p), some (.str (nameT p))] H := by
        refine ⟨_, rfl, rfl, _, rfl, ?_⟩
        by_cases hi1 : i = 1
        · subst hi1
          rw [decide_eq_true rfl]
          have := q H (Same.refl _)
          rw [termT, if_neg hp0, if_pos rfl] at this
          exact iteT ⟨_, rfl, this⟩
        · rw [decide_eq_false (fun z => hi1 (V.int.inj z))]
          refine iteF ⟨_, rfl, i, rfl, h0, h1, fun H' s' => .inl ⟨_, rfl, ?_, ⟨_, rfl, ?_, _, rfl, ?_, _, rfl, .inl ⟨_, rfl, ?_, _, rfl, ?_, ?_⟩⟩⟩⟩
          · rw [en]; exact line40 (Nat.le_trans (len_fig n) (by decide))
          · rw [en]; exact line40 (Nat.le_trans (len_fs n) (by decide))
          · rw [en]; exact line40 (Nat.le_trans (len_fs2 n) (by decide))
          · rw [em]; exact line40 (Nat.le_trans lm (by decide))
          · rw [en, em]; exact line40 (Nat.le_trans (len_tm n m) (by decide))
          · have := q H' s'
            rw [termT, if_neg hp0, if_neg hi1] at this
            have e := eq_tm n m
            rw [← en, ← em] at e
            show Q (.str (Str.empty ++ figT i ++ (" " : Str) ++ nameT p)) H'
            rw [e]
            exact this
      refine iteF ⟨_, rfl, rfl, _, rfl, ?_⟩
      by_cases hp1 : p = 1
      · subst hp1
        rw [decide_eq_true rfl]
        exact iteT rest
      · rw [decide_eq_false (fun z => hp1 (V.int.inj z))]
        refine iteF ⟨_, rfl, line40 (Nat.le_trans len_nm (by decide)), _, rfl, .inr ⟨p, rfl, small_log h2 h3, _, rfl, ?_, ?_⟩⟩
        · rw [em]; exact line40 (Nat.le_trans (len_nm2 m) (by decide))
        · have e := eq_nm2 m
          rw [← em] at e
          have e2 : nameT p = Str.empty ++ ("n^" : Str) ++ figT p := by rw [nameT, if_neg hp1]; exact e.symm
          rw [e2] at rest
          exact rest
end
end Lg

namespace Lg
open PySem L2 Lo
theorem dp_strs {K : PySem.W.Frag} {H : Hp} : ∀ ys : List Str, DpAll K H (ys.map V.str) (ys.map PyData.str)
  | [] => .nil
  | y :: ys => .cons (.str y) (dp_strs ys)
theorem lay_strs : ∀ ys : List Str, (∀ y ∈ ys, PyData.strOk y = true) → PyData.canLayAll0 (ys.map PyData.str) = true
  | [], _ => rfl
  | y :: ys, h => by
    rw [List.map_cons, PyData.canLayAll0, lay_strs ys fun z hz => h z (List.mem_cons_of_mem _ hz), PyData.canLay0, h y List.mem_cons_self]; rfl
theorem depth_strs : ∀ ys : List Str, PyData.depthAll (ys.map PyData.str) = 0
  | [] => by simp [PyData.depthAll]
  | y :: ys => by rw [List.map_cons, PyData.depthAll, depth_strs ys]; simp [PyData.depth]
theorem shaped_strs {ys : List Str} (h : ∀ y ∈ ys, PyData.strOk y = true) : SeqAt.shaped (.list (ys.map PyData.str)) = true := by
  unfold SeqAt.shaped
  rw [PyData.canLay0, lay_strs ys h, PyData.depth, depth_strs]; rfl
theorem eqv_nil {ys : List Str} (h : ys ≠ []) : PyData.eqv (.list (ys.map PyData.str)) (.list (([] : List Int).map PyData.int)) = false := by
  cases ys with
  | nil => exact absurd rfl h
  | cons y ys => rw [PyData.eqv, List.map_cons, List.map_nil, PyData.eqvAll]
section
variable {P : Program} {w : World} {K : PySem.W.Frag} {mg : Str → Option Value} {base : Heap} {C : Addr}
/-! ### __str__ -/
@[irreducible] def spStr (C : Addr) : Sp := fun vs H Q _ => ∃ (p : Addr) (cs : List Int), vs = [.ref p] ∧ PolyAt C H p cs ∧ (∀ c ∈ cs, 0 ≤ c ∧ c ≤ 20) ∧ cs.length ≤ 20 ∧ termsT cs ≠ [] ∧ ∀ H', Same H H' → Q (.str (strT cs)) H'
theorem scStr : FnScope ["self", "some", "terms", "power"] ["self"] (defScope (meth 16)) := ⟨rfl, rfl, rfl, by decide +kernel, rfl, by decide +kernel, by decide +kernel⟩
def termsTo (cs : List Int) (i : Nat) : List Str := ((List.range i).filter fun (p : Nat) => decide (0 < cs.getD p 0)).map fun (p : Nat) => termT (cs.getD p 0) (p : Int)
theorem terms_yes {cs : List Int} {i : Nat} (h : 0 < cs.getD i 0) : termsTo cs (i + 1) = termsTo cs i ++ [termT (cs.getD i 0) (i : Int)] := by
  unfold termsTo
  rw [List.range_succ, List.filter_append, List.filter_cons, if_pos (decide_eq_true h), List.map_append]; rfl
theorem terms_no {cs : List Int} {i : Nat} (h : ¬ 0 < cs.getD i 0) : termsTo cs (i + 1) = termsTo cs i := by
  unfold termsTo
  rw [List.range_succ, List.filter_append, List.filter_cons, if_neg (by simpa using h), List.filter_nil, List.append_nil]
theorem terms_len (cs : List Int) (i : Nat) : (termsTo cs i).length ≤ i := by
  unfold termsTo
  rw [List.length_map]
  exact Nat.le_trans (List.length_filter_le _ _) (by rw [List.length_range]; exact Nat.le_refl _)
theorem terms_mem {cs : List Int} {i : Nat} (hb : ∀ c ∈ cs, 0 ≤ c ∧ c ≤ 20) (hi : i ≤ 20) (hl : i ≤ cs.length) : ∀ y ∈ termsTo cs i, PyData.strOk y = true ∧ y.length ≤ 20 := by
  intro y hy
  obtain ⟨p, hp, e⟩ := List.mem_map.mp hy
  have h1 := (List.mem_filter.mp hp).1
  have h2 := List.mem_range.mp h1
  have hc := hb _ (List.mem_of_getElem? (of_getD (show p < cs.length by omega)))
  obtain ⟨n, en⟩ := fin21 hc.1 hc.2
  obtain ⟨m, em⟩ := fin21 (i := (p : Int)) (by omega) (by omega)
  rw [← e, en, em]
  exact ⟨ok_term n m, len_term n m⟩
theorem sum_len : ∀ {ys : List Str}, (∀ y ∈ ys, y.length ≤ 20) → (ys.map (·.length)).sum ≤ 20 * ys.length
  | [], _ => Nat.le_refl _
  | y :: ys, h => by
    have h1 := sum_len (ys := ys) fun z hz => h z (List.mem_cons_of_mem _ hz)
    have h2 := h y List.mem_cons_self
    rw [List.map_cons, List.sum_cons, List.length_cons]; omega
theorem ok_str {f : Addr} {fd : FuncData} (F : Fun K "__str__" "Polynomial.__str__" (meth 16) f fd) (B : Blt mg) (T : PolyC K mg C) (ct : Cal P w K mg base 2 "term_text" spTerm) : FnOk P w K mg base CX0 3 f fd ["self"] (spStr C) := by
  refine F.ok scStr (fun vs H Q E h => ?_) (fun cdv A outer s H vs Q E hr h => ?_)
  · unfold spStr at h
    obtain ⟨p, cs, rfl, _⟩ := h
    rfl
  · unfold spStr at h
    obtain ⟨p, cs, rfl, hp, hb, hl, hne, q⟩ := h
    obtain ⟨dx, t, h1, ht⟩ := hp
    refine ⟨_, pss_cons (ps_set (i := 1) scStr.nd rfl (.inr rfl) (pe_fld (pv 0) rfl))
      (pss_cons (ps_setLc (i := 2) (own := [("power", 3)]) (g := gName 3) (tt := tTest (tOp (rI0 fun i j => .bl (decide (j < i))) (tOp (rIxT K) (tVar 1) (tVar 3)) (tC (.int 0)))) (te := tCl spTerm (tCons (tOp (rIxT K) (tVar 1) (tVar 3)) (tCons (tVar 3) tNil)))
        rfl scStr.nd rfl rfl (sw_true rfl rfl rfl (by decide +kernel)) (pi_range1 (by rfl) B.range (pa_cons (pe_callB call_len_seq (by rfl) B.len boot_len' (pa_cons (pv 1) pa_nil)) pa_nil))
        (blkOk_by (own := [("power", 3)]) (N := ["self", "some", "terms", "power"]) (sc := defScope (meth 16)) (by decide +kernel)) (fun _ _ _ _ _ => pg_name (i := 3) scStr.nd rfl (Or.inl rfl))
        (fun _ _ _ _ _ => pts_one (pt_cmpR op_gt (pe_ix ix_tup (pv 1) (pv 3) (fun _ _ => rfl)) pe_int (nomark _))) (fun _ _ _ _ _ => pe_c ct hr (by decide) (by rfl) (pa_cons (pe_ix ix_tup (pv 1) (pv 3) (fun _ _ => rfl)) (pa_cons (pv 3) pa_nil))))
      (pss_cons (ps_if (pt_cmpR (op_eqD hr.units) (pv 2) (pe_lst pa_nil) (nomark _)) (pss_one (ps_ret pe_str)) pss_nil)
      (pss_one (ps_ret (pe_join pe_str (pe_revL (pv 2))))))), ?_⟩
    refine ⟨_, rfl, p, C, dx, _, _, rfl, h1, T.cl, T.nF, rfl, ⟨_, rfl, t, _, rfl, .inr ht.sq, _, rfl, ?_, ?_, fun D hD => ?_⟩⟩
    · show -(2 ^ 62) ≤ (((ivs cs).length : Nat) : Int)
      omega
    · show (((ivs cs).length : Nat) : Int) < 2 ^ 62
      rw [List.length_map]
      omega
    have en : (((ivs cs).length : Nat) : Int).toNat = cs.length := by rw [List.length_map]; omega
    refine lc_range (lo := 0) (n := _) (fun i H' => Same H H' ∧ H' D = some (.lst ((termsTo cs i).map V.str))) ⟨same_upd (Same.refl _) hD, upd_same⟩ ?_ ?_
    · rintro i H' hi ⟨hs, hD'⟩
      rw [en] at hi
      have ht' := ht.same hs
      have hc := hb _ (List.mem_of_getElem? (of_getD hi))
      have hix : (0 : Int) + (i : Int) = (i : Int) := Int.zero_add _
      refine ⟨rfl, _, rfl, _, rfl, t, _, _, _, rfl, rfl, ht'.sq, at_of (j := i) hix (get_ivs (of_getD hi)), _, _, rfl, rfl, _, rfl, ?_⟩
      by_cases hpos : 0 < cs.getD i 0
      · rw [decide_eq_true hpos]
        refine iteT ⟨_, rfl, _, rfl, t, _, _, _, rfl, rfl, ht'.sq, at_of (j := i) hix (get_ivs (of_getD hi)), _, rfl, cs.getD i 0, (0 : Int) + (i : Int), rfl, hc.1, hc.2, by omega, by omega, fun H2 s2 => ?_⟩
        refine ⟨_, s2 _ _ hD', ?_, same_at (hs.trans s2) hD, ?_⟩
        · rw [List.length_map]
          exact Nat.lt_of_le_of_lt (Nat.le_trans (terms_len cs i) (by omega : i ≤ 20)) (by decide)
        · rw [upd_same, terms_yes hpos, hix, List.map_append]; rfl
      · rw [decide_eq_false hpos]
        refine iteF ⟨hs, ?_⟩
        rw [terms_no hpos]; exact hD'
    · rintro H' ⟨hs, hD'⟩
      rw [en] at hD'
      have hm := terms_mem (i := cs.length) hb hl (Nat.le_refl _)
      have hne' : termsTo cs cs.length ≠ [] := hne
      refine ⟨_, rfl, Nat.zero_le _, fun l nl => ⟨_, _, .lst (SqL.of (by rw [upd_ne (ne_of_none hD' nl)]; exact hD')) (dp_strs _), dp_lst (cs := []) upd_same, shaped_strs fun y hy => (hm y hy).1, shaped_lst [], _, rfl, ?_⟩⟩
      rw [eqv_nil hne']
      have hD2 : upd H' l (.lst []) D = some (.lst ((termsTo cs cs.length).map V.str)) := by rw [upd_ne (ne_of_none hD' nl)]; exact hD'
      refine iteF ⟨⟨_, rfl⟩, _, rfl, D, _, rfl, SqL.of hD2, fun l2 nl2 => ⟨_, l2, (termsTo cs cs.length).reverse, rfl, rfl, .inl (SqL.of (by rw [← List.map_reverse]; exact upd_same)), ?_, ?_⟩⟩
      · have h1 := sum_len (ys := (termsTo cs cs.length).reverse) fun y hy => (hm y (List.mem_reverse.mp hy)).2
        have h2 := terms_len cs cs.length
        rw [List.length_reverse] at h1 ⊢
        have e : ((" + " : Str)).length = 3 := by decide +kernel
        rw [e]; omega
      · exact q _ (same_upd (same_upd hs nl) nl2)
end
end Lg

namespace Lg
open PySem L2 Lo
/-! ### the dice: a list of three ints that every draw turns -/
def DiceAt (H : Hp) (d : Addr) : Prop := ∃ g m c : Int, H d = some (.lst [.int g, .int m, .int c])
/-- all but d is as it was -/
def SB (d : Addr) (H H' : Hp) : Prop := ∀ b o, b ≠ d → H b = some o → H' b = some o
theorem SB.refl (d : Addr) (H : Hp) : SB d H H := fun _ _ _ h => h
theorem SB.trans {d : Addr} {H H1 H2 : Hp} (a : SB d H H1) (b : SB d H1 H2) : SB d H H2 := fun c o n h => b c o n (a c o n h)
theorem Same.sb {d : Addr} {H H' : Hp} (s : Same H H') : SB d H H' := fun b o _ h => s b o h
theorem DiceAt.same {H H' : Hp} {d : Addr} (h : DiceAt H d) (s : Same H H') : DiceAt H' d := by
  obtain ⟨g, m, c, e⟩ := h
  exact ⟨g, m, c, s _ _ e⟩
theorem DiceAt.free {H : Hp} {d p : Addr} (h : DiceAt H d) (n : H p = none) : p ≠ d := by
  obtain ⟨g, m, c, e⟩ := h
  exact (ne_of_none e n).symm
theorem TupI.sb {H H' : Hp} {d a : Addr} {cs : List Int} (h : TupI H a cs) (hd : DiceAt H d) (s : SB d H H') : TupI H' a cs := by
  obtain ⟨g, m, c, e⟩ := hd
  exact s _ _ (ne_of (show H a = _ from h) e (by intro z; cases z)) h
theorem PolyAt.sb {C : Addr} {H H' : Hp} {d p : Addr} {cs : List Int} (h : PolyAt C H p cs) (hd : DiceAt H d) (s : SB d H H') : PolyAt C H' p cs := by
  obtain ⟨dx, t, h1, h2⟩ := h
  have h3 := h2.sb hd s
  obtain ⟨g, m, c, e⟩ := hd
  exact ⟨dx, t, s _ _ (ne_of h1 e (by intro z; cases z)) h1, h3⟩
theorem sb_upd {d p : Addr} {H H' : Hp} {o : HO} (s : SB d H H') (h : H' p = none) : SB d H (upd H' p o) := fun b u n e => by
  rw [upd_ne (ne_of_none (s _ _ n e) h)]
  exact s _ _ n e
theorem sb_at {d D : Addr} {H H' : Hp} {o : HO} (s : SB d H H') (h : H D = none) : SB d H (upd H' D o) := fun b u n e => by
  rw [upd_ne (ne_of_none e h)]
  exact s _ _ n e
theorem sb_dice {d : Addr} {H H' : Hp} {o : HO} (s : SB d H H') : SB d H (upd H' d o) := fun b u n e => by
  rw [upd_ne n]
  exact s _ _ n e
section
variable {P : Program} {w : World} {K : PySem.W.Frag} {mg : Str → Option Value} {base : Heap}
theorem boot_abs' : bootBuiltins "abs" = some (.builtin "abs") := by decide +kernel
theorem boot_max' : bootBuiltins "max" = some (.builtin "max") := by decide +kernel
/-! ### _law_dice -/
def spDice (K : PySem.W.Frag) : Sp := fun vs H Q _ => ∃ (a : Addr) (ns : List Int) (i : Nat), vs = [.ref a, .int (i : Int)] ∧ SqL K H a (ivs ns) ∧ ns.length ≤ 63 ∧ i ≤ 10 ∧ ∀ H' d, Same H H' → H d = none → DiceAt H' d → Q (.ref d) H'
theorem scDice : FnScope ["_law_script", "_law_at", "_law_cell", "_law_great", "_law_mixed_here"] ["_law_script", "_law_at"] (defScope sDice) := ⟨rfl, rfl, rfl, by decide +kernel, rfl, by decide +kernel, by decide +kernel⟩
theorem pow6010 : (0 : Int) < (10 ^ (60 : Int).toNat) ^ (10 : Int).toNat := Int.pow_pos (Int.pow_pos (by decide))
theorem log60 : ((10 : Int) ^ (60 : Int).toNat).natAbs.log2 < 1000 := by decide +kernel
theorem ok_dice {f : Addr} {fd : FuncData} (F : Fun K "_law_dice" "_law_dice" sDice f fd) (B : Blt mg) : FnOk P w K mg base CX0 1 f fd ["_law_script", "_law_at"] (spDice K) := by
  refine F.ok scDice (fun vs H Q E h => ?_) (fun cdv A outer s H vs Q E hr h => ?_)
  · obtain ⟨a, ns, i, rfl, _⟩ := h
    rfl
  · obtain ⟨a, ns, i, rfl, hS, hl, hi, q⟩ := h
    refine ⟨_, pss_cons (ps_set (i := 2) scDice.nd rfl (.inl rfl) (pe_op op_add (pe_op op_mul pe_int (pv 1)) pe_int))
      (C8.pss_cut (ps_if (pt_cmpR op_lt (pv 1) (pe_callB call_len_seq (by rfl) B.len boot_len' (pa_cons (pv 0) pa_nil)) (nomark _)) (pss_one (ps_set (i := 2) scDice.nd rfl (.inl rfl) (pe_ix ix_list (pv 0) (pv 1) (fun _ _ => rfl)))) pss_nil)
      (pss_cons (ps_set (i := 3) scDice.nd rfl (.inl rfl) (pe_op op_mod (pe_callTy call_int1 (by rfl) B.int boot_int' (pa_cons (pe_callB call_abs (by rfl) B.abs boot_abs' (pa_cons (pv 2) pa_nil)) pa_nil)) (pe_op op_powW (pe_op op_pow pe_int pe_int) pe_int)))
      (pss_cons (ps_set (i := 4) scDice.nd rfl (.inl rfl) (pe_op op_add (pe_op op_add (pe_op op_add (pe_op op_mul (pe_op op_mod (pe_callTy call_int1 (by rfl) B.int boot_int' (pa_cons (pv 3) pa_nil)) pe_int) pe_int) (pe_op op_mul pe_int (pv 1)))
        (pe_op op_mul pe_int (pe_callTy call_int1 (by rfl) B.int boot_int' (pa_cons (pe_cmpR op_lt (pv 2) pe_int (nomark _)) pa_nil)))) pe_int))
      (pss_one (ps_ret (pe_lst (pa_cons (pe_callB (call_max2 rfl) (by rfl) B.max boot_max' (pa_cons pe_int (pa_cons (pe_op op_sub (pv 3) (pe_op op_pow pe_int pe_int)) pa_nil)))
        (pa_cons (pe_op op_mod (pe_callTy call_int1 (by rfl) B.int boot_int' (pa_cons (pv 4) pa_nil)) pe_int) (pa_cons pe_int pa_nil))))))))), ?_⟩
    refine ⟨_, rfl, _, _, rfl, rfl, .inl (by decide), _, _, rfl, rfl, ⟨fun σ H1 => H1 = H ∧ ∃ z : Int, σ = [some (.ref a), some (.int (i : Int)), some (.int z), none, none], ?_, ?_⟩⟩
    · refine ⟨_, rfl, _, rfl, a, _, rfl, .inl hS, _, _, rfl, rfl, _, rfl, ?_⟩
      rw [List.length_map]
      by_cases hlt : (i : Int) < (ns.length : Int)
      · rw [decide_eq_true hlt]
        exact iteT ⟨_, rfl, _, rfl, a, _, _, _, rfl, rfl, hS, atI_nat (get_ivs (of_getD (by omega))), rfl, _, rfl⟩
      · rw [decide_eq_false hlt]
        exact iteF ⟨rfl, _, rfl⟩
    · rintro σ H1 ⟨rfl, z, rfl⟩
      refine ⟨_, rfl, z, rfl, .inl ⟨_, rfl, _, _, rfl, rfl, by show (0 : Int) ≤ 60 ∧ (60 : Int) ≤ 1000000 ∧ (10 : Int).natAbs < 2 ^ 64; decide, _, _, rfl, rfl, ⟨by decide, by decide, log60⟩, _, _, rfl, rfl, pow6010, ?_⟩⟩
      refine ⟨_, rfl, .inl ⟨_, rfl, _, _, rfl, rfl, by show (0 : Int) < 2147483587; decide, _, _, rfl, rfl, .inr (by decide), _, rfl, _, _, rfl, rfl, .inl (by decide), _, _, rfl, rfl, _, rfl, _, _, rfl, rfl, .inr ⟨_, rfl, _, _, rfl, rfl, .inl (by decide), _, _, rfl, rfl, _, _, rfl, rfl, ?_⟩⟩⟩
      refine ⟨_, rfl, _, _, rfl, rfl, by show (0 : Int) ≤ 18 ∧ (18 : Int) ≤ 1000000 ∧ (10 : Int).natAbs < 2 ^ 64; decide, _, _, rfl, rfl, _, _, rfl, _, rfl, .inl ⟨_, rfl, _, _, rfl, rfl, by show (0 : Int) < 2147483563; decide, by show 3 ≤ sizeLine; decide, fun d nd => ?_⟩⟩
      exact q _ d (same_upd (Same.refl _) nd) nd ⟨_, _, _, upd_same⟩
/-! ### _law_roll -/
def spRoll : Sp := fun vs H Q _ => ∃ (d : Addr) (t : Int), vs = [.ref d, .int t] ∧ DiceAt H d ∧ 0 < t ∧ t < 1073741824 ∧ ∀ H' r, SB d H H' → DiceAt H' d → 0 ≤ r → r < t → Q (.int r) H'
theorem scRoll : FnScope ["_law_dice_here", "_law_total", "_law_found", "_law_one", "_law_two"] ["_law_dice_here", "_law_total"] (defScope sRoll) := ⟨rfl, rfl, rfl, by decide +kernel, rfl, by decide +kernel, by decide +kernel⟩
theorem ok_roll {f : Addr} {fd : FuncData} (F : Fun K "_law_roll" "_law_roll" sRoll f fd) (B : Blt mg) : FnOk P w K mg base CX0 1 f fd ["_law_dice_here", "_law_total"] spRoll := by
  refine F.ok scRoll (fun vs H Q E h => ?_) (fun cdv A outer s H vs Q E hr h => ?_)
  · obtain ⟨d, t, rfl, _⟩ := h
    rfl
  · obtain ⟨d, t, rfl, ⟨g, m, c, hd⟩, t0, t1, q⟩ := h
    refine ⟨_, pss_cons (ps_if (pt_cmpR op_gt (pe_ix ix_list (pv 0) pe_int (fun _ _ => rfl)) pe_int (nomark _))
        (pss_cons (ps_set (i := 2) scRoll.nd rfl (.inl rfl) (pe_op op_mod (pe_callTy call_int1 (by rfl) B.int boot_int' (pa_cons (pe_ix ix_list (pv 0) pe_int (fun _ _ => rfl)) pa_nil)) (pv 1)))
        (pss_cons (ps_asg (pe_op op_fdiv (pe_ix ix_list (pv 0) pe_int (fun _ _ => rfl)) (pv 1)) (pg_sub (pv 0) pe_int set_list)) (pss_one (ps_ret (pv 2))))) pss_nil)
      (pss_cons (ps_asg (pe_op op_add (pe_ix ix_list (pv 0) pe_int (fun _ _ => rfl)) pe_int) (pg_sub (pv 0) pe_int set_list))
      (pss_cons (ps_set (i := 3) scRoll.nd rfl (.inl rfl) (pe_op op_mod (pe_callTy call_int1 (by rfl) B.int boot_int' (pa_cons (pe_op op_add (pe_ix ix_list (pv 0) pe_int (fun _ _ => rfl)) (pe_op op_mul pe_int (pe_ix ix_list (pv 0) pe_int (fun _ _ => rfl)))) pa_nil)) pe_int))
      (pss_cons (ps_set (i := 4) scRoll.nd rfl (.inl rfl) (pe_op op_add (pe_op op_mul (pe_op op_mod (pe_callTy call_int1 (by rfl) B.int boot_int' (pa_cons (pe_op op_mul (pv 3) (pv 3)) pa_nil)) pe_int) (pv 3)) (pe_op op_mul pe_int (pe_ix ix_list (pv 0) pe_int (fun _ _ => rfl)))))
      (pss_cons (ps_set (i := 4) scRoll.nd rfl (.inl rfl) (pe_op op_mod (pe_callTy call_int1 (by rfl) B.int boot_int' (pa_cons (pv 4) pa_nil)) pe_int))
      (pss_one (ps_ret (pe_op op_mod (pe_callTy call_int1 (by rfl) B.int boot_int' (pa_cons (pe_op op_fdiv (pv 4) pe_int) pa_nil)) (pv 1)))))))), ?_⟩
    refine ⟨_, rfl, d, _, _, _, rfl, rfl, SqL.of hd, rfl, _, _, rfl, rfl, _, rfl, ?_⟩
    by_cases hg : 0 < g
    · rw [decide_eq_true hg]
      refine iteT ⟨_, rfl, d, _, _, _, rfl, rfl, SqL.of hd, rfl, .inl ⟨_, rfl, _, rfl, _, _, rfl, rfl, t0, ?_⟩⟩
      refine ⟨_, rfl, d, _, _, _, rfl, rfl, SqL.of hd, rfl, _, rfl, _, _, rfl, rfl, ⟨t0, t1⟩, _, rfl, d, _, _, 0, rfl, rfl, hd, rfl, _, rfl, ?_⟩
      exact q _ _ (sb_dice (SB.refl _ _)) ⟨_, _, _, upd_same⟩ (Int.emod_nonneg _ (by omega)) (Int.emod_lt_of_pos _ t0)
    · rw [decide_eq_false hg]
      refine iteF ⟨_, rfl, d, _, _, _, rfl, rfl, SqL.of hd, rfl, _, _, rfl, rfl, _, rfl, d, _, _, 2, rfl, rfl, hd, rfl, ?_⟩
      have hd2 : upd H d (.lst ([.int g, .int m, .int c].set 2 (.int (c + 1)))) d = some (.lst [.int g, .int m, .int (c + 1)]) := upd_same
      refine ⟨_, rfl, d, _, _, _, rfl, rfl, SqL.of hd2, rfl, _, rfl, d, _, _, _, rfl, rfl, SqL.of hd2, rfl, _, _, rfl, rfl, .inl (by decide), _, _, rfl, rfl, .inl ⟨_, rfl, _, _, rfl, rfl, by show (0 : Int) < 2305843009213693951; decide, ?_⟩⟩
      generalize hx : (m + 1000187 * (c + 1)) % 2305843009213693951 = x
      have x0 : 0 ≤ x := by rw [← hx]; exact Int.emod_nonneg _ (by decide)
      have x1 : x < 2305843009213693951 := by rw [← hx]; exact Int.emod_lt_of_pos _ (by decide)
      refine ⟨_, rfl, _, rfl, _, _, rfl, rfl, .inl ⟨by omega, by omega⟩, .inl ⟨_, rfl, _, _, rfl, rfl, by show (0 : Int) < 2305843009213693921; decide, _, rfl, _, _, rfl, rfl, .inr ⟨by omega, by omega⟩, _, rfl, d, _, _, _, rfl, rfl, SqL.of hd2, rfl, _, _, rfl, rfl, .inl (by decide), _, _, rfl, rfl, ?_⟩⟩
      refine ⟨_, rfl, .inl ⟨_, rfl, _, _, rfl, rfl, by show (0 : Int) < 2305843009213693907; decide, ?_⟩⟩
      refine ⟨_, rfl, _, _, rfl, rfl, by show (0 : Int) < 8192 ∧ (8192 : Int) < 1073741824; decide, .inl ⟨_, rfl, _, rfl, _, _, rfl, rfl, t0, ?_⟩⟩
      exact q _ _ (sb_dice (SB.refl _ _)) ⟨_, _, _, hd2⟩ (Int.emod_nonneg _ (by omega)) (Int.emod_lt_of_pos _ t0)
end
end Lg

namespace Lg
open PySem L2 Lo
section
variable {P : Program} {w : World} {K : PySem.W.Frag} {mg : Str → Option Value} {base : Heap}
theorem boot_list' : bootBuiltins "list" = some (.type "list") := by decide +kernel
theorem boot_min' : bootBuiltins "min" = some (.builtin "min") := by decide +kernel
/-! ### _law_one_of -/
def spOne : Sp := fun vs H Q _ => ∃ (d l : Addr) (xs : List V), vs = [.ref d, .ref l] ∧ DiceAt H d ∧ H l = some (.lst xs) ∧ l ≠ d ∧ xs ≠ [] ∧ xs.length ≤ 1000 ∧ ∀ H' x, x ∈ xs → SB d H H' → DiceAt H' d → Q x H'
theorem scOne : FnScope ["_law_dice_here", "_law_items"] ["_law_dice_here", "_law_items"] (defScope sOneOf) := ⟨rfl, rfl, rfl, by decide +kernel, rfl, by decide +kernel, by decide +kernel⟩
theorem ok_one {f : Addr} {fd : FuncData} (F : Fun K "_law_one_of" "_law_one_of" sOneOf f fd) (B : Blt mg) (cr : Cal P w K mg base 1 "_law_roll" spRoll) : FnOk P w K mg base CX0 2 f fd ["_law_dice_here", "_law_items"] spOne := by
  refine F.ok scOne (fun vs H Q E h => ?_) (fun cdv A outer s H vs Q E hr h => ?_)
  · obtain ⟨d, l, xs, rfl, _⟩ := h
    rfl
  · obtain ⟨d, l, xs, rfl, hd, hl, hn, hne, hz, q⟩ := h
    have pl := List.length_pos_iff.mpr hne
    refine ⟨_, pss_one (ps_ret (pe_ix ix_list (pv 1) (pe_c cr hr (by decide) (by rfl) (pa_cons (pv 0) (pa_cons (pe_callB call_len_seq (by rfl) B.len boot_len' (pa_cons (pv 1) pa_nil)) pa_nil))) (fun _ _ => rfl))), ?_⟩
    refine ⟨_, rfl, _, rfl, _, rfl, l, xs, rfl, .inl (SqL.of hl), d, _, rfl, hd, by omega, by omega, fun H1 r sb hd1 r0 r1 => ?_⟩
    obtain ⟨j, ej⟩ : ∃ j : Nat, r = (j : Int) := ⟨r.toNat, by omega⟩
    have hj : j < xs.length := by omega
    exact ⟨l, xs, r, xs[j], rfl, rfl, SqL.of (sb _ _ hn hl), at_of ej (List.getElem?_eq_getElem hj), q H1 _ (List.getElem_mem hj) sb hd1⟩
def rLen (K : PySem.W.Frag) : List V → Hp → VK → Prop := fun xs H Q => ∃ p ys, xs = [.ref p] ∧ (SqL K H p ys ∨ SqT K H p ys) ∧ Q (.int ys.length) H
/-! ### _law_mixed -/
def spMix : Sp := fun vs H Q _ => ∃ (d l : Addr) (xs : List V), vs = [.ref d, .ref l] ∧ DiceAt H d ∧ H l = some (.lst xs) ∧ l ≠ d ∧ xs.length ≤ 1000 ∧ ∀ H' L ys, SB d H H' → DiceAt H' d → H L = none → H' L = some (.lst ys) → (∀ y ∈ ys, y ∈ xs) → Q (.ref L) H'
theorem scMix : FnScope ["_law_dice_here", "_law_items", "_law_left", "_law_turn"] ["_law_dice_here", "_law_items"] (defScope sMixed) := ⟨rfl, rfl, rfl, by decide +kernel, rfl, by decide +kernel, by decide +kernel⟩
theorem ok_mix {f : Addr} {fd : FuncData} (F : Fun K "_law_mixed" "_law_mixed" sMixed f fd) (B : Blt mg) (cr : Cal P w K mg base 1 "_law_roll" spRoll) : FnOk P w K mg base CX0 2 f fd ["_law_dice_here", "_law_items"] spMix := by
  refine F.ok scMix (fun vs H Q E h => ?_) (fun cdv A outer s H vs Q E hr h => ?_)
  · obtain ⟨d, l, xs, rfl, _⟩ := h
    rfl
  · obtain ⟨d, l, xs, rfl, hd, hl, hn, hz, q⟩ := h
    refine ⟨_, pss_cons (ps_set (i := 2) scMix.nd rfl (.inr rfl) (pe_callTy call_list_of (by rfl) B.list boot_list' (pa_cons (pv 1) pa_nil)))
      (pss_one (ps_ret (pe_lc (own := [("_law_turn", 3)]) (g := gName 3) (tt := tYes) (te := tBM K "list" rPopAt (tVar 2) (tCons (tCl spRoll (tCons (tVar 0) (tCons (tCB (rLen K) (tCons (tVar 2) tNil)) tNil))) tNil)) rfl scMix.nd
        (pi_range1 (by rfl) B.range (pa_cons (pe_callB call_len_seq (by rfl) B.len boot_len' (pa_cons (pv 1) pa_nil)) pa_nil)) (blkOk_by (own := [("_law_turn", 3)]) (N := ["_law_dice_here", "_law_items", "_law_left", "_law_turn"]) (sc := defScope sMixed) (by decide +kernel)) (fun _ _ _ _ _ => pg_name (i := 3) scMix.nd rfl (Or.inl rfl))
        (fun _ _ _ _ _ => pts_nil) (fun _ _ _ _ _ => pe_bm PySem.F.plainAttrs_list PySem.F.slot_list_pop PySem.F.type_list_pop mt_popAt (pv 2) (pa_cons (pe_c cr hr (by decide) (by rfl) (pa_cons (pv 0) (pa_cons (pe_callB call_len_seq (by rfl) B.len boot_len' (pa_cons (pv 2) pa_nil)) pa_nil))) pa_nil))))), ?_⟩
    refine ⟨_, rfl, l, xs, rfl, .inl (SqL.of hl), fun l2 nl2 => ?_⟩
    have nl2d : l2 ≠ d := hd.free nl2
    have hl1 : upd H l2 (.lst xs) l = some (.lst xs) := by rw [upd_ne (ne_of_none hl nl2)]; exact hl
    have hl2 : upd H l2 (.lst xs) l2 = some (.lst xs) := upd_same
    have hd1 : DiceAt (upd H l2 (.lst xs)) d := hd.same (same_upd (Same.refl _) nl2)
    refine ⟨_, rfl, l, xs, rfl, .inl (SqL.of hl1), _, rfl, by omega, by omega, fun D hD => ?_⟩
    have nD : H D = none := by
      by_cases e : D = l2
      · rw [e]; exact nl2
      · rw [upd_ne e] at hD; exact hD
    have nDl : l2 ≠ D := ne_of_none hl2 hD
    have nDd : D ≠ d := hd1.free hD
    have en : ((xs.length : Nat) : Int).toNat = xs.length := Int.toNat_natCast _
    refine lc_range (lo := 0) (n := _) (fun i H' => SB d H H' ∧ DiceAt H' d ∧ ∃ left acc, H' l2 = some (.lst left) ∧ H' D = some (.lst acc) ∧ left.length + i = xs.length ∧ acc.length = i ∧ (∀ y ∈ left, y ∈ xs) ∧ ∀ y ∈ acc, y ∈ xs) ?_ ?_ ?_
    · refine ⟨sb_at (sb_at (SB.refl _ _) nl2) nD, hd1.same (same_upd (Same.refl _) hD), xs, [], ?_, upd_same, rfl, rfl, fun y h => h, fun y h => nomatch h⟩
      rw [upd_ne nDl]; exact hl2
    · rintro i H' hi ⟨sb, hd', left, acc, hleft, hacc, e1, e2, m1, m2⟩
      rw [en] at hi
      refine ⟨rfl, _, rfl, .inl ⟨rfl, _, SqL.of hleft⟩, _, rfl, _, rfl, l2, left, rfl, .inl (SqL.of hleft), d, _, rfl, hd', by omega, by omega, fun H1 r sb1 hd1 r0 r1 => ?_⟩
      obtain ⟨j, ej⟩ : ∃ j : Nat, r = (j : Int) := ⟨r.toNat, by omega⟩
      have hj : j < left.length := by omega
      have hleft1 := sb1 _ _ nl2d hleft
      obtain ⟨kk, hk, hx, hlt, _⟩ := atI_get (at_of (xs := left) ej (List.getElem?_eq_getElem hj))
      refine ⟨l2, left, r, kk, left[j], rfl, rfl, hleft1, by omega, by omega, hk, hx, acc, ?_, ?_, ?_⟩
      · rw [upd_ne nDl.symm]
        exact sb1 _ _ nDd hacc
      · rw [e2]; exact Nat.lt_of_lt_of_le (by omega : i < 1000) (by decide)
      · refine ⟨sb_at (sb_at (sb.trans sb1) nl2) nD, ?_, left.eraseIdx kk, acc ++ [left[j]], ?_, upd_same, ?_, ?_, fun y hy => m1 y (List.mem_of_mem_eraseIdx hy), fun y hy => ?_⟩
        · obtain ⟨g, m, c, e⟩ := hd1
          exact ⟨g, m, c, by rw [upd_ne nDd.symm, upd_ne nl2d.symm]; exact e⟩
        · rw [upd_ne nDl]; exact upd_same
        · rw [List.length_eraseIdx_of_lt hlt]; omega
        · rw [List.length_append, e2]; rfl
        · rcases List.mem_append.mp hy with h | h
          · exact m2 y h
          · rw [List.mem_singleton.mp h]; exact m1 _ (List.getElem_mem hj)
    · rintro H' ⟨sb, hd', left, acc, hleft, hacc, e1, e2, m1, m2⟩
      exact q H' D acc sb hd' nD hacc m2
end
end Lg

namespace Lg
open PySem L2 Lo
section
variable {P : Program} {w : World} {K : PySem.W.Frag} {mg : Str → Option Value} {base : Heap}
/-! ### _law_coefficients -/
abbrev two67 : Int := 147573952589676412928
def Digs (cs : List Int) : Prop := ∀ c ∈ cs, 0 ≤ c ∧ c < two67
theorem Digs.cat {a b : List Int} (h1 : Digs a) (h2 : Digs b) : Digs (a ++ b) := fun c hc => (List.mem_append.mp hc).elim (h1 c) (h2 c)
theorem Digs.one {c : Int} (h0 : 0 ≤ c) (h1 : c < two67) : Digs [c] := fun x hx => by rw [List.mem_singleton.mp hx]; exact ⟨h0, h1⟩
theorem Digs.zeros (k : Nat) : Digs (List.replicate k 0) := fun x hx => by rw [(List.mem_replicate.mp hx).2]; decide
def spCoefs : Sp := fun vs H Q _ => ∃ d : Addr, vs = [.ref d] ∧ DiceAt H d ∧ ∀ H' t cs, SB d H H' → DiceAt H' d → TupI H' t cs → cs.length ≤ 10 → Digs cs → Q (.ref t) H'
theorem scCoefs : FnScope ["_law_dice_here", "_law_found", "_law_turn"] ["_law_dice_here"] (defScope sCoefs) := ⟨rfl, rfl, rfl, by decide +kernel, rfl, by decide +kernel, by decide +kernel⟩
theorem ok_coefs {f : Addr} {fd : FuncData} (F : Fun K "_law_coefficients" "_law_coefficients" sCoefs f fd) (B : Blt mg) (cr : Cal P w K mg base 1 "_law_roll" spRoll) (co : Cal P w K mg base 2 "_law_one_of" spOne) : FnOk P w K mg base CX0 3 f fd ["_law_dice_here"] spCoefs := by
  refine F.ok scCoefs (fun vs H Q E h => ?_) (fun cdv A outer s H vs Q E hr h => ?_)
  · obtain ⟨d, rfl, _⟩ := h
    rfl
  · obtain ⟨d, rfl, hd, q⟩ := h
    refine ⟨_, pss_cons (ps_set (i := 1) scCoefs.nd rfl (.inl rfl) (pe_lst pa_nil)) (pss_cons (ps_for PySem.PassesOwn.never rfl (pi_range1 (by rfl) B.range (pa_cons (pe_c cr hr (by decide) (by rfl) (pa_cons (pv 0) (pa_cons pe_int pa_nil))) pa_nil)) (pg_name (i := 2) scCoefs.nd rfl (.inl rfl))
      (pss_one (ps_expr (pe_bm PySem.F.plainAttrs_list PySem.F.slot_list_append PySem.F.type_list_append mt_append (pv 1) (pa_cons (pe_c co hr (by decide) (by rfl) (pa_cons (pv 0) (pa_cons (pe_lst
        (pa_cons pe_int (pa_cons pe_int (pa_cons pe_int (pa_cons pe_int (pa_cons pe_int (pa_cons pe_int (pa_cons pe_int (pa_cons pe_int (pa_cons (pe_op op_add (pe_op op_pow pe_int pe_int) (pe_c cr hr (by decide) (by rfl) (pa_cons (pv 0) (pa_cons pe_int pa_nil)))) pa_nil)))))))))) pa_nil))) pa_nil)))))
      (pss_one (ps_ret (pe_op op_catA (pe_callTy call_tuple_of (by rfl) B.tuple boot_tuple2 (pa_cons (pv 1) pa_nil)) (pe_op op_repA (pe_tup (pa_cons pe_int pa_nil)) (pe_c co hr (by decide) (by rfl) (pa_cons (pv 0) (pa_cons (pe_lst (pa_cons pe_int (pa_cons pe_int (pa_cons pe_int (pa_cons pe_int pa_nil))))) pa_nil)))))))), ?_⟩
    refine ⟨Nat.zero_le _, fun l nl => ?_⟩
    have nld : l ≠ d := hd.free nl
    have hd1 : DiceAt (upd H l (.lst [])) d := hd.same (same_upd (Same.refl _) nl)
    refine ⟨_, rfl, d, _, rfl, hd1, by decide, by decide, fun H1 r sb1 hd1 r0 r1 => ⟨_, rfl, by omega, by omega, ?_⟩⟩
    have ten : (10 : Int) ^ (20 : Int).toNat = 100000000000000000000 := by decide +kernel
    refine for_range (fun i σ H' => ∃ (v : Option V) (cs : List Int), σ = [some (.ref d), some (.ref l), v] ∧ SB d H H' ∧ DiceAt H' d ∧ H' l = some (.lst (ivs cs)) ∧ cs.length ≤ i ∧ Digs cs) ⟨none, [], rfl, (sb_at (SB.refl _ _) nl).trans sb1, by assumption, sb1 _ _ nld upd_same, Nat.zero_le _, fun c hc => nomatch hc⟩ ?_ ?_
    · rintro i σ H' hi ⟨v, cs, rfl, sb, hd', hl', hz, hg⟩
      refine ⟨_, rfl, .inl ⟨rfl, _, SqL.of hl'⟩, _, rfl, _, _, rfl, rfl, by show (0 : Int) ≤ 20 ∧ (20 : Int) ≤ 1000000 ∧ (10 : Int).natAbs < 2 ^ 64; decide, _, rfl, d, _, rfl, hd', by decide, by decide, fun H2 z sb2 hd2 z0 z1 => ?_⟩
      refine ⟨_, _, rfl, rfl, by show 9 ≤ sizeLine; decide, fun l2 nl2 => ?_⟩
      have nl2d : l2 ≠ d := hd2.free nl2
      refine ⟨d, l2, _, rfl, hd2.same (same_upd (Same.refl _) nl2), upd_same, nl2d, List.cons_ne_nil _ _, by show 9 ≤ 1000; decide, fun H3 x hx sb3 hd3 => ?_⟩
      have hl3 : H3 l = some (.lst (ivs cs)) := sb3 _ _ nld (by rw [upd_ne (ne_of_none (sb2 _ _ nld hl') nl2)]; exact sb2 _ _ nld hl')
      obtain ⟨c, ec, c0, c1⟩ : ∃ c : Int, x = .int c ∧ 0 ≤ c ∧ c < two67 := by
        simp only [List.mem_cons, List.not_mem_nil, or_false] at hx
        rcases hx with e | e | e | e | e | e | e | e | e
        all_goals first | exact ⟨_, e, by decide, by decide⟩ | exact ⟨10 ^ (20 : Int).toNat + z, e, by rw [ten]; omega, by rw [ten]; show _ < (147573952589676412928 : Int); omega⟩
      subst ec
      have sb4 : SB d H H3 := (sb.trans sb2).trans ((sb_at (SB.refl _ _) nl2).trans sb3)
      refine ⟨l, _, _, rfl, rfl, hl3, ?_, some (.int (0 + (i : Int))), cs ++ [c], rfl, sb_at sb4 nl, ?_, ?_, ?_, hg.cat (Digs.one c0 c1)⟩
      · rw [List.length_map]; exact Nat.lt_of_le_of_lt (by omega : cs.length ≤ 1000) (by decide)
      · obtain ⟨g, m, c, e⟩ := hd3
        exact ⟨g, m, c, by rw [upd_ne nld.symm]; exact e⟩
      · rw [upd_same, ivs, ivs, List.map_append]; rfl
      · rw [List.length_append, List.length_singleton]; omega
    · rintro σ H' ⟨v, cs, rfl, sb, hd', hl', hz, hg⟩
      refine ⟨_, rfl, l, _, rfl, .inl ⟨SqL.of hl', fun t nt => ?_⟩⟩
      have ht : TupI (upd H' t (.tup (ivs cs))) t cs := upd_same
      have hdt : DiceAt (upd H' t (.tup (ivs cs))) d := hd'.same (same_upd (Same.refl _) nt)
      refine ⟨by show 1 ≤ sizeLine; decide, fun p np => ?_⟩
      have hp : TupI (upd (upd H' t (.tup (ivs cs))) p (.tup (ivs [0]))) p [0] := upd_same
      have hdp : DiceAt (upd (upd H' t (.tup (ivs cs))) p (.tup (ivs [0]))) d := hdt.same (same_upd (Same.refl _) np)
      have htp : TupI (upd (upd H' t (.tup (ivs cs))) p (.tup (ivs [0]))) t cs := ht.same (same_upd (Same.refl _) np)
      refine ⟨_, rfl, by show 4 ≤ sizeLine; decide, fun l2 nl2 => ?_⟩
      have s2 : Same (upd (upd H' t (.tup (ivs cs))) p (.tup (ivs [0]))) (upd (upd (upd H' t (.tup (ivs cs))) p (.tup (ivs [0]))) l2 (.lst [.int 0, .int 0, .int 1, .int 2])) := same_upd (Same.refl _) nl2
      refine ⟨d, l2, _, rfl, hdp.same s2, upd_same, hdp.free nl2, List.cons_ne_nil _ _, by show 4 ≤ 1000; decide, fun H3 x hx sb3 hd3 => ?_⟩
      obtain ⟨k, ek, hk⟩ : ∃ k : Nat, x = .int (k : Int) ∧ k ≤ 2 := by
        simp only [List.mem_cons, List.not_mem_nil, or_false] at hx
        rcases hx with e | e | e | e
        · exact ⟨0, e, by decide⟩
        · exact ⟨0, e, by decide⟩
        · exact ⟨1, e, by decide⟩
        · exact ⟨2, e, by decide⟩
      subst ek
      have hp3 : TupI H3 p [0] := (hp.same s2).sb (hdp.same s2) sb3
      have ht3 : TupI H3 t cs := (htp.same s2).sb (hdp.same s2) sb3
      have sb5 : SB d H H3 := sb.trans ((Same.sb (same_upd (same_upd (same_upd (Same.refl _) nt) np) nl2)).trans sb3)
      refine rep_all (p := p) rfl hp3 (by omega) fun r H4 s4 hR => cat_all (ht3.same s4) hR (by rw [List.length_replicate]; omega) fun z H5 s5 hZ => ?_
      exact q H5 z _ (sb5.trans (Same.sb (s4.trans s5))) ((hd3.same s4).same s5) hZ (by rw [List.length_append, List.length_replicate]; omega) (hg.cat (Digs.zeros k))
end
end Lg

namespace Lg
open PySem L2 Lo
theorem Can.drop {cs : List Int} (h : Can cs) : ∀ i, Can (cs.drop i)
  | 0 => h
  | i + 1 => by
    have := Can.drop h i
    cases e : cs.drop i with
    | nil => rw [← List.drop_drop, e]; exact can_nil
    | cons c r =>
      rw [e] at this
      rw [← List.drop_drop, e]
      exact this.tail
section
variable {P : Program} {w : World} {K : PySem.W.Frag} {mg : Str → Option Value} {base : Heap}
/-! ### _law_digits -/
def spDig : Sp := fun vs H Q _ => ∃ (cs : List Int) (B : Int) (b : Nat), vs = [.int (ev cs B), .int B] ∧ Can cs ∧ (∀ c ∈ cs, c < B) ∧ 0 < B ∧ B < 2 ^ b ∧ 0 < b ∧ b ≤ 9000 ∧ cs.length ≤ 1000 ∧ ∀ H' t, Same H H' → TupI H' t cs → Q (.ref t) H'
theorem scDig : FnScope ["_law_number", "_law_base", "_law_found"] ["_law_number", "_law_base"] (defScope sDigits) := ⟨rfl, rfl, rfl, by decide +kernel, rfl, by decide +kernel, by decide +kernel⟩
theorem ok_dig {f : Addr} {fd : FuncData} (F : Fun K "_law_digits" "_law_digits" sDigits f fd) (B : Blt mg) : FnOk P w K mg base CX0 1 f fd ["_law_number", "_law_base"] spDig := by
  refine F.ok scDig (fun vs H Q E h => ?_) (fun cdv A outer s H vs Q E hr h => ?_)
  · obtain ⟨cs, z, b, rfl, _⟩ := h
    rfl
  · obtain ⟨cs, z, b, rfl, hC, hd, z0, zb, b0, b1, hl, q⟩ := h
    refine ⟨_, pss_cons (ps_set (i := 2) scDig.nd rfl (.inl rfl) (pe_lst pa_nil)) (pss_cons (ps_while PySem.PassesOwn.never (pt_cmpR op_gt (pv 0) pe_int (nomark _))
      (pss_cons (ps_expr (pe_bm PySem.F.plainAttrs_list PySem.F.slot_list_append PySem.F.type_list_append mt_append (pv 2) (pa_cons (pe_op op_mod (pe_callTy call_int1 (by rfl) B.int boot_int' (pa_cons (pv 0) pa_nil)) (pv 1)) pa_nil)))
      (pss_one (ps_set (i := 0) scDig.nd rfl (.inl rfl) (pe_op op_fdivW (pv 0) (pv 1))))))
      (pss_one (ps_ret (pe_callTy call_tuple_of (by rfl) B.tuple boot_tuple2 (pa_cons (pv 2) pa_nil))))), ?_⟩
    refine ⟨Nat.zero_le _, fun l nl => ?_⟩
    refine while_by (fun σ H' => ∃ i, σ = [some (.int (ev (cs.drop i) z)), some (.int z), some (.ref l)] ∧ i ≤ cs.length ∧ H' l = some (.lst (ivs (cs.take i))) ∧ Same H H') (fun _ H' => match H' l with | some (.lst xs) => cs.length - xs.length | _ => 0)
      ⟨0, rfl, Nat.zero_le _, upd_same, same_upd (Same.refl _) nl⟩ ?_ (mono_test (mono_op mono_I0 mono_var mono_c))
    rintro σ H' ⟨i, rfl, hi, hl', hs⟩
    refine ⟨_, rfl, _, _, rfl, rfl, _, rfl, ?_⟩
    have hCi := hC.drop i
    have nn := ev_nn hCi.nn (Int.le_of_lt z0)
    by_cases hp : 0 < ev (cs.drop i) z
    · rw [decide_eq_true hp]
      have hlt : i < cs.length := by
        rcases Nat.lt_or_ge i cs.length with h | h
        · exact h
        · rw [List.drop_eq_nil_of_le h] at hp
          exact absurd hp (Int.lt_irrefl 0)
      have ed : cs.drop i = cs[i] :: cs.drop (i + 1) := List.drop_eq_getElem_cons hlt
      have hm : cs[i] ∈ cs := List.getElem_mem hlt
      have c0 := hC.nn _ hm
      have c1 := hd _ hm
      have ev1 : ev (cs.drop i) z = ev (cs.drop (i + 1)) z * z + cs[i] := by rw [ed]; rfl
      have e1 : ev (cs.drop i) z % z = cs[i] := by rw [ev1, Int.add_comm, Int.add_mul_emod_self_right, Int.emod_eq_of_lt c0 c1]
      have e2 : ev (cs.drop i) z / z = ev (cs.drop (i + 1)) z := by
        rw [ev1, Int.add_comm, Int.add_mul_ediv_right _ _ (by omega), Int.ediv_eq_zero_of_lt c0 c1, Int.zero_add]
      refine iteT ⟨_, rfl, .inl ⟨rfl, _, SqL.of hl'⟩, _, rfl, .inl ⟨_, rfl, _, rfl, _, _, rfl, rfl, z0, l, _, _, rfl, rfl, hl', ?_, ?_⟩⟩
      · rw [List.length_map, List.length_take]
        exact Nat.lt_of_le_of_lt (by omega : min i cs.length ≤ 1000) (by decide)
      · refine ⟨_, rfl, _, rfl, _, _, rfl, rfl, wide_div z0 (natAbs_lt (Int.le_of_lt z0) zb) b0 b1, ⟨i + 1, ?_, hlt, ?_, same_at hs nl⟩, ?_⟩
        · show [some (V.int (ev (cs.drop i) z / z)), some (V.int z), some (V.ref l)] = _
          rw [e2]
        · show upd H' l (.lst (ivs (cs.take i) ++ [V.int (ev (cs.drop i) z % z)])) l = _
          rw [upd_same, e1, List.take_succ_eq_append_getElem hlt, ivs, ivs, List.map_append]; rfl
        · show (match upd H' l (.lst (ivs (cs.take i) ++ [V.int (ev (cs.drop i) z % z)])) l with | some (.lst xs) => cs.length - xs.length | _ => 0) < (match H' l with | some (.lst xs) => cs.length - xs.length | _ => 0)
          rw [upd_same, hl']
          show cs.length - (ivs (cs.take i) ++ [V.int (ev (cs.drop i) z % z)]).length < cs.length - (ivs (cs.take i)).length
          rw [List.length_append, List.length_map, List.length_take, List.length_singleton]
          omega
    · rw [decide_eq_false hp]
      have e0 : ev (cs.drop i) z = 0 := by omega
      have en := can_zero hCi z0 e0
      have et : cs.take i = cs := by
        have := List.take_append_drop i cs
        rw [en, List.append_nil] at this
        exact this
      rw [et] at hl'
      exact iteF ⟨_, rfl, l, _, rfl, .inl ⟨SqL.of hl', fun t nt => q _ t (same_upd hs nt) tupI_new⟩⟩
end
end Lg

namespace Lg
open PySem L2 Lo
/-! ### all that the class answers -/
structure Dun (P : Program) (w : World) (K : PySem.W.Frag) (mg : Str → Option Value) (base : Heap) (C : Addr) (n : Str) (k : Nat) (sp : Sp) : Prop where
  ex : ∃ f : Addr, FnR P w K mg base CX0 k f sp ∧ PySem.W.findIn K (.ref C) n = some (some (.ref f)) ∧ PySem.W.isFn K (.ref f) = true
/-- the int's own slots, for int operands on the right -/
structure IntSl (K : PySem.W.Frag) (C : Addr) (n r : Str) : Prop where
  rr : ∃ rc, PySem.W.findIn K (.ref C) r = some rc ∧ (rc = none ∨ ∃ g : Addr, rc = some (.ref g))
  i1 : ∃ fo, PySem.W.findIn K (.type "int") n = some fo
  i2 : ∃ ro, PySem.W.findIn K (.type "int") r = some ro
structure Pol (P : Program) (w : World) (K : PySem.W.Frag) (mg : Str → Option Value) (base : Heap) (C : Addr) : Prop where
  T : PolyC K mg C
  init : ∃ fi, Mk K C fi ∧ FnR P w K mg base CX0 4 fi (spInit C)
  add : Dun P w K mg base C "__add__" 7 (spBin C padd okAdd)
  radd : Dun P w K mg base C "__radd__" 7 (spBin C padd okAdd)
  mul : Dun P w K mg base C "__mul__" 7 (spBin C pmul okMul)
  rmul : Dun P w K mg base C "__rmul__" 7 (spBin C pmul okMul)
  pow : Dun P w K mg base C "__pow__" 7 (spPowM C)
  eq : Dun P w K mg base C "__eq__" 1 (spEqM C)
  str : Dun P w K mg base C "__str__" 3 (spStr C)
  ia : IntSl K C "__add__" "__radd__"
  im : IntSl K C "__mul__" "__rmul__"
  ip : IntSl K C "__pow__" "__rpow__"
  at_ : ∃ f, Meth K C "at" f ∧ FnR P w K mg base CX0 7 f (spAtM C)
  reach : ∃ f, Meth K C "reach" f ∧ FnR P w K mg base CX0 4 f (spReach C)
  call : ∃ g, StX.CallO K C g ∧ FnR P w K mg base CX0 4 g (spCall C)
  deg : ∃ p g fd, PropOf K C "degree" p g ∧ FnOk P w K mg base CX0 1 g fd ["self"] (spDeg C) ∧ Binds K fd ["self"] []
  co : ∃ p g fd, PropOf K C "coefficients" p g ∧ FnOk P w K mg base CX0 1 g fd ["self"] (spCo C) ∧ Binds K fd ["self"] []
  of_ : ∃ p g, ClX.CRead K C (.type "type") ∧ ClX.CMet K C (.type "type") "of" p g ∧ FnR P w K mg base CX0 6 g (spOf C)

/-! ### sizes of what is built -/
theorem Fit.padd {a b : List Int} {L M k j : Nat} (ha : Fit a L k) (hb : Fit b M j) : Fit (padd a b) (max L M) (max k j + 1) :=
  ((ha.mono (Nat.le_max_left _ _) (Nat.le_max_left _ _)).add (hb.mono (Nat.le_max_right _ _) (Nat.le_max_right _ _))).trim
theorem Fit.pmul {a b : List Int} {L M k j : Nat} (ha : Fit a L k) (hb : Fit b M j) : Fit (pmul a b) (L + M) (k + j) := (ha.mul hb).trim
theorem Fit.ppow {a : List Int} {L k : Nat} (ha : Fit a L k) (m : Nat) : Fit (ppow a m) (1 + m * L) (1 + m * k) := (ha.pow m).trim
theorem Fit.pat {a b : List Int} {L M k j : Nat} (ha : Fit a L k) (hb : Fit b M j) : Fit (pat a b) (L * (M + 1)) (k + j * L) := (ha.inner hb).trim
theorem padd_comm (a b : List Int) : padd a b = padd b a := by rw [Lg.padd, Lg.padd, addL_comm]
theorem pmul_comm {a b : List Int} (ha : NN a) (hb : NN b) : pmul a b = pmul b a :=
  can_eq (can_pmul ha hb) (can_pmul hb ha) fun n => by rw [ev_pmul, ev_pmul, Int.mul_comm]

/-! ### operands -/
def Opr (C : Addr) (H : Hp) (x y : V) (xs ys : List Int) : Prop := (∃ a, x = .ref a ∧ PolyAt C H a xs ∧ Opd C H y ys) ∨ (∃ i a, x = .int i ∧ 0 ≤ i ∧ xs = [i] ∧ y = .ref a ∧ PolyAt C H a ys)
@[irreducible] def rBin (C : Addr) (g : List Int → List Int → List Int) (ok : Nat → Nat → Nat → Nat → Prop) : R2 := fun x y H Q => ∃ xs ys L M k j, Opr C H x y xs ys ∧ Fit xs L k ∧ Fit ys M j ∧ ok L M k j ∧ ∀ H' z, Same H H' → PolyAt C H' z (g xs ys) → Q (.ref z) H'
@[irreducible] def rPowM (C : Addr) : R2 := fun x y H Q => ∃ (a : Addr) (xs : List Int) (m L k : Nat), x = .ref a ∧ y = .int (m : Int) ∧ PolyAt C H a xs ∧ Fit xs L k ∧ m ≤ 20 ∧ 1 + 21 * L ≤ 900 ∧ 1 + 21 * k ≤ 800000 ∧ ∀ H' z, Same H H' → PolyAt C H' z (ppow xs m) → Q (.ref z) H'
section
variable {X : Cx} {C : Addr} {A : Around}
theorem bin_all {op : Operator} {n r : Str} {g : List Int → List Int → List Int} {ok : Nat → Nat → Nat → Nat → Prop} (T : PolyC X.K X.mg C) (en : PySem.dunder op.info.2 = n) (er : dunderR op.info.2 = r) (D : Dun X.prog X.w X.K X.mg X.base C n 7 (spBin C g ok)) (S : IntSl X.K C n r) (sb : Sub X 7 A)
    (hR : OpA X A (binaryOp op) (fun x y H Q => ∃ a i dx fs, x = .int i ∧ y = .ref a ∧ H a = some (.ins C dx fs) ∧ spBin C g ok [.ref a, .int i] H Q E0))
    (hok : ∀ L M k j, ok L M k j → ok M L j k) (hg : ∀ a b, NN a → NN b → g a b = g b a) : OpA X A (binaryOp op) (rBin C g ok) := by
  subst en er
  obtain ⟨f, F, hs, hf⟩ := D.ex
  obtain ⟨rc, h3, h4⟩ := S.rr
  obtain ⟨fo, h1⟩ := S.i1
  obtain ⟨ro, h2⟩ := S.i2
  intro pins s σ H x y v u Q I rx ry hb
  unfold rBin at hb
  obtain ⟨xs, ys, L, M, k, j, o, fA, fB, hk, q⟩ := hb
  rcases o with ⟨a, e1, ha, ⟨b, e2, hb⟩ | ⟨i, e2, h0, hi⟩⟩ | ⟨i, a, e1, h0, hi, e2, ha⟩
  · obtain ⟨dx, t, h5, _⟩ := id ha
    obtain ⟨dy, u', h6, _⟩ := id hb
    exact op_two (op := op) F sb pass0 T.sf hs hf pins s σ H x y v u Q I rx ry ⟨a, b, dx, dy, _, _, e1, e2, h5, h6, a, .ref b, xs, ys, L, M, k, j, rfl, ha, .inl ⟨b, rfl, hb⟩, fA, fB, hk, q⟩
  · obtain ⟨dx, t, h5, _⟩ := id ha
    exact op_int (op := op) F sb pass0 T.sf hs hf h3 h4 h1 h2 T.s1 pins s σ H x y v u Q I rx ry ⟨a, i, dx, _, e1, e2, h5, a, .int i, xs, ys, L, M, k, j, rfl, ha, .inr ⟨i, rfl, h0, hi⟩, fA, fB, hk, q⟩
  · obtain ⟨dx, t, h5, _⟩ := id ha
    refine hR pins s σ H x y v u Q I rx ry ⟨a, i, dx, _, e1, e2, h5, a, .int i, ys, xs, M, L, j, k, rfl, ha, .inr ⟨i, rfl, h0, hi⟩, fB, fA, hok _ _ _ _ hk, fun H' z s' hz => q H' z s' ?_⟩
    rw [hg _ _ fA.nn fB.nn]; exact hz
theorem opr_add (L : Pol X.prog X.w X.K X.mg X.base C) (sb : Sub X 7 A) : OpA X A (binaryOp .Add) (rBin C padd okAdd) := by
  obtain ⟨g, _, hl, _⟩ := L.add.ex
  obtain ⟨f, F, hs, hf⟩ := L.radd.ex
  exact bin_all L.T (by decide +kernel) (by decide +kernel) L.add L.ia sb (op_radd F sb pass0 L.T.sf hl hs hf L.T.s2) (fun _ _ _ _ h => ⟨h.2, h.1⟩) fun a b _ _ => padd_comm a b
theorem opr_mul (L : Pol X.prog X.w X.K X.mg X.base C) (sb : Sub X 7 A) : OpA X A (binaryOp .Mult) (rBin C pmul okMul) := by
  obtain ⟨g, _, hl, _⟩ := L.mul.ex
  obtain ⟨f, F, hs, hf⟩ := L.rmul.ex
  exact bin_all L.T (by decide +kernel) (by decide +kernel) L.mul L.im sb (op_rmul F sb pass0 L.T.sf hl hs hf L.T.s2) (fun _ _ _ _ h => ⟨by have := h.1; omega, by have := h.2; omega⟩) fun a b ha hb => pmul_comm ha hb
theorem opr_pow (L : Pol X.prog X.w X.K X.mg X.base C) (sb : Sub X 7 A) : OpA X A (binaryOp .Pow) (rPowM C) := by
  obtain ⟨f, F, hs, hf⟩ := L.pow.ex
  obtain ⟨rc, h3, h4⟩ := L.ip.rr
  obtain ⟨fo, h1⟩ := L.ip.i1
  obtain ⟨ro, h2⟩ := L.ip.i2
  have e1 : PySem.dunder (Operator.Pow).info.2 = ("__pow__" : Str) := by decide +kernel
  have e2 : dunderR (Operator.Pow).info.2 = ("__rpow__" : Str) := by decide +kernel
  intro pins s σ H x y v u Q I rx ry hb
  unfold rPowM at hb
  obtain ⟨a, xs, m, L', k, ex, ey, ha, fA, hm, hL, hk, q⟩ := hb
  obtain ⟨dx, t, h5, _⟩ := id ha
  exact op_int (op := .Pow) F sb pass0 L.T.sf (by rw [e1]; exact hs) hf (by rw [e2]; exact h3) h4 (by rw [e1]; exact h1) (by rw [e2]; exact h2) L.T.s1 pins s σ H x y v u Q I rx ry ⟨a, _, dx, _, ex, ey, h5, a, xs, m, L', k, rfl, ha, fA, hm, hL, hk, q⟩
theorem Opr.pp {H : Hp} {a b : Addr} {xs ys : List Int} (h1 : PolyAt C H a xs) (h2 : PolyAt C H b ys) : Opr C H (.ref a) (.ref b) xs ys := .inl ⟨a, rfl, h1, .inl ⟨b, rfl, h2⟩⟩
theorem Opr.pi {H : Hp} {a : Addr} {xs : List Int} {i : Int} (h1 : PolyAt C H a xs) (h0 : 0 ≤ i) : Opr C H (.ref a) (.int i) xs [i] := .inl ⟨a, rfl, h1, .inr ⟨i, rfl, h0, rfl⟩⟩
theorem Opr.ip {H : Hp} {a : Addr} {xs : List Int} {i : Int} (h1 : PolyAt C H a xs) (h0 : 0 ≤ i) : Opr C H (.int i) (.ref a) [i] xs := .inr ⟨i, a, rfl, h0, rfl, rfl, h1⟩
end
end Lg

namespace Lg
open PySem L2 Lo
section
variable {P : Program} {w : World} {K : PySem.W.Frag} {mg : Str → Option Value} {base : Heap} {C : Addr}
/-! ### one step each, for the readings -/
theorem mth {m : Str} {H : Hp} {p : Addr} {xs : List Int} {R : Prop} (hm : (m == fC) = false) (hp : PolyAt C H p xs) (h : R) : ∃ a dx fs, V.ref p = V.ref a ∧ H a = some (.ins C dx fs) ∧ List.lookup m fs = none ∧ R := by
  obtain ⟨dx, t, h1, _⟩ := hp
  refine ⟨p, dx, _, rfl, h1, ?_, h⟩
  rw [List.lookup_cons, hm]; rfl
theorem add_ok {H : Hp} {x y : V} {xs ys : List Int} {L M k j : Nat} {Q : VK} (o : Opr C H x y xs ys) (fA : Fit xs L k) (fB : Fit ys M j) (ho : L ≤ 1000 ∧ M ≤ 1000)
    (q : ∀ H' z, Same H H' → PolyAt C H' z (padd xs ys) → Fit (padd xs ys) (max L M) (max k j + 1) → Q (.ref z) H') : rBin C padd okAdd x y H Q := by
  unfold rBin
  exact ⟨xs, ys, L, M, k, j, o, fA, fB, ho, fun H' z s h => q H' z s h (fA.padd fB)⟩
theorem mul_ok {H : Hp} {x y : V} {xs ys : List Int} {L M k j : Nat} {Q : VK} (o : Opr C H x y xs ys) (fA : Fit xs L k) (fB : Fit ys M j) (ho : L + M ≤ 1000 ∧ k + j ≤ 900000)
    (q : ∀ H' z, Same H H' → PolyAt C H' z (pmul xs ys) → Fit (pmul xs ys) (L + M) (k + j) → Q (.ref z) H') : rBin C pmul okMul x y H Q := by
  unfold rBin
  exact ⟨xs, ys, L, M, k, j, o, fA, fB, ho, fun H' z s h => q H' z s h (fA.pmul fB)⟩
theorem pow_ok {H : Hp} {a : Addr} {xs : List Int} {m L k : Nat} {Q : VK} (ha : PolyAt C H a xs) (fA : Fit xs L k) (ho : m ≤ 20 ∧ 1 + 21 * L ≤ 900 ∧ 1 + 21 * k ≤ 800000)
    (q : ∀ H' z, Same H H' → PolyAt C H' z (ppow xs m) → Fit (ppow xs m) (1 + m * L) (1 + m * k) → Q (.ref z) H') : rPowM C (.ref a) (.int (m : Int)) H Q := by
  unfold rPowM
  exact ⟨a, xs, m, L, k, rfl, rfl, ha, fA, ho.1, ho.2.1, ho.2.2, fun H' z s h => q H' z s h (fA.ppow m)⟩
theorem at_ok {H : Hp} {p r : Addr} {xs ys : List Int} {L M k j : Nat} {Q : VK} (hp : PolyAt C H p xs) (hr : PolyAt C H r ys) (fA : Fit xs L k) (fB : Fit ys M j) (ho : L * (M + 1) + M ≤ 900 ∧ k + j * (L + 1) ≤ 800000)
    (q : ∀ H' z, Same H H' → PolyAt C H' z (pat xs ys) → Fit (pat xs ys) (L * (M + 1)) (k + j * L) → Q (.ref z) H') : spAtM C [.ref p, .ref r] H Q E0 := by
  unfold spAtM
  exact ⟨p, r, xs, ys, L, M, k, j, rfl, hp, hr, fA, fB, ho.1, ho.2, fun H' z s h => q H' z s h (fA.pat fB)⟩
theorem oaR {X : Cx} (L : Pol X.prog X.w X.K X.mg X.base C) (hr : Room 7 X.A) : OpR X (binaryOp .Add) (rBin C padd okAdd) := (opr_add L (sub_here hr)).here
theorem omR {X : Cx} (L : Pol X.prog X.w X.K X.mg X.base C) (hr : Room 7 X.A) : OpR X (binaryOp .Mult) (rBin C pmul okMul) := (opr_mul L (sub_here hr)).here
theorem opR {X : Cx} (L : Pol X.prog X.w X.K X.mg X.base C) (hr : Room 7 X.A) : OpR X (binaryOp .Pow) (rPowM C) := (opr_pow L (sub_here hr)).here
theorem osR {X : Cx} (L : Pol X.prog X.w X.K X.mg X.base C) (hr : Room 8 X.A) : OpA X X.A.in1 (binaryOp .Add) (rBin C padd okAdd) := opr_add L (sub_here hr).in1
/-! ### _law_built_ways -/
def PairAt (C : Addr) (H : Hp) (y : V) : Prop := ∃ (t p q : Addr) (cs : List Int), y = .ref t ∧ H t = some (.tup [.ref p, .ref q]) ∧ PolyAt C H p cs ∧ PolyAt C H q cs ∧ Can cs ∧ Fit cs 100 1500
theorem PairAt.same {H H' : Hp} {y : V} (h : PairAt C H y) (s : Same H H') : PairAt C H' y := by
  obtain ⟨t, p, q, cs, e, h1, h2, h3, h4⟩ := h
  exact ⟨t, p, q, cs, e, s _ _ h1, h2.same s, h3.same s, h4⟩
theorem PairAt.sb {H H' : Hp} {y : V} {d : Addr} (h : PairAt C H y) (hd : DiceAt H d) (s : SB d H H') : PairAt C H' y := by
  obtain ⟨t, p, q, cs, e, h1, h2, h3, h4⟩ := h
  have h5 := h2.sb hd s
  have h6 := h3.sb hd s
  obtain ⟨g, m, c, ed⟩ := hd
  exact ⟨t, p, q, cs, e, s _ _ (ne_of h1 ed (by intro z; cases z)) h1, h5, h6, h4⟩
def spWays (C : Addr) : Sp := fun vs H Q _ => ∃ (d p1 p2 p3 : Addr) (as bs cs : List Int), vs = [.ref d, .ref p1, .ref p2, .ref p3] ∧ DiceAt H d ∧ PolyAt C H p1 as ∧ PolyAt C H p2 bs ∧ PolyAt C H p3 cs ∧ Can as ∧ Can bs ∧ Can cs ∧ Fit as 3 69 ∧ Fit bs 3 69 ∧ Fit cs 3 69 ∧
  ∀ H' L ys, SB d H H' → DiceAt H' d → H' L = some (.lst ys) → (∀ y ∈ ys, PairAt C H' y) → Q (.ref L) H'
theorem scWays : FnScope ["_law_dice_here", "_law_one", "_law_other", "_law_third", "_law_found"] ["_law_dice_here", "_law_one", "_law_other", "_law_third"] (defScope sWays) := ⟨rfl, rfl, rfl, by decide +kernel, rfl, by decide +kernel, by decide +kernel⟩
theorem pair_new {H : Hp} {t p q : Addr} {cs ds : List Int} {L k : Nat} (n : H t = none) (h1 : PolyAt C H p cs) (h2 : PolyAt C H q ds) (e : cs = ds) (c : Can cs) (f : Fit cs L k) (hz : L ≤ 100 ∧ k ≤ 1500) : PairAt C (upd H t (.tup [.ref p, .ref q])) (.ref t) := by
  subst e
  have s := same_upd (o := .tup [.ref p, .ref q]) (Same.refl H) n
  exact ⟨t, p, q, cs, rfl, upd_same, h1.same s, h2.same s, c, f.mono hz.1 hz.2⟩
theorem PolyAt.lst {H : Hp} {p l : Addr} {cs : List Int} {xs : List V} {o : HO} (h : PolyAt C H p cs) (hl : H l = some (.lst xs)) : PolyAt C (upd H l o) p cs := by
  obtain ⟨dx, t, h1, h2⟩ := h
  refine ⟨dx, t, ?_, ?_⟩
  · rw [upd_ne (ne_of h1 hl (by intro z; cases z))]; exact h1
  · show upd H l o t = _
    rw [upd_ne (ne_of (show H t = _ from h2) hl (by intro z; cases z))]; exact h2
theorem PairAt.lst {H : Hp} {l : Addr} {y : V} {xs : List V} {o : HO} (h : PairAt C H y) (hl : H l = some (.lst xs)) : PairAt C (upd H l o) y := by
  obtain ⟨t, p, q, cs, e, h1, h2, h3, h4⟩ := h
  refine ⟨t, p, q, cs, e, ?_, h2.lst hl, h3.lst hl, h4⟩
  rw [upd_ne (ne_of h1 hl (by intro z; cases z))]; exact h1
/-- what stands between two statements of _law_built_ways -/
structure Bd (C : Addr) (H0 : Hp) (d l p1 p2 p3 : Addr) (as bs cs : List Int) (ys : List V) (H : Hp) : Prop where
  sb : SB d H0 H
  hd : DiceAt H d
  ha : PolyAt C H p1 as
  hb : PolyAt C H p2 bs
  hc : PolyAt C H p3 cs
  hl : H l = some (.lst ys)
  pr : ∀ y ∈ ys, PairAt C H y
theorem Bd.step {H0 H H' : Hp} {d l p1 p2 p3 : Addr} {as bs cs : List Int} {ys : List V} {y : V} (b : Bd C H0 d l p1 p2 p3 as bs cs ys H) (nl : H0 l = none) (hn : l ≠ d) (s : Same H H') (hy : PairAt C H' y) : Bd C H0 d l p1 p2 p3 as bs cs (ys ++ [y]) (upd H' l (.lst (ys ++ [y]))) := by
  have hl := s _ _ b.hl
  refine ⟨sb_at (b.sb.trans (Same.sb s)) nl, ?_, (b.ha.same s).lst hl, (b.hb.same s).lst hl, (b.hc.same s).lst hl, upd_same, fun z hz => ?_⟩
  · obtain ⟨g, m, c, e⟩ := b.hd.same s
    exact ⟨g, m, c, by rw [upd_ne hn.symm]; exact e⟩
  · rcases List.mem_append.mp hz with h | h
    · exact ((b.pr z h).same s).lst hl
    · rw [List.mem_singleton.mp h]; exact hy.lst hl
def MidW (C : Addr) (H0 : Hp) (d p1 p2 p3 : Addr) (as bs cs : List Int) (n : Nat) : L2.St → Hp → Prop := fun σ H => ∃ l ys, σ = [some (.ref d), some (.ref p1), some (.ref p2), some (.ref p3), some (.ref l)] ∧ l ≠ d ∧ H0 l = none ∧ ys.length ≤ n ∧ Bd C H0 d l p1 p2 p3 as bs cs ys H
theorem none_back {H H' : Hp} {l : Addr} (s : Same H H') (n : H' l = none) : H l = none := by
  cases e : H l with
  | none => rfl
  | some o =>
    rw [s _ _ e] at n
    cases n
theorem short {n k : Nat} (h : n ≤ k) (hk : k ≤ 1000) : n < sizeLine := Nat.lt_of_le_of_lt (Nat.le_trans h hk) (by decide)
/-- one more pair -/
theorem Bd.mid {H0 H H' : Hp} {d l p1 p2 p3 : Addr} {as bs cs : List Int} {ys : List V} {y : V} {n : Nat} (b : Bd C H0 d l p1 p2 p3 as bs cs ys H) (nl : H0 l = none) (hn : l ≠ d) (hz : ys.length ≤ n) (s : Same H H') (hy : PairAt C H' y) : MidW C H0 d p1 p2 p3 as bs cs (n + 1) [some (.ref d), some (.ref p1), some (.ref p2), some (.ref p3), some (.ref l)] (upd H' l (.lst (ys ++ [y]))) :=
  ⟨l, _, rfl, hn, nl, by rw [List.length_append, List.length_singleton]; omega, b.step nl hn s hy⟩
theorem fit_one {c : Int} (h0 : 0 ≤ c) (h : c ≤ 3) : Fit [c] 1 2 := Fit.one_int h0 (by show c < 4; omega)
theorem ok_ways {f : Addr} {fd : FuncData} (F : Fun K "_law_built_ways" "_law_built_ways" sWays f fd) (B : Blt mg) (L : Pol P w K mg base C) (cm : Cal P w K mg base 2 "_law_mixed" spMix) : FnOk P w K mg base CX0 9 f fd ["_law_dice_here", "_law_one", "_law_other", "_law_third"] (spWays C) := by
  obtain ⟨fi, hM, hI⟩ := L.init
  obtain ⟨fa, hA, hFA⟩ := L.at_
  refine F.ok scWays (fun vs H Q E h => ?_) (fun cdv A outer s H vs Q E hr h => ?_)
  · obtain ⟨d, p1, p2, p3, as, bs, cs, rfl, _⟩ := h
    rfl
  · obtain ⟨d, p1, p2, p3, as, bs, cs, rfl, hd, ha, hb, hc, ca, cb, cc, fa', fb, fc, q⟩ := h
    have hr7 := Room.mono hr (by decide : 7 ≤ 8)
    refine ⟨_, C8.pss_cut (ps_set (i := 4) scWays.nd rfl (.inl rfl) (pe_lst (pa_cons (pe_tup (pa_cons (pe_op (omR L hr7) (pe_op (oaR L hr7) (pv 1) (pv 2)) (pv 3)) (pa_cons (pe_op (oaR L hr7) (pe_op (omR L hr7) (pv 3) (pv 1)) (pe_op (omR L hr7) (pv 3) (pv 2))) pa_nil)))
        (pa_cons (pe_tup (pa_cons (pe_methR (pe_methR (pv 1) L.T.cl hA hFA hr7 pass0 (pa_cons (pv 2) pa_nil)) L.T.cl hA hFA hr7 pass0 (pa_cons (pv 3) pa_nil)) (pa_cons (pe_methR (pv 1) L.T.cl hA hFA hr7 pass0 (pa_cons (pe_methR (pv 2) L.T.cl hA hFA hr7 pass0 (pa_cons (pv 3) pa_nil)) pa_nil)) pa_nil))) pa_nil))))
      (C8.pss_cut (ps_expr (pe_bm PySem.F.plainAttrs_list PySem.F.slot_list_append PySem.F.type_list_append mt_append (pv 4) (pa_cons (pe_tup (pa_cons (pe_methR (pe_op (omR L hr7) (pv 1) (pv 2)) L.T.cl hA hFA hr7 pass0 (pa_cons (pv 3) pa_nil)) (pa_cons (pe_op (omR L hr7) (pe_methR (pv 1) L.T.cl hA hFA hr7 pass0 (pa_cons (pv 3) pa_nil)) (pe_methR (pv 2) L.T.cl hA hFA hr7 pass0 (pa_cons (pv 3) pa_nil))) pa_nil))) pa_nil)))
      (C8.pss_cut (ps_expr (pe_bm PySem.F.plainAttrs_list PySem.F.slot_list_append PySem.F.type_list_append mt_append (pv 4) (pa_cons (pe_tup (pa_cons (pe_op (opR L hr7) (pe_op (oaR L hr7) (pv 1) pe_int) pe_int) (pa_cons (pe_op (oaR L hr7) (pe_op (oaR L hr7) (pe_op (oaR L hr7) (pe_op (opR L hr7) (pv 1) pe_int) (pe_op (omR L hr7) pe_int (pe_op (opR L hr7) (pv 1) pe_int))) (pe_op (omR L hr7) (pv 1) pe_int)) pe_int) pa_nil))) pa_nil)))
      (C8.pss_cut (ps_expr (pe_bm PySem.F.plainAttrs_list PySem.F.slot_list_append PySem.F.type_list_append mt_append (pv 4) (pa_cons (pe_tup (pa_cons (pe_callB (call_sumI rfl (fun _ _ h => h) (osR L hr)) (by rfl) B.sum boot_sum' (pa_cons (pe_lst (pa_cons (pv 1) (pa_cons (pv 2) (pa_cons (pv 3) pa_nil)))) pa_nil)) (pa_cons (pe_op (oaR L hr7) (pv 3) (pe_op (oaR L hr7) (pv 2) (pv 1))) pa_nil))) pa_nil)))
      (C8.pss_cut (ps_expr (pe_bm PySem.F.plainAttrs_list PySem.F.slot_list_append PySem.F.type_list_append mt_append (pv 4) (pa_cons (pe_tup (pa_cons (pe_op (oaR L hr7) (pe_op (oaR L hr7) pe_int (pe_op (omR L hr7) (pv 1) pe_int)) (pe_makeR0 hM hI (Room.mono hr (by decide)) (by rfl) L.T.mgC pass0)) (pa_cons (pv 1) pa_nil))) pa_nil)))
      (pss_one (ps_ret (pe_c cm hr (by decide) (by rfl) (pa_cons (pv 0) (pa_cons (pv 4) pa_nil))))))))), ?_⟩
    have w1 := way1 ca cb cc
    have w2 := way2 ca cb cc
    have w3 := way3 ca cb cc
    have w4 := way4 ca
    have w5 := way5 ca cb cc
    have w6 := way6 ca
    have hm : (("at" : Str) == fC) = false := by decide +kernel
    have k1 : Fit [1] 1 2 := fit_one (by decide) (by decide)
    have k3 : Fit [3] 1 2 := fit_one (by decide) (by decide)
    have k0 : Fit [0] 1 2 := fit_one (by decide) (by decide)
    refine ⟨MidW C H d p1 p2 p3 as bs cs 2, ?_, ?_⟩
    · refine ⟨_, rfl, _, rfl, add_ok (Opr.pp ha hb) fa' fb (by decide) fun H1 z1 s1 h1 f1 => ⟨_, rfl, mul_ok (Opr.pp h1 (hc.same (by repeat (first | exact Same.refl _ | assumption | refine same_upd ?_ (by assumption) | refine Same.trans ?_ (by assumption))))) f1 fc (by decide) fun H2 z2 s2 h2 f2 => ?_⟩⟩
      refine ⟨_, rfl, _, rfl, mul_ok (Opr.pp (hc.same (by repeat (first | exact Same.refl _ | assumption | refine same_upd ?_ (by assumption) | refine Same.trans ?_ (by assumption)))) (ha.same (by repeat (first | exact Same.refl _ | assumption | refine same_upd ?_ (by assumption) | refine Same.trans ?_ (by assumption))))) fc fa' (by decide) fun H3 z3 s3 h3 f3 => ⟨_, rfl, _, rfl, mul_ok (Opr.pp (hc.same (by repeat (first | exact Same.refl _ | assumption | refine same_upd ?_ (by assumption) | refine Same.trans ?_ (by assumption)))) (hb.same (by repeat (first | exact Same.refl _ | assumption | refine same_upd ?_ (by assumption) | refine Same.trans ?_ (by assumption))))) fc fb (by decide) fun H4 z4 s4 h4 f4 => add_ok (Opr.pp (h3.same (by repeat (first | exact Same.refl _ | assumption | refine same_upd ?_ (by assumption) | refine Same.trans ?_ (by assumption)))) h4) f3 f4 (by decide) fun H5 z5 s5 h5 f5 => ?_⟩⟩
      refine ⟨by show 2 ≤ sizeLine; decide, fun t1 n1 => ?_⟩
      have q1 := pair_new n1 (h2.same (by repeat (first | exact Same.refl _ | assumption | refine same_upd ?_ (by assumption) | refine Same.trans ?_ (by assumption)))) h5 w1 (can_pmul (can_padd ca.nn cb.nn).nn cc.nn) f2 (by decide)
      refine ⟨_, rfl, mth hm (ha.same (by repeat (first | exact Same.refl _ | assumption | refine same_upd ?_ (by assumption) | refine Same.trans ?_ (by assumption)))) ⟨_, rfl, at_ok (ha.same (by repeat (first | exact Same.refl _ | assumption | refine same_upd ?_ (by assumption) | refine Same.trans ?_ (by assumption)))) (hb.same (by repeat (first | exact Same.refl _ | assumption | refine same_upd ?_ (by assumption) | refine Same.trans ?_ (by assumption)))) fa' fb (by decide) fun H7 z7 s7 h7 f7 => mth hm h7 ⟨_, rfl, at_ok h7 (hc.same (by repeat (first | exact Same.refl _ | assumption | refine same_upd ?_ (by assumption) | refine Same.trans ?_ (by assumption)))) f7 fc (by decide) fun H8 z8 s8 h8 f8 => ?_⟩⟩⟩
      refine ⟨_, rfl, mth hm (ha.same (by repeat (first | exact Same.refl _ | assumption | refine same_upd ?_ (by assumption) | refine Same.trans ?_ (by assumption)))) ⟨_, rfl, mth hm (hb.same (by repeat (first | exact Same.refl _ | assumption | refine same_upd ?_ (by assumption) | refine Same.trans ?_ (by assumption)))) ⟨_, rfl, at_ok (hb.same (by repeat (first | exact Same.refl _ | assumption | refine same_upd ?_ (by assumption) | refine Same.trans ?_ (by assumption)))) (hc.same (by repeat (first | exact Same.refl _ | assumption | refine same_upd ?_ (by assumption) | refine Same.trans ?_ (by assumption)))) fb fc (by decide) fun H9 z9 s9 h9 f9 => at_ok (ha.same (by repeat (first | exact Same.refl _ | assumption | refine same_upd ?_ (by assumption) | refine Same.trans ?_ (by assumption)))) h9 fa' f9 (by decide) fun H10 z10 s10 h10 f10 => ?_⟩⟩⟩
      refine ⟨by show 2 ≤ sizeLine; decide, fun t2 n2 => ⟨by show 2 ≤ sizeLine; decide, fun l nl => ?_⟩⟩
      have q2 := pair_new n2 (h8.same (by repeat (first | exact Same.refl _ | assumption | refine same_upd ?_ (by assumption) | refine Same.trans ?_ (by assumption)))) h10 w2 (can_pat (can_pat ca.nn cb.nn).nn cc.nn) f8 (by decide)
      have sA : Same H (upd H10 t2 (.tup [.ref z8, .ref z10])) := by repeat (first | exact Same.refl _ | assumption | refine same_upd ?_ (by assumption) | refine Same.trans ?_ (by assumption))
      have sB : Same (upd H5 t1 (.tup [.ref z2, .ref z5])) (upd H10 t2 (.tup [.ref z8, .ref z10])) := by repeat (first | exact Same.refl _ | assumption | refine same_upd ?_ (by assumption) | refine Same.trans ?_ (by assumption))
      have sC : Same (upd H10 t2 (.tup [.ref z8, .ref z10])) (upd (upd H10 t2 (.tup [.ref z8, .ref z10])) l (.lst [.ref t1, .ref t2])) := same_upd (Same.refl _) nl
      have sD := sA.trans sC
      refine ⟨l, [.ref t1, .ref t2], rfl, (hd.same sA).free nl, none_back sA nl, Nat.le_refl 2, Same.sb sD, hd.same sD, ha.same sD, hb.same sD, hc.same sD, upd_same, fun y hy => ?_⟩
      rcases List.mem_cons.mp hy with e | hy
      · rw [e]; exact q1.same (sB.trans sC)
      · rw [List.mem_singleton.mp hy]; exact q2.same sC
    rintro σ Hb ⟨l, ys, rfl, hn, nl, hz, b⟩
    refine ⟨MidW C H d p1 p2 p3 as bs cs 3, ?_, ?_⟩
    · have hb0 := b.hb
      have ha0 := b.ha
      have hc0 := b.hc
      refine ⟨_, rfl, .inl ⟨rfl, _, SqL.of b.hl⟩, _, rfl, _, rfl, mul_ok (Opr.pp ha0 hb0) fa' fb (by decide) fun H1 z1 s1 h1 f1 => mth hm h1 ⟨_, rfl, at_ok h1 (hc0.same (by repeat (first | exact Same.refl _ | assumption | refine same_upd ?_ (by assumption) | refine Same.trans ?_ (by assumption)))) f1 fc (by decide) fun H2 z2 s2 h2 f2 => ?_⟩⟩
      refine ⟨_, rfl, mth hm (ha0.same (by repeat (first | exact Same.refl _ | assumption | refine same_upd ?_ (by assumption) | refine Same.trans ?_ (by assumption)))) ⟨_, rfl, at_ok (ha0.same (by repeat (first | exact Same.refl _ | assumption | refine same_upd ?_ (by assumption) | refine Same.trans ?_ (by assumption)))) (hc0.same (by repeat (first | exact Same.refl _ | assumption | refine same_upd ?_ (by assumption) | refine Same.trans ?_ (by assumption)))) fa' fc (by decide) fun H3 z3 s3 h3 f3 => ⟨_, rfl, mth hm (hb0.same (by repeat (first | exact Same.refl _ | assumption | refine same_upd ?_ (by assumption) | refine Same.trans ?_ (by assumption)))) ⟨_, rfl, at_ok (hb0.same (by repeat (first | exact Same.refl _ | assumption | refine same_upd ?_ (by assumption) | refine Same.trans ?_ (by assumption)))) (hc0.same (by repeat (first | exact Same.refl _ | assumption | refine same_upd ?_ (by assumption) | refine Same.trans ?_ (by assumption)))) fb fc (by decide) fun H4 z4 s4 h4 f4 => mul_ok (Opr.pp (h3.same (by repeat (first | exact Same.refl _ | assumption | refine same_upd ?_ (by assumption) | refine Same.trans ?_ (by assumption)))) h4) f3 f4 (by decide) fun H5 z5 s5 h5 f5 => ?_⟩⟩⟩⟩
      refine ⟨by show 2 ≤ sizeLine; decide, fun t nt => ?_⟩
      have q1 := pair_new nt (h2.same (by repeat (first | exact Same.refl _ | assumption | refine same_upd ?_ (by assumption) | refine Same.trans ?_ (by assumption)))) h5 w3 (can_pat (can_pmul ca.nn cb.nn).nn cc.nn) f2 (by decide)
      have sA : Same Hb (upd H5 t (.tup [.ref z2, .ref z5])) := by repeat (first | exact Same.refl _ | assumption | refine same_upd ?_ (by assumption) | refine Same.trans ?_ (by assumption))
      exact ⟨l, _, _, rfl, rfl, sA _ _ b.hl, short hz (by decide), b.mid nl hn hz sA q1⟩
    clear b hz
    rintro σ Hb ⟨l, ys, rfl, hn, nl, hz, b⟩
    refine ⟨MidW C H d p1 p2 p3 as bs cs 4, ?_, ?_⟩
    · have ha0 := b.ha
      refine ⟨_, rfl, .inl ⟨rfl, _, SqL.of b.hl⟩, _, rfl, add_ok (Opr.pi ha0 (by decide)) fa' k1 (by decide) fun H1 z1 s1 h1 f1 => pow_ok (m := 3) h1 f1 (by decide) fun H2 z2 s2 h2 f2 => ?_⟩
      refine ⟨_, rfl, pow_ok (m := 3) (ha0.same (by repeat (first | exact Same.refl _ | assumption | refine same_upd ?_ (by assumption) | refine Same.trans ?_ (by assumption)))) fa' (by decide) fun H3 z3 s3 h3 f3 => ⟨_, rfl, pow_ok (m := 2) (ha0.same (by repeat (first | exact Same.refl _ | assumption | refine same_upd ?_ (by assumption) | refine Same.trans ?_ (by assumption)))) fa' (by decide) fun H4 z4 s4 h4 f4 => mul_ok (Opr.ip h4 (by decide)) k3 f4 (by decide) fun H5 z5 s5 h5 f5 => add_ok (Opr.pp (h3.same (by repeat (first | exact Same.refl _ | assumption | refine same_upd ?_ (by assumption) | refine Same.trans ?_ (by assumption)))) h5) f3 f5 (by decide) fun H6 z6 s6 h6 f6 => ?_⟩⟩
      refine ⟨_, rfl, mul_ok (Opr.pi (ha0.same (by repeat (first | exact Same.refl _ | assumption | refine same_upd ?_ (by assumption) | refine Same.trans ?_ (by assumption)))) (by decide)) fa' k3 (by decide) fun H7 z7 s7 h7 f7 => add_ok (Opr.pp (h6.same (by repeat (first | exact Same.refl _ | assumption | refine same_upd ?_ (by assumption) | refine Same.trans ?_ (by assumption)))) h7) f6 f7 (by decide) fun H8 z8 s8 h8 f8 => add_ok (Opr.pi h8 (by decide)) f8 k1 (by decide) fun H9 z9 s9 h9 f9 => ?_⟩
      refine ⟨by show 2 ≤ sizeLine; decide, fun t nt => ?_⟩
      rw [pmul_comm (nn_one (by decide)) (can_ppow ca.nn 2).nn] at h9
      have q1 := pair_new nt (h2.same (by repeat (first | exact Same.refl _ | assumption | refine same_upd ?_ (by assumption) | refine Same.trans ?_ (by assumption)))) h9 w4 (can_ppow (can_padd ca.nn (nn_one (by decide))).nn 3) f2 (by decide)
      have sA : Same Hb (upd H9 t (.tup [.ref z2, .ref z9])) := by repeat (first | exact Same.refl _ | assumption | refine same_upd ?_ (by assumption) | refine Same.trans ?_ (by assumption))
      exact ⟨l, _, _, rfl, rfl, sA _ _ b.hl, short hz (by decide), b.mid nl hn hz sA q1⟩
    clear b hz
    rintro σ Hb ⟨l, ys, rfl, hn, nl, hz, b⟩
    refine ⟨MidW C H d p1 p2 p3 as bs cs 5, ?_, ?_⟩
    · have hb0 := b.hb
      have ha0 := b.ha
      have hc0 := b.hc
      refine ⟨_, rfl, .inl ⟨rfl, _, SqL.of b.hl⟩, _, rfl, _, rfl, _, rfl, by show 3 ≤ sizeLine; decide, fun ls nls => ?_⟩
      have sL : Same Hb (upd Hb ls (.lst [.ref p1, .ref p2, .ref p3])) := same_upd (Same.refl _) nls
      have hls : upd Hb ls (.lst [.ref p1, .ref p2, .ref p3]) ls = some (.lst [.ref p1, .ref p2, .ref p3]) := upd_same
      refine ⟨ls, _, rfl, List.cons_ne_nil _ _, SqL.of hls, ⟨_, rfl⟩, add_ok (Opr.ip (ha0.same sL) (by decide)) k0 fa' (by decide) fun H1 z1 s1 h1 f1 => ⟨⟨_, rfl⟩, SqL.of (s1 _ _ hls), ⟨_, rfl⟩, add_ok (Opr.pp h1 (hb0.same (by repeat (first | exact Same.refl _ | assumption | refine same_upd ?_ (by assumption) | refine Same.trans ?_ (by assumption))))) f1 fb (by decide) fun H2 z2 s2 h2 f2 => ⟨⟨_, rfl⟩, SqL.of (s2 _ _ (s1 _ _ hls)), ⟨_, rfl⟩, add_ok (Opr.pp h2 (hc0.same (by repeat (first | exact Same.refl _ | assumption | refine same_upd ?_ (by assumption) | refine Same.trans ?_ (by assumption))))) f2 fc (by decide) fun H3 z3 s3 h3 f3 => ⟨⟨_, rfl⟩, SqL.of (s3 _ _ (s2 _ _ (s1 _ _ hls))), ⟨_, rfl⟩, ?_⟩⟩⟩⟩
      refine ⟨_, rfl, _, rfl, _, rfl, add_ok (Opr.pp (hb0.same (by repeat (first | exact Same.refl _ | assumption | refine same_upd ?_ (by assumption) | refine Same.trans ?_ (by assumption)))) (ha0.same (by repeat (first | exact Same.refl _ | assumption | refine same_upd ?_ (by assumption) | refine Same.trans ?_ (by assumption))))) fb fa' (by decide) fun H4 z4 s4 h4 f4 => add_ok (Opr.pp (hc0.same (by repeat (first | exact Same.refl _ | assumption | refine same_upd ?_ (by assumption) | refine Same.trans ?_ (by assumption)))) h4) fc f4 (by decide) fun H5 z5 s5 h5 f5 => ?_⟩
      refine ⟨by show 2 ≤ sizeLine; decide, fun t nt => ?_⟩
      rw [padd_comm [0] as] at h3 f3
      have q1 := pair_new nt (h3.same (by repeat (first | exact Same.refl _ | assumption | refine same_upd ?_ (by assumption) | refine Same.trans ?_ (by assumption)))) h5 w5 (can_padd (can_padd (can_padd ca.nn (nn_one (by decide))).nn cb.nn).nn cc.nn) f3 (by decide)
      have sA : Same Hb (upd H5 t (.tup [.ref z3, .ref z5])) := by repeat (first | exact Same.refl _ | assumption | refine same_upd ?_ (by assumption) | refine Same.trans ?_ (by assumption))
      exact ⟨l, _, _, rfl, rfl, sA _ _ b.hl, short hz (by decide), b.mid nl hn hz sA q1⟩
    clear b hz
    rintro σ Hb ⟨l, ys, rfl, hn, nl, hz, b⟩
    refine ⟨MidW C H d p1 p2 p3 as bs cs 6, ?_, ?_⟩
    · have ha0 := b.ha
      refine ⟨_, rfl, .inl ⟨rfl, _, SqL.of b.hl⟩, _, rfl, mul_ok (Opr.pi ha0 (by decide)) fa' k1 (by decide) fun H1 z1 s1 h1 f1 => add_ok (Opr.ip h1 (by decide)) k0 f1 (by decide) fun H2 z2 s2 h2 f2 => ?_⟩
      refine new_poly (cs := []) NN.nil (by decide) fun H3 z3 s3 h3 => add_ok (Opr.pp (h2.same s3) h3) f2 (L := 4) (k := 72) (M := 0) (j := 1) ⟨NN.nil, by decide, by decide⟩ (by decide) fun H4 z4 s4 h4 f4 => ⟨_, rfl, by show 2 ≤ sizeLine; decide, fun t nt => ?_⟩
      rw [padd_comm [0]] at h4 f4
      have q1 := pair_new nt h4 (ha0.same (by repeat (first | exact Same.refl _ | assumption | refine same_upd ?_ (by assumption) | refine Same.trans ?_ (by assumption)))) w6 (can_padd (can_padd (can_pmul ca.nn (nn_one (by decide))).nn (nn_one (by decide))).nn NN.nil) f4 (by decide)
      have sA : Same Hb (upd H4 t (.tup [.ref z4, .ref p1])) := by repeat (first | exact Same.refl _ | assumption | refine same_upd ?_ (by assumption) | refine Same.trans ?_ (by assumption))
      exact ⟨l, _, _, rfl, rfl, sA _ _ b.hl, short hz (by decide), b.mid nl hn hz sA q1⟩
    clear b hz
    rintro σ Hb ⟨l, ys, rfl, hn, nl, hz, b⟩
    exact ⟨_, rfl, _, rfl, d, l, ys, rfl, b.hd, b.hl, hn, by omega, fun H' L zs sb hd' nL hL hmem => q H' L zs (b.sb.trans sb) hd' hL fun y hy => (b.pr y (hmem y hy)).sb b.hd sb⟩
end
end Lg

namespace Lg
open PySem L2 Lo
section
variable {P : Program} {w : World} {K : PySem.W.Frag} {mg : Str → Option Value} {base : Heap} {C : Addr}
/-! ### _law_values_right -/
theorem call_ok {X : Cx} {H : Hp} {p : Addr} {cs : List Int} {n : Int} {L k b : Nat} {Q : VK} (hp : PolyAt C H p cs) (hF : Fit cs L k) (h0 : 0 ≤ n) (hn : n ≤ 2 ^ b) (hz : k + b * (L + 1) ≤ 900000) (q : ∀ H', Same H H' → Q (.int (ev cs n)) H') :
    StX.InsC X H p C ∧ spCall C [.ref p, .int n] H Q E0 := by
  obtain ⟨dx, t, h1, _⟩ := id hp
  unfold spCall
  exact ⟨.inr ⟨dx, _, h1⟩, p, cs, n, L, k, b, rfl, hp, hF, h0, hn, hz, q⟩
def spVals (C : Addr) : Sp := fun vs H Q _ => ∃ (d p1 p2 : Addr) (as bs : List Int), vs = [.ref d, .ref p1, .ref p2] ∧ DiceAt H d ∧ PolyAt C H p1 as ∧ PolyAt C H p2 bs ∧ Fit as 3 69 ∧ Fit bs 3 69 ∧ ∀ H', SB d H H' → DiceAt H' d → Q (.bl true) H'
theorem scVals : FnScope ["_law_dice_here", "_law_one", "_law_other", "_law_n", "_law_first", "_law_second", "_law_told"] ["_law_dice_here", "_law_one", "_law_other"] (defScope sVals) := ⟨rfl, rfl, rfl, by decide +kernel, rfl, by decide +kernel, by decide +kernel⟩
theorem ok_vals {f : Addr} {fd : FuncData} (F : Fun K "_law_values_right" "_law_values_right" sVals f fd) (B : Blt mg) (L : Pol P w K mg base C) (cr : Cal P w K mg base 1 "_law_roll" spRoll) : FnOk P w K mg base CX0 8 f fd ["_law_dice_here", "_law_one", "_law_other"] (spVals C) := by
  obtain ⟨fa, hA, hFA⟩ := L.at_
  obtain ⟨g, hC, hFC⟩ := L.call
  refine F.ok scVals (fun vs H Q E h => ?_) (fun cdv A outer s H vs Q E hr h => ?_)
  · obtain ⟨d, p1, p2, as, bs, rfl, _⟩ := h
    rfl
  · obtain ⟨d, p1, p2, as, bs, rfl, hd, ha, hb, fa', fb, q⟩ := h
    have hr7 := hr
    have hr4 := Room.mono hr (by decide : 4 ≤ 7)
    refine ⟨_, pss_cons (ps_for PySem.PassesOwn.never rfl (pi_tup (pe_tup (pa_cons pe_int (pa_cons pe_int (pa_cons (pe_c cr hr (by decide) (by rfl) (pa_cons (pv 0) (pa_cons pe_int pa_nil))) (pa_cons (pe_op op_add (pe_op op_pow pe_int pe_int) (pe_c cr hr (by decide) (by rfl) (pa_cons (pv 0) (pa_cons pe_int pa_nil)))) pa_nil)))))) (pg_name (i := 3) scVals.nd rfl (.inl rfl))
      (pss_cons (ps_par (i := 4) (j := 5) (by rfl) scVals.nd rfl rfl (by decide) rfl rfl (pa_cons (StX.pe_callO (pv 1) hC hFC hr4 pass0 (pa_cons (pv 3) pa_nil)) (pa_cons (StX.pe_callO (pv 2) hC hFC hr4 pass0 (pa_cons (pv 3) pa_nil)) pa_nil)) (by rfl))
      (pss_cons (ps_set (i := 6) scVals.nd rfl (.inl rfl) (pe_lst (pa_cons (StX.pe_callO (pe_op (oaR L hr7) (pv 1) (pv 2)) hC hFC hr4 pass0 (pa_cons (pv 3) pa_nil)) (pa_cons (StX.pe_callO (pe_op (omR L hr7) (pv 1) (pv 2)) hC hFC hr4 pass0 (pa_cons (pv 3) pa_nil))
        (pa_cons (StX.pe_callO (pe_op (opR L hr7) (pv 1) pe_int) hC hFC hr4 pass0 (pa_cons (pv 3) pa_nil)) (pa_cons (StX.pe_callO (pe_methR (pv 1) L.T.cl hA hFA hr7 pass0 (pa_cons (pv 2) pa_nil)) hC hFC hr4 pass0 (pa_cons (pv 3) pa_nil)) pa_nil))))))
      (pss_one (ps_if (pt_cmpR (op_neD hr.units) (pv 6) (pe_lst (pa_cons (pe_op op_add (pv 4) (pv 5)) (pa_cons (pe_op op_mulW (pv 4) (pv 5)) (pa_cons (pe_op op_mulW (pv 4) (pv 4)) (pa_cons (StX.pe_callO (pv 1) hC hFC hr4 pass0 (pa_cons (pv 5) pa_nil)) pa_nil))))) (nomark _)) (pss_one (ps_ret pe_bl)) pss_nil)))))
      (pss_one (ps_ret pe_bl)), ?_⟩
    have hm : (("at" : Str) == fC) = false := by decide +kernel
    have e12 : (10 : Int) ^ (12 : Int).toNat = 1000000000000 := by decide +kernel
    refine ⟨_, rfl, d, _, rfl, hd, by decide, by decide, fun H1 r sb1 hd1 r0 r1 => ⟨_, _, rfl, rfl, by show (0 : Int) ≤ 12 ∧ (12 : Int) ≤ 1000000 ∧ (10 : Int).natAbs < 2 ^ 64; decide, _, rfl, d, _, rfl, hd1, by decide, by decide, fun H2 r' sb2 hd2 r2 r3 => ⟨_, _, rfl, rfl, by show 4 ≤ sizeLine; decide, fun T nT => ?_⟩⟩⟩
    have sb : SB d H (upd H2 T (.tup [.int 0, .int 1, .int r, .int (10 ^ (12 : Int).toNat + r')])) := (sb1.trans sb2).trans (Same.sb (same_upd (Same.refl _) nT))
    have hdT : DiceAt (upd H2 T (.tup [.int 0, .int 1, .int r, .int (10 ^ (12 : Int).toNat + r')])) d := hd2.same (same_upd (Same.refl _) nT)
    have haT := ha.sb hd sb
    have hbT := hb.sb hd sb
    have hT : upd H2 T (.tup [.int 0, .int 1, .int r, .int (10 ^ (12 : Int).toNat + r')]) T = some (.tup [.int 0, .int 1, .int r, .int (10 ^ (12 : Int).toNat + r')]) := upd_same
    refine ⟨T, rfl, ⟨_, SqT.of hT⟩, ?_⟩
    refine for_tup (xs := [.int 0, .int 1, .int r, .int (10 ^ (12 : Int).toNat + r')]) (fun i σ H' => ∃ v3 v4 v5 v6, σ = [some (.ref d), some (.ref p1), some (.ref p2), v3, v4, v5, v6] ∧ Same (upd H2 T (.tup [.int 0, .int 1, .int r, .int (10 ^ (12 : Int).toNat + r')])) H') ⟨_, _, _, _, rfl, Same.refl _⟩ (fun i σ H' _ ⟨_, _, _, _, _, s3⟩ => SqT.of (s3 _ _ hT)) ?_ ?_
    · rintro i x σ H' hx ⟨v3, v4, v5, v6, rfl, s3⟩
      obtain ⟨n, en, n0, n1⟩ : ∃ n : Int, x = .int n ∧ 0 ≤ n ∧ n ≤ 2 ^ 40 := by
        have h := List.mem_of_getElem? hx
        have e40 : (2 : Int) ^ 40 = 1099511627776 := by decide
        rw [e40]
        simp only [List.mem_cons, List.not_mem_nil, or_false] at h
        rcases h with e | e | e | e
        · exact ⟨0, e, by decide, by decide⟩
        · exact ⟨1, e, by decide, by decide⟩
        · exact ⟨r, e, r0, by omega⟩
        · exact ⟨_, e, by rw [e12]; omega, by rw [e12]; omega⟩
      subst en
      have haI := haT.same s3
      have hbI := hbT.same s3
      refine ⟨_, rfl, p1, rfl, _, rfl, call_ok haI fa' n0 n1 (by decide) fun H3 s3' => ⟨_, rfl, p2, rfl, _, rfl, call_ok (hbI.same s3') fb n0 n1 (by decide) fun H4 s4 => ⟨_, _, rfl, ?_⟩⟩⟩
      refine ⟨_, rfl, _, rfl, add_ok (Opr.pp (haI.same (by repeat (first | exact Same.refl _ | assumption | refine same_upd ?_ (by assumption) | refine Same.trans ?_ (by assumption)))) (hbI.same (by repeat (first | exact Same.refl _ | assumption | refine same_upd ?_ (by assumption) | refine Same.trans ?_ (by assumption))))) fa' fb (by decide) fun H5 z5 s5 h5 f5 => ⟨z5, rfl, _, rfl, call_ok h5 f5 n0 n1 (by decide) fun H6 s6 => ?_⟩⟩
      refine ⟨_, rfl, _, rfl, mul_ok (Opr.pp (haI.same (by repeat (first | exact Same.refl _ | assumption | refine same_upd ?_ (by assumption) | refine Same.trans ?_ (by assumption)))) (hbI.same (by repeat (first | exact Same.refl _ | assumption | refine same_upd ?_ (by assumption) | refine Same.trans ?_ (by assumption))))) fa' fb (by decide) fun H7 z7 s7 h7 f7 => ⟨z7, rfl, _, rfl, call_ok h7 f7 n0 n1 (by decide) fun H8 s8 => ?_⟩⟩
      refine ⟨_, rfl, pow_ok (m := 2) (haI.same (by repeat (first | exact Same.refl _ | assumption | refine same_upd ?_ (by assumption) | refine Same.trans ?_ (by assumption)))) fa' (by decide) fun H9 z9 s9 h9 f9 => ⟨z9, rfl, _, rfl, call_ok h9 f9 n0 n1 (by decide) fun H10 s10 => ?_⟩⟩
      refine ⟨_, rfl, mth hm (haI.same (by repeat (first | exact Same.refl _ | assumption | refine same_upd ?_ (by assumption) | refine Same.trans ?_ (by assumption)))) ⟨_, rfl, at_ok (haI.same (by repeat (first | exact Same.refl _ | assumption | refine same_upd ?_ (by assumption) | refine Same.trans ?_ (by assumption)))) (hbI.same (by repeat (first | exact Same.refl _ | assumption | refine same_upd ?_ (by assumption) | refine Same.trans ?_ (by assumption)))) fa' fb (by decide) fun H11 z11 s11 h11 f11 => ⟨z11, rfl, _, rfl, call_ok h11 f11 n0 n1 (by decide) fun H12 s12 => ⟨by show 4 ≤ sizeLine; decide, fun l nl => ?_⟩⟩⟩⟩
      have x0 := ev_nn fa'.nn n0
      have x1 := Int.le_of_lt (fa'.ev_lt n0 n1)
      have y0 := ev_nn fb.nn n0
      have y1 := Int.le_of_lt (fb.ev_lt n0 n1)
      have hL : upd H12 l (.lst (ivs [ev (padd as bs) n, ev (pmul as bs) n, ev (ppow as 2) n, ev (pat as bs) n])) l = some (.lst (ivs [ev (padd as bs) n, ev (pmul as bs) n, ev (ppow as 2) n, ev (pat as bs) n])) := upd_same
      have sL : Same H12 (upd H12 l (.lst (ivs [ev (padd as bs) n, ev (pmul as bs) n, ev (ppow as 2) n, ev (pat as bs) n]))) := same_upd (Same.refl _) nl
      refine ⟨_, rfl, _, rfl, _, rfl, _, _, rfl, rfl, _, rfl, _, rfl, _, _, rfl, rfl, mulW x0 x1 y0 y1 (by decide), _, rfl, _, rfl, _, _, rfl, rfl, mulW x0 x1 x0 x1 (by decide), ?_⟩
      refine ⟨_, rfl, p1, rfl, _, rfl, call_ok (haI.same (by repeat (first | exact Same.refl _ | assumption | refine same_upd ?_ (by assumption) | refine Same.trans ?_ (by assumption)))) fa' y0 y1 (by decide) fun H13 s13 => ⟨by show 4 ≤ sizeLine; decide, fun l2 nl2 => ?_⟩⟩
      have s14 : Same H13 (upd H13 l2 (.lst (ivs [ev as n + ev bs n, ev as n * ev bs n, ev as n * ev as n, ev as (ev bs n)]))) := same_upd (Same.refl _) nl2
      refine ⟨_, _, dp_lst (s14 _ _ (s13 _ _ hL)), dp_lst (cs := [ev as n + ev bs n, ev as n * ev bs n, ev as n * ev as n, ev as (ev bs n)]) upd_same, shaped_lst _, shaped_lst _, _, rfl, ?_⟩
      have ee : [ev (padd as bs) n, ev (pmul as bs) n, ev (ppow as 2) n, ev (pat as bs) n] = [ev as n + ev bs n, ev as n * ev bs n, ev as n * ev as n, ev as (ev bs n)] := by
        have e2 : ev as n ^ 2 = ev as n * ev as n := by rw [Int.pow_succ, Int.pow_succ, Int.pow_zero, Int.one_mul]
        rw [ev_padd, ev_pmul, ev_ppow, ev_pat, e2]
      rw [eqv_lst, decide_eq_true ee]
      exact iteF ⟨_, _, _, _, rfl, by repeat (first | exact Same.refl _ | assumption | refine same_upd ?_ (by assumption) | refine Same.trans ?_ (by assumption))⟩
    · rintro σ H' ⟨v3, v4, v5, v6, rfl, s3⟩
      exact q H' (sb.trans (Same.sb s3)) (hdT.same s3)
end
end Lg

namespace Lg
open PySem L2 Lo
theorem one_digs : ∀ {cs : List Int}, Digs cs → ev cs 1 ≤ two67 * cs.length
  | [], _ => by simp [ev]
  | c :: cs, h => by
    have ih := one_digs (cs := cs) fun x hx => h x (List.mem_cons_of_mem _ hx)
    have h1 := (h c List.mem_cons_self).2
    simp only [ev, List.length_cons, Int.mul_one]
    rw [Int.natCast_succ, Int.mul_add]
    omega
theorem fit_take {cs : List Int} (h : Digs cs) : Fit (trim (cs.take 3)) 3 69 := by
  have h3 : Digs (cs.take 3) := fun c hc => h c (List.mem_of_mem_take hc)
  have hl : (cs.take 3).length ≤ 3 := by rw [List.length_take]; omega
  refine Fit.trim ⟨fun c hc => (h3 c hc).1, hl, ?_⟩
  have h4 := one_digs h3
  have e : (2 : Int) ^ 69 = 590295810358705651712 := by decide
  rw [e]
  have h5 : two67 * ((cs.take 3).length : Int) ≤ two67 * 3 := Int.mul_le_mul_of_nonneg_left (by omega) (by decide)
  have e3 : two67 * 3 = 442721857769029238784 := by decide
  omega
section
variable {P : Program} {w : World} {K : PySem.W.Frag} {mg : Str → Option Value} {base : Heap} {C : Addr}
theorem cut_take2 (cs : List Int) : cutV (ivs cs) none (some (3 : Int)) = ivs (cs.take 3) := by
  show cutV (ivs cs) none (some ((3 : Nat) : Int)) = _
  unfold cutV
  rw [HT.sIx_none, HT.sIx_nat, List.length_map, List.drop_zero, Nat.sub_zero]
  rcases Nat.le_total 3 cs.length with h | h
  · rw [Nat.min_eq_left h]; exact List.map_take.symm
  · rw [Nat.min_eq_right h, List.take_of_length_le (l := cs) h, List.take_of_length_le (by rw [List.length_map]; exact Nat.le_refl _)]
/-- the great base -/
@[irreducible] def gB : Int := (10 ^ (60 : Int).toNat) ^ (15 : Int).toNat
theorem gB_eq : ((10 : Int) ^ (60 : Int).toNat) ^ (15 : Int).toNat = gB := by unfold gB; rfl
theorem base_pos : (0 : Int) < gB := by unfold gB; exact Int.pow_pos (Int.pow_pos (by decide))
theorem base_lt : gB < 2 ^ 3000 := by unfold gB; decide +kernel
theorem base_gt : (2 : Int) ^ 1500 ≤ gB := by unfold gB; decide +kernel
/-! ### _law_right -/
abbrev nRight : List Str := ["_law_dice_here", "_law_things", "_law_turn", "_law_base", "_law_first", "_law_second", "_law_one", "_law_other", "_law_n"]
def spRight : Sp := fun vs H Q _ => ∃ d : Addr, vs = [.ref d] ∧ DiceAt H d ∧ ∀ H', SB d H H' → DiceAt H' d → Q (.bl true) H'
theorem scRight : FnScope nRight ["_law_dice_here"] (defScope sRight) := ⟨rfl, rfl, rfl, by decide +kernel, rfl, by decide +kernel, by decide +kernel⟩
/-- one drawn polynomial -/
def Drawn (C : Addr) (H : Hp) (y : V) : Prop := ∃ p cs, y = .ref p ∧ PolyAt C H p cs ∧ Can cs ∧ Fit cs 3 69
theorem Drawn.same {H H' : Hp} {y : V} (h : Drawn C H y) (s : Same H H') : Drawn C H' y := by
  obtain ⟨p, cs, e, h1, h2⟩ := h
  exact ⟨p, cs, e, h1.same s, h2⟩
theorem Drawn.sb {H H' : Hp} {y : V} {d : Addr} (h : Drawn C H y) (hd : DiceAt H d) (s : SB d H H') : Drawn C H' y := by
  obtain ⟨p, cs, e, h1, h2⟩ := h
  exact ⟨p, cs, e, h1.sb hd s, h2⟩
theorem Drawn.lst {H : Hp} {l : Addr} {y : V} {xs : List V} {o : HO} (h : Drawn C H y) (hl : H l = some (.lst xs)) : Drawn C (upd H l o) y := by
  obtain ⟨p, cs, e, h1, h2⟩ := h
  exact ⟨p, cs, e, h1.lst hl, h2⟩
theorem prop_ok {H : Hp} {p : Addr} {xs : List Int} {R : Addr → Prop} (hp : PolyAt C H p xs) (h : R p) : ∃ a dx fs, V.ref p = V.ref a ∧ H a = some (.ins C dx fs) ∧ R a := by
  obtain ⟨dx, t, h1, _⟩ := hp
  exact ⟨p, dx, _, rfl, h1, h⟩
theorem eq_ok {H : Hp} {p r : Addr} {xs ys : List Int} {Q : VK} (hp : PolyAt C H p xs) (hr : PolyAt C H r ys) (q : Q (.bl (decide (xs = ys))) H) :
    ∃ a b dx dy fs gs, V.ref p = .ref a ∧ V.ref r = .ref b ∧ H a = some (.ins C dx fs) ∧ H b = some (.ins C dy gs) ∧ spEqM C [.ref a, .ref b] H Q E0 := by
  obtain ⟨dx, t, h1, _⟩ := id hp
  obtain ⟨dy, u, h2, _⟩ := id hr
  unfold spEqM
  exact ⟨p, r, dx, dy, _, _, rfl, rfl, h1, h2, p, r, xs, ys, rfl, hp, hr, q⟩
theorem deg_ok {H : Hp} {p : Addr} {xs : List Int} {Q : VK} (hp : PolyAt C H p xs) (q : Q (.int ((xs.length : Int) - 1)) H) : ∃ a dx fs, V.ref p = V.ref a ∧ H a = some (.ins C dx fs) ∧ spDeg C [.ref a] H Q E0 := by
  obtain ⟨dx, t, h1, _⟩ := id hp
  unfold spDeg
  exact ⟨p, dx, _, rfl, h1, p, xs, rfl, hp, q⟩
theorem co_ok {H : Hp} {p : Addr} {xs : List Int} {Q : VK} (hp : PolyAt C H p xs) (q : ∀ t, TupI H t xs → Q (.ref t) H) : ∃ a dx fs, V.ref p = V.ref a ∧ H a = some (.ins C dx fs) ∧ spCo C [.ref a] H Q E0 := by
  obtain ⟨dx, t, h1, _⟩ := id hp
  unfold spCo
  exact ⟨p, dx, _, rfl, h1, p, xs, rfl, hp, q⟩
theorem of_ok {H : Hp} {a : Addr} {cs : List Int} {Q : VK} (ha : TupI H a cs) (hn : NN cs) (hl : cs.length ≤ 1000) (q : ∀ H' x, Same H H' → PolyAt C H' x (trim cs) → Q (.ref x) H') : spOf C [.ref C, .ref a] H Q E0 := by
  unfold spOf
  exact ⟨a, cs, rfl, ha, hn, hl, q⟩
structure Th (C : Addr) (H0 : Hp) (d l p1 p2 p3 : Addr) (as bs cs : List Int) (H : Hp) : Prop where
  hn : l ≠ d
  sb : SB d H0 H
  hd : DiceAt H d
  hl : H l = some (.lst [.ref p1, .ref p2, .ref p3])
  ha : PolyAt C H p1 as
  hb : PolyAt C H p2 bs
  hc : PolyAt C H p3 cs
  ca : Can as
  cb : Can bs
  cc : Can cs
  fa : Fit as 3 69
  fb : Fit bs 3 69
  fc : Fit cs 3 69
theorem Th.on {H0 H H' : Hp} {d l p1 p2 p3 : Addr} {as bs cs : List Int} (t : Th C H0 d l p1 p2 p3 as bs cs H) (s : SB d H H') (hd : DiceAt H' d) : Th C H0 d l p1 p2 p3 as bs cs H' :=
  ⟨t.hn, t.sb.trans s, hd, s _ _ t.hn t.hl, t.ha.sb t.hd s, t.hb.sb t.hd s, t.hc.sb t.hd s, t.ca, t.cb, t.cc, t.fa, t.fb, t.fc⟩
theorem Th.same {H0 H H' : Hp} {d l p1 p2 p3 : Addr} {as bs cs : List Int} (t : Th C H0 d l p1 p2 p3 as bs cs H) (s : Same H H') : Th C H0 d l p1 p2 p3 as bs cs H' := t.on (Same.sb s) (t.hd.same s)
theorem deg_law {as bs : List Int} (ca : Can as) (cb : Can bs) (h : as.length ≤ 1) : ((pmul as bs).length : Int) - 1 = if (as.length : Int) - 1 < 0 then -1 else (bs.length : Int) - 1 := by
  match as, h with
  | [], _ =>
    rw [pmul_nil, if_pos (by decide)]; rfl
  | [c], _ =>
    rw [pmul_const (can_const ca) cb]
    exact (if_neg (show ¬ ((1 : Int) - 1 < 0) by decide)).symm
theorem ok_right {f : Addr} {fd : FuncData} (F : Fun K "_law_right" "_law_right" sRight f fd) (B : Blt mg) (L : Pol P w K mg base C) (cc : Cal P w K mg base 3 "_law_coefficients" spCoefs) (cw : Cal P w K mg base 9 "_law_built_ways" (spWays C)) (cd : Cal P w K mg base 1 "_law_digits" spDig) (cv : Cal P w K mg base 8 "_law_values_right" (spVals C)) (co : Cal P w K mg base 2 "_law_one_of" spOne) : FnOk P w K mg base CX0 10 f fd ["_law_dice_here"] spRight := by
  obtain ⟨g, hC, hFC⟩ := L.call
  obtain ⟨po, go, hRd, hOf, hFOf⟩ := L.of_
  obtain ⟨fe, hFE, he1, he2⟩ := L.eq.ex
  obtain ⟨fr, hR, hFR⟩ := L.reach
  obtain ⟨pd, gd, fdd, hPD, hFD, hBD⟩ := L.deg
  obtain ⟨pc, gc, fdc, hPC, hFCo, hBC⟩ := L.co
  refine F.ok scRight (fun vs H Q E h => ?_) (fun cdv A outer s H vs Q E hr h => ?_)
  · obtain ⟨d, rfl, _⟩ := h
    rfl
  · obtain ⟨d, rfl, hd, q⟩ := h
    have hr7 := Room.mono hr (by decide : 7 ≤ 9)
    have hr6 := Room.mono hr (by decide : 6 ≤ 9)
    have hr4 := Room.mono hr (by decide : 4 ≤ 9)
    have hr2 := Room.mono hr (by decide : 2 ≤ 9)
    have hr1 := Room.mono hr (by decide : 1 ≤ 9)
    refine ⟨_, C8.pss_cut (ps_set (i := 1) scRight.nd rfl (.inl rfl) (pe_lst pa_nil))
      (C8.pss_cut (ps_for PySem.PassesOwn.never rfl (pi_range1 (by rfl) B.range (pa_cons pe_int pa_nil)) (pg_name (i := 2) scRight.nd rfl (.inl rfl))
        (pss_one (ps_expr (pe_bm PySem.F.plainAttrs_list PySem.F.slot_list_append PySem.F.type_list_append mt_append (pv 1) (pa_cons (ClX.pe_cmeth (pe_glob (v := .ref C) (by rfl) L.T.mgC rfl) hRd hOf hFOf hr6 pass0 (pa_cons (pe_slice sl_tupA (pe_c cc hr (by decide) (by rfl) (pa_cons (pv 0) pa_nil)) po_none (po_some pe_int)) pa_nil)) pa_nil)))))
      (C8.pss_cut (ps_set (i := 3) scRight.nd rfl (.inl rfl) (pe_op op_powW (pe_op op_pow pe_int pe_int) pe_int))
      (C8.pss_cut (ps_for PySem.PassesOwn.never rfl (pi_list (pe_c cw hr (by decide) (by rfl) (pa_cons (pv 0) (pa_cons (pe_ix ix_list (pv 1) pe_int (fun _ _ => rfl)) (pa_cons (pe_ix ix_list (pv 1) pe_int (fun _ _ => rfl)) (pa_cons (pe_ix ix_list (pv 1) pe_int (fun _ _ => rfl)) pa_nil))))))
          (pg_tup rfl (pgs_cons (pg_name (i := 4) scRight.nd rfl (.inl rfl)) (pgs_cons (pg_name (i := 5) scRight.nd rfl (.inl rfl)) pgs_nil)))
        (pss_one (ps_if (PW.pt (pw_or (pt_cmpR (op_neI hFE hr2 pass0 L.T.cm L.T.ne he1 he2) (pv 4) (pv 5) (nomark _))
            (pw_or (pt_cmpR op_ne (StX.pe_callO (pv 4) hC hFC hr4 pass0 (pa_cons (pv 3) pa_nil)) (StX.pe_callO (pv 5) hC hFC hr4 pass0 (pa_cons (pv 3) pa_nil)) (nomark _))
            (pw_or1 (pt_cmpR (op_neD hr.units) (pe_c cd hr (by decide) (by rfl) (pa_cons (StX.pe_callO (pv 4) hC hFC hr4 pass0 (pa_cons (pv 3) pa_nil)) (pa_cons (pv 3) pa_nil))) (pe_prop (pv 4) L.T.cl hPC hFCo hr2 hBC .nil pass0 (by rfl)) (nomark _))))))
          (pss_one (ps_ret pe_bl)) pss_nil)))
      (C8.pss_cut (ps_par (i := 6) (j := 7) (by rfl) scRight.nd rfl rfl (by decide) rfl rfl (pa_cons (pe_ix ix_list (pv 1) pe_int (fun _ _ => rfl)) (pa_cons (pe_ix ix_list (pv 1) pe_int (fun _ _ => rfl)) pa_nil)) (by rfl))
      (C8.pss_cut (ps_if (PW.pt (pw_or (pt_cmpR op_ne (pe_cmpR (op_eqI hFE hr1 pass0 he1 he2) (pv 6) (pv 7) (nomark _)) (pe_cmpR op_eq (StX.pe_callO (pv 6) hC hFC hr4 pass0 (pa_cons (pv 3) pa_nil)) (StX.pe_callO (pv 7) hC hFC hr4 pass0 (pa_cons (pv 3) pa_nil)) (nomark _)) (nomark _))
            (pw_or1 (pt_not (pt_val (pe_c cv hr (by decide) (by rfl) (pa_cons (pv 0) (pa_cons (pv 6) (pa_cons (pv 7) pa_nil)))))))))
          (pss_one (ps_ret pe_bl)) pss_nil)
      (C8.pss_cut (ps_if (pt_cmpR op_gt (pe_prop (pv 6) L.T.cl hPD hFD hr2 hBD .nil pass0 (by rfl)) pe_int (nomark _))
          (pss_cons (ps_set (i := 8) scRight.nd rfl (.inl rfl) (pe_c co hr (by decide) (by rfl) (pa_cons (pv 0) (pa_cons (pe_lst (pa_cons pe_int (pa_cons pe_int (pa_cons pe_int (pa_cons (pe_op op_pow pe_int pe_int) pa_nil))))) pa_nil))))
          (pss_one (ps_ret (pe_cmpR op_eq (pe_methR (pv 6) L.T.cl hR hFR hr4 pass0 (pa_cons (StX.pe_callO (pv 6) hC hFC hr4 pass0 (pa_cons (pv 8) pa_nil)) pa_nil)) (pv 8) (nomark _))))) pss_nil)
      (pss_one (ps_ret (pe_cmpR op_eq (pe_prop (pe_op (omR L hr7) (pv 6) (pv 7)) L.T.cl hPD hFD hr2 hBD .nil pass0 (by rfl))
        (pe_ifExp (pt_cmpR op_lt (pe_prop (pv 6) L.T.cl hPD hFD hr2 hBD .nil pass0 (by rfl)) pe_int (nomark _)) (pe_un un_neg pe_int) (pe_prop (pv 7) L.T.cl hPD hFD hr2 hBD .nil pass0 (by rfl))) (nomark _)))))))))), ?_⟩
    refine ⟨fun σ H1 => ∃ l, σ = [some (.ref d), some (.ref l), none, none, none, none, none, none, none] ∧ l ≠ d ∧ H l = none ∧ SB d H H1 ∧ DiceAt H1 d ∧ H1 l = some (.lst []), ?_, ?_⟩
    · refine ⟨Nat.zero_le _, fun l nl => ⟨l, rfl, hd.free nl, nl, Same.sb (same_upd (Same.refl _) nl), hd.same (same_upd (Same.refl _) nl), upd_same⟩⟩
    rintro σ Ha ⟨l, rfl, hn, nl, sb0, hd0, hl0⟩
    refine ⟨fun σ H1 => ∃ v p1 p2 p3 as bs cs, σ = [some (.ref d), some (.ref l), v, none, none, none, none, none, none] ∧ Th C H d l p1 p2 p3 as bs cs H1, ?_, ?_⟩
    · refine ⟨3, rfl, by decide, by decide, ?_⟩
      refine for_range (fun i σ H1 => ∃ v ys, σ = [some (.ref d), some (.ref l), v, none, none, none, none, none, none] ∧ SB d H H1 ∧ DiceAt H1 d ∧ H1 l = some (.lst ys) ∧ ys.length = i ∧ ∀ y ∈ ys, Drawn C H1 y) ⟨none, [], rfl, sb0, hd0, hl0, rfl, fun y hy => nomatch hy⟩ ?_ ?_
      · rintro i σ H1 hi ⟨v, ys, rfl, sb, hd', hl', hz, hg⟩
        refine ⟨_, rfl, .inl ⟨rfl, _, SqL.of hl'⟩, rfl, _, rfl, d, rfl, hd', fun H2 tt cs sb2 hd2 ht hlen hdg => ?_⟩
        have hNN : NN (cs.take 3) := fun c hc => (hdg c (List.mem_of_mem_take hc)).1
        have fin : ∀ H3 p, Same H2 H3 → TupI H3 p (cs.take 3) → spOf C [.ref C, .ref p] H3 (fun x H4 => tNil [some (.ref d), some (.ref l), some (V.int (0 + (i : Int))), none, none, none, none, none, none] H4 fun xs H5 => rAppend (.ref l) (x :: xs) H5 fun _ H6 => ∃ v ys, [some (.ref d), some (.ref l), some (V.int (0 + (i : Int))), none, none, none, none, none, none] = [some (.ref d), some (.ref l), v, none, none, none, none, none, none] ∧ SB d H H6 ∧ DiceAt H6 d ∧ H6 l = some (.lst ys) ∧ ys.length = i + 1 ∧ ∀ y ∈ ys, Drawn C H6 y) E0 := by
          intro H3 p s3 hp
          refine of_ok hp hNN (by rw [List.length_take]; omega) fun H4 x s4 hx => ?_
          have sb4 : SB d H1 H4 := sb2.trans (Same.sb (s3.trans s4))
          have hd4 := (hd2.same s3).same s4
          have hl4 := sb4 _ _ hn hl'
          have hx2 : Drawn C H4 (.ref x) := ⟨x, _, rfl, hx, can_trim hNN, fit_take hdg⟩
          refine ⟨l, ys, _, rfl, rfl, hl4, by rw [hz]; exact short (Nat.le_of_lt hi) (by decide), _, ys ++ [.ref x], rfl, sb_at (sb.trans sb4) nl, ?_, upd_same, by rw [List.length_append, hz]; rfl, fun y hy => ?_⟩
          · obtain ⟨g, m, c, e⟩ := hd4
            exact ⟨g, m, c, by rw [upd_ne hn.symm]; exact e⟩
          · rcases List.mem_append.mp hy with h | h
            · exact ((hg y h).sb hd' sb4).lst hl4
            · rw [List.mem_singleton.mp h]; exact hx2.lst hl4
        refine ⟨3, rfl, tt, _, rfl, ht.sq, fun hw => ?_, fun _ p np => ?_⟩
        · refine fin H2 tt (Same.refl _) ?_
          have e : cs.take 3 = cs := by
            have := hw.2
            rw [show (some (3 : Int)) = some ((3 : Nat) : Int) from rfl, HT.sIx_nat, List.length_map] at this
            exact List.take_of_length_le (by omega)
          rw [e]; exact ht
        · rw [cut_take2]
          exact fin _ p (same_upd (Same.refl _) np) tupI_new
      · rintro σ H1 ⟨v, ys, rfl, sb, hd', hl', hz, hg⟩
        match ys, hz, hg, hl' with
        | [y1, y2, y3], _, hg, hl' =>
          obtain ⟨p1, as, rfl, h1, c1, f1⟩ := hg y1 (by simp)
          obtain ⟨p2, bs, rfl, h2, c2, f2⟩ := hg y2 (by simp)
          obtain ⟨p3, cs, rfl, h3, c3, f3⟩ := hg y3 (by simp)
          exact ⟨v, p1, p2, p3, as, bs, cs, rfl, hn, sb, hd', hl', h1, h2, h3, c1, c2, c3, f1, f2, f3⟩
    rintro σ Hb ⟨v, p1, p2, p3, as, bs, cs, rfl, t⟩
    refine ⟨fun σ H1 => σ = [some (.ref d), some (.ref l), v, some (.int gB), none, none, none, none, none] ∧ Th C H d l p1 p2 p3 as bs cs H1, ?_, ?_⟩
    · exact ⟨_, _, rfl, rfl, by show (0 : Int) ≤ 60 ∧ (60 : Int) ≤ 1000000 ∧ (10 : Int).natAbs < 2 ^ 64; decide, _, _, rfl, rfl, ⟨by decide, by decide, log60⟩, congrArg (fun z : Int => [some (V.ref d), some (V.ref l), v, some (V.int z), none, none, none, none, none]) gB_eq, t⟩
    clear t
    rintro σ Hb ⟨rfl, t⟩
    refine ⟨fun σ H1 => ∃ v4 v5, σ = [some (.ref d), some (.ref l), v, some (.int gB), v4, v5, none, none, none] ∧ Th C H d l p1 p2 p3 as bs cs H1, ?_, ?_⟩
    · refine ⟨_, rfl, _, rfl, l, _, _, _, rfl, rfl, SqL.of t.hl, rfl, _, rfl, l, _, _, _, rfl, rfl, SqL.of t.hl, rfl, _, rfl, l, _, _, _, rfl, rfl, SqL.of t.hl, rfl, ?_⟩
      refine ⟨d, p1, p2, p3, as, bs, cs, rfl, t.hd, t.ha, t.hb, t.hc, t.ca, t.cb, t.cc, t.fa, t.fb, t.fc, fun Hw Lw ys sbw hdw hLw hpr => ?_⟩
      have tw := t.on sbw hdw
      refine ⟨Lw, rfl, ⟨_, SqL.of hLw⟩, ?_⟩
      refine for_list (xs := ys) (fun i σ H' => ∃ v4 v5, σ = [some (.ref d), some (.ref l), v, some (.int gB), v4, v5, none, none, none] ∧ Same Hw H') ⟨_, _, rfl, Same.refl _⟩ (fun i σ H' _ ⟨_, _, _, s3⟩ => SqL.of (s3 _ _ hLw)) ?_ ?_
      · rintro i y σ H' hy ⟨v4, v5, rfl, s3⟩
        obtain ⟨tt, p, r, es, rfl, htt, hp, hr', hCan, hFit⟩ := (hpr y (List.mem_of_getElem? hy)).same s3
        have b0 := Int.le_of_lt base_pos
        have b1 := Int.le_of_lt base_lt
        refine ⟨tt, _, rfl, SqT.of htt, rfl, _, _, rfl, _, _, rfl, rfl, ?_⟩
        refine ⟨_, rfl, _, rfl, eq_ok hp hr' ?_⟩
        refine ⟨_, rfl, _, rfl, ?_⟩
        rw [decide_eq_true rfl]
        refine iteF ⟨_, rfl, p, rfl, _, rfl, call_ok hp hFit b0 b1 (by decide) fun H3 s4 => ⟨_, rfl, r, rfl, _, rfl, call_ok (hr'.same s4) hFit b0 b1 (by decide) fun H4 s5 => ⟨rfl, _, rfl, ?_⟩⟩⟩
        rw [decide_eq_true rfl]
        refine iteF ⟨_, rfl, p, rfl, _, rfl, call_ok (hp.same (by repeat (first | exact Same.refl _ | assumption | refine same_upd ?_ (by assumption) | refine Same.trans ?_ (by assumption)))) hFit b0 b1 (by decide) fun H5 s6 => ⟨_, rfl, ?_⟩⟩
        refine ⟨es, gB, 3000, rfl, hCan, fun c hc => Int.lt_of_lt_of_le (hFit.mem c hc).2 base_gt, base_pos, base_lt, by decide, by decide, Nat.le_trans hFit.len (by decide), fun H6 u s7 hu => ?_⟩
        refine ⟨_, rfl, co_ok (hp.same (by repeat (first | exact Same.refl _ | assumption | refine same_upd ?_ (by assumption) | refine Same.trans ?_ (by assumption)))) fun u2 hu2 => ⟨_, _, dp_tup hu, dp_tup hu2, shaped_tup _, shaped_tup _, _, rfl, ?_⟩⟩
        rw [eqv_tup, decide_eq_true rfl]
        exact iteF ⟨_, _, rfl, by repeat (first | exact Same.refl _ | assumption | refine same_upd ?_ (by assumption) | refine Same.trans ?_ (by assumption))⟩
      · rintro σ H' ⟨v4, v5, rfl, s3⟩
        exact ⟨v4, v5, rfl, tw.same s3⟩
    clear t
    rintro σ Hb ⟨v4, v5, rfl, t⟩
    refine ⟨fun σ H1 => σ = [some (.ref d), some (.ref l), v, some (.int gB), v4, v5, some (.ref p1), some (.ref p2), none] ∧ Th C H d l p1 p2 p3 as bs cs H1, ?_, ?_⟩
    · exact ⟨_, rfl, l, _, _, _, rfl, rfl, SqL.of t.hl, rfl, _, rfl, l, _, _, _, rfl, rfl, SqL.of t.hl, rfl, _, _, rfl, rfl, t⟩
    clear t
    rintro σ Hb ⟨rfl, t⟩
    refine ⟨fun σ H1 => σ = [some (.ref d), some (.ref l), v, some (.int gB), v4, v5, some (.ref p1), some (.ref p2), none] ∧ Th C H d l p1 p2 p3 as bs cs H1, ?_, ?_⟩
    · have b0 := Int.le_of_lt base_pos
      have b1 := Int.le_of_lt base_lt
      have ha0 := t.ha
      have hb0 := t.hb
      have eA : decide (as = bs) = decide (V.int (ev as gB) = V.int (ev bs gB)) := decide_eq_decide.mpr ⟨fun e => by rw [e], fun e => base_inj base_pos t.ca t.cb (fun c hc => Int.lt_of_lt_of_le (t.fa.mem c hc).2 (Int.le_trans (two_le (by decide)) base_gt)) (fun c hc => Int.lt_of_lt_of_le (t.fb.mem c hc).2 (Int.le_trans (two_le (by decide)) base_gt)) (V.int.inj e)⟩
      refine ⟨_, rfl, _, rfl, eq_ok ha0 hb0 ?_⟩
      refine ⟨_, rfl, p1, rfl, _, rfl, call_ok ha0 t.fa b0 b1 (by decide) fun H3 s3 => ⟨_, rfl, p2, rfl, _, rfl, call_ok (hb0.same s3) t.fb b0 b1 (by decide) fun H4 s4 => ⟨rfl, rfl, _, rfl, ?_⟩⟩⟩
      rw [eA, decide_eq_true rfl]
      have t4 := t.same (s3.trans s4)
      refine iteF ⟨_, rfl, _, rfl, _, rfl, d, p1, p2, as, bs, rfl, t4.hd, t4.ha, t4.hb, t.fa, t.fb, fun H5 sb5 hd5 => ⟨_, rfl, iteF ⟨rfl, t4.on sb5 hd5⟩⟩⟩
    clear t
    rintro σ Hb ⟨rfl, t⟩
    refine ⟨fun σ H1 => σ = [some (.ref d), some (.ref l), v, some (.int gB), v4, v5, some (.ref p1), some (.ref p2), none] ∧ Th C H d l p1 p2 p3 as bs cs H1 ∧ as.length ≤ 1, ?_, ?_⟩
    · have ha0 := t.ha
      refine ⟨_, rfl, deg_ok ha0 ⟨_, _, rfl, rfl, _, rfl, ?_⟩⟩
      by_cases h2 : 2 ≤ as.length
      · rw [decide_eq_true (by omega)]
        have hmr : (("reach" : Str) == fC) = false := by decide +kernel
        have e15 : (10 : Int) ^ (15 : Int).toNat = 1000000000000000 := by decide +kernel
        refine iteT ⟨_, rfl, _, _, rfl, rfl, by show (0 : Int) ≤ 15 ∧ (15 : Int) ≤ 1000000 ∧ (10 : Int).natAbs < 2 ^ 64; decide, by show 4 ≤ sizeLine; decide, fun l2 nl2 => ?_⟩
        have s2 : Same Hb (upd Hb l2 (.lst [.int 0, .int 1, .int 5, .int (10 ^ (15 : Int).toNat)])) := same_upd (Same.refl _) nl2
        have t2 := t.same s2
        refine ⟨d, l2, _, rfl, t2.hd, upd_same, t.hd.free nl2, List.cons_ne_nil _ _, by show 4 ≤ 1000; decide, fun H3 x hx sb3 hd3 => ?_⟩
        have t3 := t2.on sb3 hd3
        obtain ⟨m, em, m0, m1⟩ : ∃ m : Int, x = .int m ∧ 0 ≤ m ∧ m ≤ 1152921504606846976 := by
          simp only [List.mem_cons, List.not_mem_nil, or_false] at hx
          rcases hx with e | e | e | e
          · exact ⟨0, e, by decide, by decide⟩
          · exact ⟨1, e, by decide, by decide⟩
          · exact ⟨5, e, by decide, by decide⟩
          · exact ⟨_, e, by rw [e15]; decide, by rw [e15]; decide⟩
        subst em
        have e60 : (2 : Int) ^ 60 = 1152921504606846976 := by decide
        refine ⟨_, rfl, mth hmr t3.ha ⟨_, rfl, p1, rfl, _, rfl, call_ok t3.ha t3.fa m0 (b := 60) (by rw [e60]; exact m1) (by decide) fun H4 s4 => ?_⟩⟩
        have t4 := t3.same s4
        refine ⟨p1, as, m, 3, 69, rfl, t4.ha, t4.ca, h2, t4.fa, m0, m1, by decide, fun H5 s5 => ⟨_, rfl, rfl, ?_⟩⟩
        have t5 := t4.same s5
        exact fin_true (Q := Q) (q H5 t5.sb t5.hd) (decide_eq_true rfl)
      · rw [decide_eq_false (by omega)]
        exact iteF ⟨rfl, t, by omega⟩
    clear t
    rintro σ Hb ⟨rfl, t, hle⟩
    have ha0 := t.ha
    have hb0 := t.hb
    refine ⟨_, rfl, _, rfl, mul_ok (Opr.pp ha0 hb0) t.fa t.fb (by decide) fun H1 z s1 h1 f1 => deg_ok h1 ?_⟩
    have t1 := t.same s1
    have ha1 := t1.ha
    have hb1 := t1.hb
    have dl := deg_law t.ca t.cb hle
    refine ⟨_, rfl, deg_ok ha1 ⟨_, _, rfl, rfl, _, rfl, ?_⟩⟩
    by_cases hz : (as.length : Int) - 1 < 0
    · rw [if_pos hz] at dl
      rw [decide_eq_true hz]
      refine iteT ⟨1, rfl, rfl, ?_⟩
      exact fin_true (Q := Q) (q H1 t1.sb t1.hd) (decide_eq_true (congrArg V.int dl))
    · rw [if_neg hz] at dl
      rw [decide_eq_false hz]
      refine iteF ⟨_, rfl, deg_ok hb1 ⟨rfl, ?_⟩⟩
      exact fin_true (Q := Q) (q H1 t1.sb t1.hd) (decide_eq_true (congrArg V.int dl))
end
end Lg

namespace Lg
open PySem L2 Lo
theorem SqL.on {K : PySem.W.Frag} {H H' : Hp} {a d : Addr} {xs : List V} (h : SqL K H a xs) (n : H d = none) (s : SB d H H') : SqL K H' a xs := by
  rcases h with h | h
  · rcases h with h | ⟨o, h⟩
    · exact .inl (.inl (s _ _ (ne_of_none h n) h))
    · exact .inl (.inr ⟨o, s _ _ (ne_of_none h n) h⟩)
  · exact .inr h
section
variable {P : Program} {w : World} {K : PySem.W.Frag} {mg : Str → Option Value} {base : Heap} {C : Addr}
/-! ### law -/
abbrev nLaw : List Str := ["_law_script", "_law_at", "_law_dice_here", "_law_turn", "_law_one"]
def spLaw (K : PySem.W.Frag) : Sp := fun vs H Q _ => ∃ (a : Addr) (ns : List Int), vs = [.ref a] ∧ SqL K H a (ivs ns) ∧ ns.length ≤ 63 ∧ ∀ H', Q (.bl true) H'
theorem scLaw : FnScope nLaw ["_law_script"] (defScope sLaw) := ⟨rfl, rfl, rfl, by decide +kernel, rfl, by decide +kernel, by decide +kernel⟩
theorem str2n : termsT [0, 15, 10] ≠ [] := by decide +kernel
theorem str_ok {H : Hp} {p : Addr} {cs : List Int} {Q : VK} (hp : PolyAt C H p cs) (hb : ∀ c ∈ cs, 0 ≤ c ∧ c ≤ 20) (hl : cs.length ≤ 20) (hn : termsT cs ≠ []) (q : ∀ H', Same H H' → Q (.str (strT cs)) H') :
    ∃ a dx fs, [V.ref p] = [V.ref a] ∧ H a = some (.ins C dx fs) ∧ spStr C [.ref a] H Q E0 := by
  obtain ⟨dx, t, h1, _⟩ := id hp
  unfold spStr
  exact ⟨p, dx, _, rfl, h1, p, cs, rfl, hp, hb, hl, hn, q⟩
/-- Polynomial(i, j), as a word of its own -/
@[irreducible] def tMk2 (C : Addr) (i j : Int) : TE := StX.tMakeR C (spInit C) E0 (tCons (tC (.int i)) (tCons (tC (.int j)) tNil))
theorem pe_mk2 {X : Cx} {e : Expr} {i j : Int} (h : PE X e (StX.tMakeR C (spInit C) E0 (tCons (tC (.int i)) (tCons (tC (.int j)) tNil)))) : PE X e (tMk2 C i j) := by
  unfold tMk2
  exact h
theorem mk2 {σ : L2.St} {H : Hp} {Q : VK} {i j : Int} (n : NN [i, j]) (q : ∀ H' x, Same H H' → PolyAt C H' x (trim [i, j]) → Q (.ref x) H') : tMk2 C i j σ H Q := by
  unfold tMk2
  exact new_poly (cs := [i, j]) n (by show 2 ≤ 1000; decide) q
theorem ok_law {f : Addr} {fd : FuncData} (F : Fun K "law" "law" sLaw f fd) (B : Blt mg) (L : Pol P w K mg base C) (cd : Cal P w K mg base 1 "_law_dice" (spDice K)) (cr : Cal P w K mg base 10 "_law_right" spRight) : FnOk P w K mg base CX0 11 f fd ["_law_script"] (spLaw K) := by
  obtain ⟨g, hC, hFC⟩ := L.call
  obtain ⟨fi, hM, hI⟩ := L.init
  obtain ⟨fe, hFE, he1, he2⟩ := L.eq.ex
  obtain ⟨fs, hFS, hs1, hs2⟩ := L.str.ex
  obtain ⟨fa, hA, hFA⟩ := L.at_
  refine F.ok scLaw (fun vs H Q E h => ?_) (fun cdv A outer s H vs Q E hr h => ?_)
  · obtain ⟨a, ns, rfl, _⟩ := h
    rfl
  · obtain ⟨a, ns, rfl, hS, hl, q⟩ := h
    have hr7 := Room.mono hr (by decide : 7 ≤ 10)
    have hr5 := Room.mono hr (by decide : 5 ≤ 10)
    have hr4 := Room.mono hr (by decide : 4 ≤ 10)
    have hr1 := Room.mono hr (by decide : 1 ≤ 10)
    refine ⟨_, C8.pss_cut (ps_for PySem.PassesOwn.never rfl (pi_range1 (by rfl) B.range (pa_cons (pe_callB (call_max2 rfl) (by rfl) B.max boot_max' (pa_cons pe_int (pa_cons (pe_callB (call_min2 rfl) (by rfl) B.min boot_min' (pa_cons pe_int (pa_cons (pe_callB call_len_seq (by rfl) B.len boot_len' (pa_cons (pv 0) pa_nil)) pa_nil))) pa_nil))) pa_nil)) (pg_name (i := 1) scLaw.nd rfl (.inl rfl))
        (pss_cons (ps_set (i := 2) scLaw.nd rfl (.inl rfl) (pe_c cd hr (by decide) (by rfl) (pa_cons (pv 0) (pa_cons (pv 1) pa_nil))))
        (pss_one (ps_for PySem.PassesOwn.never rfl (pi_range1 (by rfl) B.range (pa_cons pe_int pa_nil)) (pg_name (i := 3) scLaw.nd rfl (.inl rfl))
          (pss_one (ps_if (pt_not (pt_val (pe_c cr hr (by decide) (by rfl) (pa_cons (pv 2) pa_nil)))) (pss_one (ps_ret pe_bl)) pss_nil))))))
      (C8.pss_cut (ps_set (i := 4) scLaw.nd rfl (.inl rfl) (pe_op (oaR L hr7) (pe_mk2 (StX.pe_makeR hM hI hr5 (by rfl) L.T.mgC pass0 (pa_cons pe_int (pa_cons pe_int pa_nil)))) pe_int))
      (C8.pss_cut (ps_if (PW.pt (pw_or (pt_cmpR op_ne (pe_callTy (call_strI hFS hr5 pass0 hs1 hs2) (by rfl) B.str boot_str' (pa_cons (pe_op (opR L hr7) (pv 4) pe_int) pa_nil)) pe_str (nomark _))
          (pw_or1 (pt_cmpR op_ne (pe_callTy (call_strI hFS hr5 pass0 hs1 hs2) (by rfl) B.str boot_str' (pa_cons (pe_op (omR L hr7) (pe_methR (pv 4) L.T.cl hA hFA hr7 pass0 (pa_cons (pe_op (omR L hr7) (pv 4) pe_int) pa_nil)) (pe_mk2 (StX.pe_makeR hM hI hr5 (by rfl) L.T.mgC pass0 (pa_cons pe_int (pa_cons pe_int pa_nil))))) pa_nil)) pe_str (nomark _)))))
        (pss_one (ps_ret pe_bl)) pss_nil)
      (pss_one (ps_ret (pe_and (pe_cmpR op_eq (StX.pe_callO (pe_op (omR L hr7) (pv 4) (pv 4)) hC hFC hr4 pass0 (pa_cons pe_int pa_nil)) pe_int (nomark _))
        (pe_one (pe_cmpR (op_eqI hFE hr1 pass0 he1 he2) (pe_op (opR L hr7) (pv 4) pe_int) (pe_op (omR L hr7) (pv 4) (pe_op (oaR L hr7) pe_int (pe_mk2 (StX.pe_makeR hM hI hr5 (by rfl) L.T.mgC pass0 (pa_cons pe_int (pa_cons pe_int pa_nil)))))) (nomark _)))))))), ?_⟩
    refine ⟨fun σ H1 => ∃ v1 v2 v3, σ = [some (.ref a), v1, v2, v3, none], ?_, ?_⟩
    · refine ⟨_, rfl, a, _, rfl, .inl hS, _, _, rfl, _, _, rfl, ?_⟩
      generalize hz : (if (if (((ivs ns).length : Nat) : Int) < 5 then (((ivs ns).length : Nat) : Int) else 5) > 1 then (if (((ivs ns).length : Nat) : Int) < 5 then (((ivs ns).length : Nat) : Int) else 5) else 1) = z
      have z5 : z ≤ 5 ∧ 1 ≤ z := by
        rw [← hz]
        repeat' split
        all_goals omega
      refine ⟨z, rfl, by omega, by omega, ?_⟩
      refine for_range (fun i σ H1 => ∃ v1 v2 v3, σ = [some (.ref a), v1, v2, v3, none] ∧ SqL K H1 a (ivs ns)) ⟨_, _, _, rfl, hS⟩ ?_ ?_
      · rintro i σ H1 hi ⟨v1, v2, v3, rfl, hS1⟩
        have e0 : (0 : Int) + (i : Int) = (i : Int) := Int.zero_add _
        refine ⟨_, rfl, _, rfl, a, ns, i, by rw [e0], hS1, hl, by omega, fun H2 d s2 nd hd => ?_⟩
        refine ⟨3, rfl, by decide, by decide, ?_⟩
        refine for_range (fun j σ H3 => ∃ v3, σ = [some (.ref a), some (.int ((0 : Int) + (i : Int))), some (.ref d), v3, none] ∧ SB d H1 H3 ∧ DiceAt H3 d) ⟨v3, rfl, Same.sb s2, hd⟩ ?_ ?_
        · rintro j σ H3 hj ⟨v3, rfl, sb3, hd3⟩
          exact ⟨_, rfl, d, rfl, hd3, fun H4 sb4 hd4 => ⟨_, rfl, iteF ⟨_, rfl, sb3.trans sb4, hd4⟩⟩⟩
        · rintro σ H3 ⟨v3, rfl, sb3, hd3⟩
          exact ⟨_, _, _, rfl, SqL.on hS1 nd sb3⟩
      · rintro σ H1 ⟨v1, v2, v3, rfl, _⟩
        exact ⟨v1, v2, v3, rfl⟩
    rintro σ H1 ⟨v1, v2, v3, rfl⟩
    have n01 : NN [0, 1] := by unfold NN; decide
    have n05 : NN [0, 5] := by unfold NN; decide
    have t01 : trim [0, 1] = [0, 1] := by decide +kernel
    have t05 : trim [0, 5] = [0, 5] := by decide +kernel
    have f01 : Fit [0, 1] 2 1 := ⟨n01, by decide, by decide⟩
    have f05 : Fit [0, 5] 2 3 := ⟨n05, by decide, by decide⟩
    have k1 : Fit [1] 1 2 := fit_one (by decide) (by decide)
    have k2 : Fit [2] 1 2 := fit_one (by decide) (by decide)
    refine ⟨fun σ H2 => ∃ x, σ = [some (.ref a), v1, v2, v3, some (.ref x)] ∧ PolyAt C H2 x [1, 1], ?_, ?_⟩
    · refine mk2 n01 fun H2 x s2 h2 => ?_
      rw [t01] at h2
      refine add_ok (Opr.pi h2 (by decide)) f01 k1 (by decide) fun H3 z s3 h3 f3 => ⟨z, rfl, ?_⟩
      rw [show padd [0, 1] [1] = [1, 1] by decide +kernel] at h3
      exact h3
    rintro σ H2 ⟨x, rfl, hx⟩
    have f11 : Fit [1, 1] 2 2 := ⟨by unfold NN; decide, by decide, by decide⟩
    have hm : (("at" : Str) == fC) = false := by decide +kernel
    refine ⟨fun σ H3 => σ = [some (.ref a), v1, v2, v3, some (.ref x)] ∧ PolyAt C H3 x [1, 1], ?_, ?_⟩
    · refine ⟨_, rfl, pow_ok (m := 3) hx f11 (by decide) fun H3 z3 s3 h3 f3 => ?_⟩
      rw [show ppow [1, 1] 3 = [1, 3, 3, 1] by decide +kernel] at h3
      refine str_ok h3 (by decide) (by decide) str1n fun H4 s4 => ⟨_, rfl, rfl, _, rfl, ?_⟩
      rw [str1, decide_eq_true rfl]
      refine iteF ⟨_, rfl, mth hm (hx.same (by repeat (first | exact Same.refl _ | assumption | refine same_upd ?_ (by assumption) | refine Same.trans ?_ (by assumption)))) ⟨_, rfl, mul_ok (Opr.pi (hx.same (by repeat (first | exact Same.refl _ | assumption | refine same_upd ?_ (by assumption) | refine Same.trans ?_ (by assumption)))) (by decide)) f11 k2 (by decide) fun H5 z5 s5 h5 f5 => at_ok (hx.same (by repeat (first | exact Same.refl _ | assumption | refine same_upd ?_ (by assumption) | refine Same.trans ?_ (by assumption)))) h5 f11 f5 (by decide) fun H6 z6 s6 h6 f6 => ?_⟩⟩
      refine mk2 n05 fun H7 z7 s7 h7 => ?_
      rw [t05] at h7
      refine mul_ok (Opr.pp (h6.same s7) h7) f6 f05 (by decide) fun H8 z8 s8 h8 f8 => ?_
      rw [show pmul (pat [1, 1] (pmul [1, 1] [2])) [0, 5] = [0, 15, 10] by decide +kernel] at h8
      refine str_ok h8 (by decide) (by decide) str2n fun H9 s9 => ⟨_, rfl, rfl, _, rfl, ?_⟩
      rw [str2, decide_eq_true rfl]
      exact iteF ⟨rfl, hx.same (by repeat (first | exact Same.refl _ | assumption | refine same_upd ?_ (by assumption) | refine Same.trans ?_ (by assumption)))⟩
    clear hx
    rintro σ H3 ⟨rfl, hx⟩
    refine ⟨_, rfl, _, rfl, mul_ok (Opr.pp hx hx) f11 f11 (by decide) fun H4 z4 s4 h4 f4 => ⟨z4, rfl, call_ok h4 f4 (b := 7) (by decide) (by decide) (by decide) fun H5 s5 => ⟨rfl, _, rfl, ?_⟩⟩⟩
    have e1 : ev (pmul [1, 1] [1, 1]) 99 = 10000 := by decide +kernel
    rw [e1, decide_eq_true rfl]
    refine iteT ⟨_, rfl, pow_ok (m := 2) (hx.same (by repeat (first | exact Same.refl _ | assumption | refine same_upd ?_ (by assumption) | refine Same.trans ?_ (by assumption)))) f11 (by decide) fun H6 z6 s6 h6 f6 => ⟨_, rfl, ?_⟩⟩
    refine mk2 n01 fun H7 z7 s7 h7 => ?_
    rw [t01] at h7
    refine add_ok (Opr.ip h7 (by decide)) k1 f01 (by decide) fun H8 z8 s8 h8 f8 => mul_ok (Opr.pp (hx.same (by repeat (first | exact Same.refl _ | assumption | refine same_upd ?_ (by assumption) | refine Same.trans ?_ (by assumption)))) h8) f11 f8 (by decide) fun H9 z9 s9 h9 f9 => eq_ok (h6.same (by repeat (first | exact Same.refl _ | assumption | refine same_upd ?_ (by assumption) | refine Same.trans ?_ (by assumption)))) h9 ?_
    exact fin_true (Q := Q) (q H9) (by decide +kernel)
end
end Lg

namespace Lg
open PySem L2 Lo
/-! ### what the head finds -/
section
variable {K : PySem.W.Frag} {C : Addr} {x q : Str} {st : Stmt} {f p : Addr} {oc : Value} {od an : Option Addr} {osl : Array (Option Value)} {kV doc pm cdv ct : Value} {rest : List Value}
def FF (K : PySem.W.Frag) (x : Str) (st : Stmt) : Prop := ∃ f fd, PySem.W.nsIn K mainGlobals x = some (some (.ref f)) ∧ Fun K x x st f fd
theorem mkF (n : PySem.W.nsIn K mainGlobals x = some (some (.ref f))) (l : K.lookup f = some ⟨oc, od, .func (PySem.W.fnOf x x (defArgs st) (defBody st) (defScope st) .none kV doc pm an cdv ct), osl⟩) (c : PySem.W.codeIn K cdv x = true) (k : PySem.W.keepIn K (.ref f) = true) : FF K x st := ⟨f, _, n, fun_mk l c k⟩
def MF (K : PySem.W.Frag) (C : Addr) (x q : Str) (st : Stmt) : Prop := ∃ f fd, PySem.W.findIn K (.ref C) x = some (some (.ref f)) ∧ PySem.W.isFn K (.ref f) = true ∧ Fun K x q st f fd
theorem mkM (n : PySem.W.findIn K (.ref C) x = some (some (.ref f))) (i : PySem.W.isFn K (.ref f) = true) (l : K.lookup f = some ⟨oc, od, .func (PySem.W.fnOf x q (defArgs st) (defBody st) (defScope st) .none kV doc pm an cdv ct), osl⟩) (c : PySem.W.codeIn K cdv q = true) (k : PySem.W.keepIn K (.ref f) = true) : MF K C x q st := ⟨f, _, n, i, fun_mk l c k⟩
def KF (K : PySem.W.Frag) (C : Addr) (q : Str) (st : Stmt) : Prop := ∃ f fd, StX.CallO K C f ∧ Fun K "__call__" q st f fd
theorem mkK (n : PySem.W.findIn K (.ref C) "__call__" = some (some (.ref f))) (i : PySem.W.isFn K (.ref f) = true) (g : PySem.W.fnIn K f = true) (l : K.lookup f = some ⟨oc, od, .func (PySem.W.fnOf "__call__" q (defArgs st) (defBody st) (defScope st) .none kV doc pm an cdv ct), osl⟩) (c : PySem.W.codeIn K cdv q = true) (k : PySem.W.keepIn K (.ref f) = true) : KF K C q st := ⟨f, _, ⟨n, i, g⟩, fun_mk l c k⟩
def PF (K : PySem.W.Frag) (C : Addr) (x q : Str) (st : Stmt) : Prop := ∃ p f fd, PropOf K C x p f ∧ Fun K x q st f fd
theorem mkP (n : PySem.W.findIn K (.ref C) x = some (some (.ref p))) (g : PySem.W.specialIn K (.ref p) "__get__" = some (some (.builtin "property.__get__"))) (t : PySem.W.takesIn K (.ref p) = some true) (r : PySem.W.recIn K p "property" = some (.ref f :: rest))
    (l : K.lookup f = some ⟨oc, od, .func (PySem.W.fnOf x q (defArgs st) (defBody st) (defScope st) .none kV doc pm an cdv ct), osl⟩) (c : PySem.W.codeIn K cdv q = true) (k : PySem.W.keepIn K (.ref f) = true) : PF K C x q st := ⟨p, f, _, ⟨n, g, t, rest, r⟩, fun_mk l c k⟩
def CF (K : PySem.W.Frag) (C : Addr) (x q : Str) (st : Stmt) : Prop := ∃ p f fd, ClX.CRead K C (.type "type") ∧ ClX.CMet K C (.type "type") x p f ∧ Fun K x q st f fd
theorem mkC (rd : PySem.W.readsIn K C (.type "type") = true) (ga : PySem.W.specialIn K (.ref C) "__getattribute__" = some (some (.builtin "type.__getattribute__"))) (n : PySem.W.findCls K (.ref C) (.type "type") x = some (.get (.builtin "classmethod.__get__") (.ref p) .none (.ref C)))
    (r : PySem.W.recIn K p "classmethod" = some (.ref f :: rest)) (g : PySem.W.fnIn K f = true) (l : K.lookup f = some ⟨oc, od, .func (PySem.W.fnOf x q (defArgs st) (defBody st) (defScope st) .none kV doc pm an cdv ct), osl⟩) (c : PySem.W.codeIn K cdv q = true) (k : PySem.W.keepIn K (.ref f) = true) : CF K C x q st := ⟨p, f, _, ⟨rd, ga⟩, ⟨n, ⟨rest, r⟩, g⟩, fun_mk l c k⟩
end
theorem all_mk {l : PySem.W.OpenLaw} {w : World} {K : PySem.W.Frag} {h : Heap} {mg : Str → Option Value} {fa C : Addr} {tM tL : Tok} {i1 i2 i3 i4 i5 i6 : Option Value} (X : K.In h) (G : h.Ns mainGlobals mg) (hfa : mg "law" = some (.ref fa))
    (aC : PySem.W.nsIn K mainGlobals "Polynomial" = some (some (.ref C)))
    (aM : PySem.W.nsIn K mainGlobals "MAX_POWER" = some (some (.int 20 tM)))
    (aL : PySem.W.nsIn K mainGlobals "LONG" = some (some (.int (10 ^ 60) tL)))
    (b_isinstance : PySem.W.nsIn K mainGlobals "isinstance" = some none)
    (b_int : PySem.W.nsIn K mainGlobals "int" = some none)
    (b_bool : PySem.W.nsIn K mainGlobals "bool" = some none)
    (b_tuple : PySem.W.nsIn K mainGlobals "tuple" = some none)
    (b_list : PySem.W.nsIn K mainGlobals "list" = some none)
    (b_str : PySem.W.nsIn K mainGlobals "str" = some none)
    (b_all : PySem.W.nsIn K mainGlobals "all" = some none)
    (b_len : PySem.W.nsIn K mainGlobals "len" = some none)
    (b_zip : PySem.W.nsIn K mainGlobals "zip" = some none)
    (b_range : PySem.W.nsIn K mainGlobals "range" = some none)
    (b_sum : PySem.W.nsIn K mainGlobals "sum" = some none)
    (b_abs : PySem.W.nsIn K mainGlobals "abs" = some none)
    (b_max : PySem.W.nsIn K mainGlobals "max" = some none)
    (b_min : PySem.W.nsIn K mainGlobals "min" = some none)
    (pg : PySem.W.plainGet K C Str.empty = true)
    (hd : PySem.W.hasDictIn K C = true)
    (po : PySem.W.plainOver K C = true)
    (sa : PySem.W.findIn K (.ref C) "__setattr__" = some (some (.builtin "object.__setattr__")))
    (nF : PySem.W.findIn K (.ref C) fC = some none)
    (ca : PySem.W.findIn K (.ref C) "__class__" = some (some (.builtin "object.__class__")))
    (cn : PySem.W.specialIn K (.builtin "object.__class__") "__get__" = some (some (.builtin "getset_descriptor.__get__")))
    (ct : PySem.W.takesIn K (.builtin "object.__class__") = some true)
    (cm : PySem.W.mroIn K C (.type "object") = some true)
    (ty : PySem.W.typeIn K (.ref C) = some (.type "type"))
    (s1 : PySem.W.subIn K (.type "int") (.ref C) = some false)
    (s2 : PySem.W.subIn K (.ref C) (.type "int") = some false)
    (sf : PySem.W.selfFirst K C = true)
    (ne : PySem.W.findIn K (.ref C) "__ne__" = some (some (.builtin "object.__ne__")))
    (mk : PySem.W.makesIn K C = true)
    (kc : PySem.W.keepIn K (.ref C) = true)
    (o_add : PySem.W.findIn K (.type "int") "__add__" = some i1)
    (o_radd : PySem.W.findIn K (.type "int") "__radd__" = some i2)
    (o_mul : PySem.W.findIn K (.type "int") "__mul__" = some i3)
    (o_rmul : PySem.W.findIn K (.type "int") "__rmul__" = some i4)
    (o_pow : PySem.W.findIn K (.type "int") "__pow__" = some i5)
    (o_rpow : PySem.W.findIn K (.type "int") "__rpow__" = some i6)
    (rp : PySem.W.findIn K (.ref C) "__rpow__" = some none)
    (f_is_integer : FF K "is_integer" sInt)
    (f_figures_of : FF K "figures_of" sFig)
    (f_is_count : FF K "is_count" sCount)
    (f_require_number : FF K "require_number" sReqN)
    (f_require_coefficients : FF K "require_coefficients" sReqC)
    (f_trimmed : FF K "trimmed" sTrim)
    (f_at_in : FF K "at_in" sAt)
    (f_sum_in : FF K "sum_in" sSum)
    (f_product_at : FF K "product_at" sProdAt)
    (f_product_in : FF K "product_in" sProd)
    (f_power_in : FF K "power_in" sPow)
    (f_inner_in : FF K "inner_in" sInner)
    (f_least_in : FF K "least_in" sLeast)
    (f_term_text : FF K "term_text" sTerm)
    (f_made : FF K "made" sMade)
    (f_coefficients_of : FF K "coefficients_of" sCoef)
    (f__law_dice : FF K "_law_dice" sDice)
    (f__law_roll : FF K "_law_roll" sRoll)
    (f__law_one_of : FF K "_law_one_of" sOneOf)
    (f__law_mixed : FF K "_law_mixed" sMixed)
    (f__law_coefficients : FF K "_law_coefficients" sCoefs)
    (f__law_digits : FF K "_law_digits" sDigits)
    (f__law_built_ways : FF K "_law_built_ways" sWays)
    (f__law_values_right : FF K "_law_values_right" sVals)
    (f__law_right : FF K "_law_right" sRight)
    (f_law : FF K "law" sLaw)
    (m___init__ : MF K C "__init__" "Polynomial.__init__" (meth 0))
    (m_at : MF K C "at" "Polynomial.at" (meth 5))
    (m_reach : MF K C "reach" "Polynomial.reach" (meth 4))
    (m___add__ : MF K C "__add__" "Polynomial.__add__" (meth 10))
    (m___radd__ : MF K C "__radd__" "Polynomial.__radd__" (meth 11))
    (m___mul__ : MF K C "__mul__" "Polynomial.__mul__" (meth 12))
    (m___rmul__ : MF K C "__rmul__" "Polynomial.__rmul__" (meth 13))
    (m___pow__ : MF K C "__pow__" "Polynomial.__pow__" (meth 14))
    (m___eq__ : MF K C "__eq__" "Polynomial.__eq__" (meth 15))
    (m___str__ : MF K C "__str__" "Polynomial.__str__" (meth 16))
    (m___call__ : KF K C "Polynomial.__call__" (meth 6))
    (m_degree : PF K C "degree" "Polynomial.degree" (meth 3))
    (m_coefficients : PF K C "coefficients" "Polynomial.coefficients" (meth 2))
    (m_of : CF K C "of" "Polynomial.of" (meth 1))
    : ∃ fd : FuncData, (∀ (s : Shared) (v : Value), BindsTo s fd ⟨[v], []⟩ [("_law_script", v)]) ∧ ∀ base : Heap, K.In base → base.Ns mainGlobals mg → FnOk l.prog w K mg base CX0 11 fa fd ["_law_script"] (spLaw K) := by
  obtain ⟨a_is_integer, d_is_integer, n_is_integer, F_is_integer⟩ := f_is_integer
  obtain ⟨a_figures_of, d_figures_of, n_figures_of, F_figures_of⟩ := f_figures_of
  obtain ⟨a_is_count, d_is_count, n_is_count, F_is_count⟩ := f_is_count
  obtain ⟨a_require_number, d_require_number, n_require_number, F_require_number⟩ := f_require_number
  obtain ⟨a_require_coefficients, d_require_coefficients, n_require_coefficients, F_require_coefficients⟩ := f_require_coefficients
  obtain ⟨a_trimmed, d_trimmed, n_trimmed, F_trimmed⟩ := f_trimmed
  obtain ⟨a_at_in, d_at_in, n_at_in, F_at_in⟩ := f_at_in
  obtain ⟨a_sum_in, d_sum_in, n_sum_in, F_sum_in⟩ := f_sum_in
  obtain ⟨a_product_at, d_product_at, n_product_at, F_product_at⟩ := f_product_at
  obtain ⟨a_product_in, d_product_in, n_product_in, F_product_in⟩ := f_product_in
  obtain ⟨a_power_in, d_power_in, n_power_in, F_power_in⟩ := f_power_in
  obtain ⟨a_inner_in, d_inner_in, n_inner_in, F_inner_in⟩ := f_inner_in
  obtain ⟨a_least_in, d_least_in, n_least_in, F_least_in⟩ := f_least_in
  obtain ⟨a_term_text, d_term_text, n_term_text, F_term_text⟩ := f_term_text
  obtain ⟨a_made, d_made, n_made, F_made⟩ := f_made
  obtain ⟨a_coefficients_of, d_coefficients_of, n_coefficients_of, F_coefficients_of⟩ := f_coefficients_of
  obtain ⟨a__law_dice, d__law_dice, n__law_dice, F__law_dice⟩ := f__law_dice
  obtain ⟨a__law_roll, d__law_roll, n__law_roll, F__law_roll⟩ := f__law_roll
  obtain ⟨a__law_one_of, d__law_one_of, n__law_one_of, F__law_one_of⟩ := f__law_one_of
  obtain ⟨a__law_mixed, d__law_mixed, n__law_mixed, F__law_mixed⟩ := f__law_mixed
  obtain ⟨a__law_coefficients, d__law_coefficients, n__law_coefficients, F__law_coefficients⟩ := f__law_coefficients
  obtain ⟨a__law_digits, d__law_digits, n__law_digits, F__law_digits⟩ := f__law_digits
  obtain ⟨a__law_built_ways, d__law_built_ways, n__law_built_ways, F__law_built_ways⟩ := f__law_built_ways
  obtain ⟨a__law_values_right, d__law_values_right, n__law_values_right, F__law_values_right⟩ := f__law_values_right
  obtain ⟨a__law_right, d__law_right, n__law_right, F__law_right⟩ := f__law_right
  obtain ⟨a_law, d_law, n_law, F_law⟩ := f_law
  have e := hfa.symm.trans (PySem.W.mg_of X G n_law)
  cases e
  obtain ⟨a_init, d_init, n_init, i_init, F_init⟩ := m___init__
  obtain ⟨a_mat, d_mat, h_mat, i_mat, F_mat⟩ := m_at
  obtain ⟨a_mreach, d_mreach, h_mreach, i_mreach, F_mreach⟩ := m_reach
  obtain ⟨a_m__add__, d_m__add__, h_m__add__, i_m__add__, F_m__add__⟩ := m___add__
  obtain ⟨a_m__radd__, d_m__radd__, h_m__radd__, i_m__radd__, F_m__radd__⟩ := m___radd__
  obtain ⟨a_m__mul__, d_m__mul__, h_m__mul__, i_m__mul__, F_m__mul__⟩ := m___mul__
  obtain ⟨a_m__rmul__, d_m__rmul__, h_m__rmul__, i_m__rmul__, F_m__rmul__⟩ := m___rmul__
  obtain ⟨a_m__pow__, d_m__pow__, h_m__pow__, i_m__pow__, F_m__pow__⟩ := m___pow__
  obtain ⟨a_m__eq__, d_m__eq__, h_m__eq__, i_m__eq__, F_m__eq__⟩ := m___eq__
  obtain ⟨a_m__str__, d_m__str__, h_m__str__, i_m__str__, F_m__str__⟩ := m___str__
  obtain ⟨a_m__call__, d_m__call__, h_m__call__, F_m__call__⟩ := m___call__
  obtain ⟨p_mdegree, a_mdegree, d_mdegree, h_mdegree, F_mdegree⟩ := m_degree
  obtain ⟨p_mcoefficients, a_mcoefficients, d_mcoefficients, h_mcoefficients, F_mcoefficients⟩ := m_coefficients
  obtain ⟨p_mof, a_mof, d_mof, r_mof, h_mof, F_mof⟩ := m_of
  have B : Blt mg := ⟨PySem.W.mg_none_of X G b_isinstance, PySem.W.mg_none_of X G b_int, PySem.W.mg_none_of X G b_bool, PySem.W.mg_none_of X G b_tuple, PySem.W.mg_none_of X G b_list, PySem.W.mg_none_of X G b_str, PySem.W.mg_none_of X G b_all, PySem.W.mg_none_of X G b_len, PySem.W.mg_none_of X G b_zip, PySem.W.mg_none_of X G b_range, PySem.W.mg_none_of X G b_sum, PySem.W.mg_none_of X G b_abs, PySem.W.mg_none_of X G b_max, PySem.W.mg_none_of X G b_min⟩
  have hMx := PySem.W.mg_of X G aM
  have hL := PySem.W.mg_of X G aL
  have T : PolyC K mg C := ⟨⟨pg, hd, po, sa⟩, nF, PySem.W.mg_of X G aC, ca, cn, ct, cm, ty, s1, s2, sf, ne⟩
  have hM : Mk K C a_init := ⟨mk, n_init, i_init, kc⟩
  have b_law := (F_law.binds (ps := ["_law_script"]) fun _ _ _ _ _ _ us hl => match us, hl with | [_], _ => rfl)
  obtain ⟨oc, od, kV, doc, pm, an, cdv, ct', osl, ed, lk, hcd⟩ := id F_law.ex
  refine ⟨d_law, fun s v => ?_, fun base _ _ => ?_⟩
  · subst ed; exact .of_eq rfl
  have c_is_integer : Cal l.prog w K mg base 1 "is_integer" spInt := cal_of (ok_int (P := l.prog) (w := w) (mg := mg) (base := base) F_is_integer B) (F_is_integer.binds (ps := ["value"]) fun _ _ _ _ _ _ us hl => match us, hl with | [_], _ => rfl) (PySem.W.mg_of X G n_is_integer) F_is_integer.kp
  have c_figures_of : Cal l.prog w K mg base 1 "figures_of" spFig := cal_of (ok_fig (P := l.prog) (w := w) (mg := mg) (base := base) F_figures_of B hL) (F_figures_of.binds (ps := ["number"]) fun _ _ _ _ _ _ us hl => match us, hl with | [_], _ => rfl) (PySem.W.mg_of X G n_figures_of) F_figures_of.kp
  have c_is_count : Cal l.prog w K mg base 2 "is_count" spCount := cal_of (ok_count (P := l.prog) (w := w) (mg := mg) (base := base) F_is_count c_is_integer) (F_is_count.binds (ps := ["value"]) fun _ _ _ _ _ _ us hl => match us, hl with | [_], _ => rfl) (PySem.W.mg_of X G n_is_count) F_is_count.kp
  have c_require_number : Cal l.prog w K mg base 3 "require_number" spReqN := cal_of (ok_reqN (P := l.prog) (w := w) (mg := mg) (base := base) F_require_number c_is_count) (F_require_number.binds (ps := ["value"]) fun _ _ _ _ _ _ us hl => match us, hl with | [_], _ => rfl) (PySem.W.mg_of X G n_require_number) F_require_number.kp
  have c_require_coefficients : Cal l.prog w K mg base 3 "require_coefficients" spReqC := cal_of (ok_reqC (P := l.prog) (w := w) (mg := mg) (base := base) F_require_coefficients B c_is_count) (F_require_coefficients.binds (ps := ["coefficients"]) fun _ _ _ _ _ _ us hl => match us, hl with | [_], _ => rfl) (PySem.W.mg_of X G n_require_coefficients) F_require_coefficients.kp
  have c_trimmed : Cal l.prog w K mg base 1 "trimmed" spTrim := cal_of (ok_trim (P := l.prog) (w := w) (mg := mg) (base := base) F_trimmed B) (F_trimmed.binds (ps := ["coefficients"]) fun _ _ _ _ _ _ us hl => match us, hl with | [_], _ => rfl) (PySem.W.mg_of X G n_trimmed) F_trimmed.kp
  have c_at_in : Cal l.prog w K mg base 1 "at_in" spAt := cal_of (ok_at (P := l.prog) (w := w) (mg := mg) (base := base) F_at_in ) (F_at_in.binds (ps := ["coefficients", "n"]) fun _ _ _ _ _ _ us hl => match us, hl with | [_, _], _ => rfl) (PySem.W.mg_of X G n_at_in) F_at_in.kp
  have c_sum_in : Cal l.prog w K mg base 1 "sum_in" spSum := cal_of (ok_sum (P := l.prog) (w := w) (mg := mg) (base := base) F_sum_in B) (F_sum_in.binds (ps := ["first", "second"]) fun _ _ _ _ _ _ us hl => match us, hl with | [_, _], _ => rfl) (PySem.W.mg_of X G n_sum_in) F_sum_in.kp
  have c_product_at : Cal l.prog w K mg base 1 "product_at" spProdAt := cal_of (ok_prodAt (P := l.prog) (w := w) (mg := mg) (base := base) F_product_at B) (F_product_at.binds (ps := ["first", "second", "place"]) fun _ _ _ _ _ _ us hl => match us, hl with | [_, _, _], _ => rfl) (PySem.W.mg_of X G n_product_at) F_product_at.kp
  have c_product_in : Cal l.prog w K mg base 2 "product_in" spProd := cal_of (ok_prod (P := l.prog) (w := w) (mg := mg) (base := base) F_product_in B c_product_at) (F_product_in.binds (ps := ["first", "second"]) fun _ _ _ _ _ _ us hl => match us, hl with | [_, _], _ => rfl) (PySem.W.mg_of X G n_product_in) F_product_in.kp
  have c_power_in : Cal l.prog w K mg base 3 "power_in" spPow := cal_of (ok_pow (P := l.prog) (w := w) (mg := mg) (base := base) F_power_in B c_product_in) (F_power_in.binds (ps := ["coefficients", "many"]) fun _ _ _ _ _ _ us hl => match us, hl with | [_, _], _ => rfl) (PySem.W.mg_of X G n_power_in) F_power_in.kp
  have c_inner_in : Cal l.prog w K mg base 3 "inner_in" spInner := cal_of (ok_inner (P := l.prog) (w := w) (mg := mg) (base := base) F_inner_in c_product_in c_sum_in) (F_inner_in.binds (ps := ["outer", "inner"]) fun _ _ _ _ _ _ us hl => match us, hl with | [_, _], _ => rfl) (PySem.W.mg_of X G n_inner_in) F_inner_in.kp
  have c_least_in : Cal l.prog w K mg base 2 "least_in" spLeast := cal_of (ok_least (P := l.prog) (w := w) (mg := mg) (base := base) F_least_in B c_at_in) (F_least_in.binds (ps := ["coefficients", "goal"]) fun _ _ _ _ _ _ us hl => match us, hl with | [_, _], _ => rfl) (PySem.W.mg_of X G n_least_in) F_least_in.kp
  have c_term_text : Cal l.prog w K mg base 2 "term_text" spTerm := cal_of (ok_termF (P := l.prog) (w := w) (mg := mg) (base := base) F_term_text c_figures_of) (F_term_text.binds (ps := ["one", "power"]) fun _ _ _ _ _ _ us hl => match us, hl with | [_, _], _ => rfl) (PySem.W.mg_of X G n_term_text) F_term_text.kp
  have hI := ok_init (P := l.prog) (w := w) (base := base) F_init T c_require_coefficients c_trimmed
  have c_made : Cal l.prog w K mg base 6 "made" (spMade C) := cal_of (ok_made (P := l.prog) (w := w) (mg := mg) (base := base) F_made T hM hI) (F_made.binds (ps := ["coefficients"]) fun _ _ _ _ _ _ us hl => match us, hl with | [_], _ => rfl) (PySem.W.mg_of X G n_made) F_made.kp
  have c_coefficients_of : Cal l.prog w K mg base 3 "coefficients_of" (spCoef C) := cal_of (ok_coef (P := l.prog) (w := w) (mg := mg) (base := base) F_coefficients_of B T c_is_count) (F_coefficients_of.binds (ps := ["value"]) fun _ _ _ _ _ _ us hl => match us, hl with | [_], _ => rfl) (PySem.W.mg_of X G n_coefficients_of) F_coefficients_of.kp
  have k_mat := ok_atM (P := l.prog) (w := w) (mg := mg) (base := base) F_mat B T c_made c_inner_in
  have r_mat' := (k_mat.raw (F_mat.binds (ps := ["self", "other"]) fun _ _ _ _ _ _ us hl => match us, hl with | [_, _], _ => rfl) .nil).imp (fun vs H Q E h => by rw [List.append_nil]; exact h)
  have k_mreach := ok_reach (P := l.prog) (w := w) (mg := mg) (base := base) F_mreach T c_require_number c_least_in
  have r_mreach' := (k_mreach.raw (F_mreach.binds (ps := ["self", "goal"]) fun _ _ _ _ _ _ us hl => match us, hl with | [_, _], _ => rfl) .nil).imp (fun vs H Q E h => by rw [List.append_nil]; exact h)
  have k_m__add__ := ok_add (P := l.prog) (w := w) (mg := mg) (base := base) F_m__add__ T c_made c_sum_in c_coefficients_of
  have r_m__add__' := (k_m__add__.raw (F_m__add__.binds (ps := ["self", "other"]) fun _ _ _ _ _ _ us hl => match us, hl with | [_, _], _ => rfl) .nil).imp (fun vs H Q E h => by rw [List.append_nil]; exact h)
  have k_m__radd__ := ok_radd (P := l.prog) (w := w) (mg := mg) (base := base) F_m__radd__ T c_made c_sum_in c_coefficients_of
  have r_m__radd__' := (k_m__radd__.raw (F_m__radd__.binds (ps := ["self", "other"]) fun _ _ _ _ _ _ us hl => match us, hl with | [_, _], _ => rfl) .nil).imp (fun vs H Q E h => by rw [List.append_nil]; exact h)
  have k_m__mul__ := ok_mul (P := l.prog) (w := w) (mg := mg) (base := base) F_m__mul__ T c_made c_product_in c_coefficients_of
  have r_m__mul__' := (k_m__mul__.raw (F_m__mul__.binds (ps := ["self", "other"]) fun _ _ _ _ _ _ us hl => match us, hl with | [_, _], _ => rfl) .nil).imp (fun vs H Q E h => by rw [List.append_nil]; exact h)
  have k_m__rmul__ := ok_rmul (P := l.prog) (w := w) (mg := mg) (base := base) F_m__rmul__ T c_made c_product_in c_coefficients_of
  have r_m__rmul__' := (k_m__rmul__.raw (F_m__rmul__.binds (ps := ["self", "other"]) fun _ _ _ _ _ _ us hl => match us, hl with | [_, _], _ => rfl) .nil).imp (fun vs H Q E h => by rw [List.append_nil]; exact h)
  have k_m__pow__ := ok_powM (P := l.prog) (w := w) (mg := mg) (base := base) F_m__pow__ T hMx c_made c_power_in c_is_count
  have r_m__pow__' := (k_m__pow__.raw (F_m__pow__.binds (ps := ["self", "many"]) fun _ _ _ _ _ _ us hl => match us, hl with | [_, _], _ => rfl) .nil).imp (fun vs H Q E h => by rw [List.append_nil]; exact h)
  have k_m__eq__ := ok_eq (P := l.prog) (w := w) (mg := mg) (base := base) F_m__eq__ B T
  have r_m__eq__' := (k_m__eq__.raw (F_m__eq__.binds (ps := ["self", "other"]) fun _ _ _ _ _ _ us hl => match us, hl with | [_, _], _ => rfl) .nil).imp (fun vs H Q E h => by rw [List.append_nil]; exact h)
  have k_m__str__ := ok_str (P := l.prog) (w := w) (mg := mg) (base := base) F_m__str__ B T c_term_text
  have r_m__str__' := (k_m__str__.raw (F_m__str__.binds (ps := ["self"]) fun _ _ _ _ _ _ us hl => match us, hl with | [_], _ => rfl) .nil).imp (fun vs H Q E h => by rw [List.append_nil]; exact h)
  have k_m__call__ := ok_call (P := l.prog) (w := w) (mg := mg) (base := base) F_m__call__ T c_require_number c_at_in
  have r_m__call__' := (k_m__call__.raw (F_m__call__.binds (ps := ["self", "n"]) fun _ _ _ _ _ _ us hl => match us, hl with | [_, _], _ => rfl) .nil).imp (fun vs H Q E h => by rw [List.append_nil]; exact h)
  have k_mdegree := ok_deg (P := l.prog) (w := w) (mg := mg) (base := base) F_mdegree B T
  have r_mdegree' := (k_mdegree.raw (F_mdegree.binds (ps := ["self"]) fun _ _ _ _ _ _ us hl => match us, hl with | [_], _ => rfl) .nil).imp (fun vs H Q E h => by rw [List.append_nil]; exact h)
  have k_mcoefficients := ok_co (P := l.prog) (w := w) (mg := mg) (base := base) F_mcoefficients T
  have r_mcoefficients' := (k_mcoefficients.raw (F_mcoefficients.binds (ps := ["self"]) fun _ _ _ _ _ _ us hl => match us, hl with | [_], _ => rfl) .nil).imp (fun vs H Q E h => by rw [List.append_nil]; exact h)
  have k_mof := ok_of (P := l.prog) (w := w) (mg := mg) (base := base) F_mof hM hI c_require_coefficients
  have r_mof' := (k_mof.raw (F_mof.binds (ps := ["cls", "coefficients"]) fun _ _ _ _ _ _ us hl => match us, hl with | [_, _], _ => rfl) .nil).imp (fun vs H Q E h => by rw [List.append_nil]; exact h)
  have L : Pol l.prog w K mg base C :=
    { T := T
      init := ⟨a_init, hM, hI⟩
      add := ⟨_, r_m__add__', h_m__add__, i_m__add__⟩
      radd := ⟨_, r_m__radd__', h_m__radd__, i_m__radd__⟩
      mul := ⟨_, r_m__mul__', h_m__mul__, i_m__mul__⟩
      rmul := ⟨_, r_m__rmul__', h_m__rmul__, i_m__rmul__⟩
      pow := ⟨_, r_m__pow__', h_m__pow__, i_m__pow__⟩
      eq := ⟨_, r_m__eq__', h_m__eq__, i_m__eq__⟩
      str := ⟨_, r_m__str__', h_m__str__, i_m__str__⟩
      ia := ⟨⟨_, h_m__radd__, .inr ⟨_, rfl⟩⟩, ⟨_, o_add⟩, ⟨_, o_radd⟩⟩
      im := ⟨⟨_, h_m__rmul__, .inr ⟨_, rfl⟩⟩, ⟨_, o_mul⟩, ⟨_, o_rmul⟩⟩
      ip := ⟨⟨_, rp, .inl rfl⟩, ⟨_, o_pow⟩, ⟨_, o_rpow⟩⟩
      at_ := ⟨_, ⟨h_mat, i_mat, F_mat.kp⟩, r_mat'⟩
      reach := ⟨_, ⟨h_mreach, i_mreach, F_mreach.kp⟩, r_mreach'⟩
      call := ⟨_, h_m__call__, r_m__call__'⟩
      deg := ⟨_, _, _, h_mdegree, k_mdegree, (F_mdegree.binds (ps := ["self"]) fun _ _ _ _ _ _ us hl => match us, hl with | [_], _ => rfl)⟩
      co := ⟨_, _, _, h_mcoefficients, k_mcoefficients, (F_mcoefficients.binds (ps := ["self"]) fun _ _ _ _ _ _ us hl => match us, hl with | [_], _ => rfl)⟩
      of_ := ⟨_, _, r_mof, h_mof, r_mof'⟩ }
  have c__law_dice : Cal l.prog w K mg base 1 "_law_dice" (spDice K) := cal_of (ok_dice (P := l.prog) (w := w) (mg := mg) (base := base) F__law_dice B) (F__law_dice.binds (ps := ["_law_script", "_law_at"]) fun _ _ _ _ _ _ us hl => match us, hl with | [_, _], _ => rfl) (PySem.W.mg_of X G n__law_dice) F__law_dice.kp
  have c__law_roll : Cal l.prog w K mg base 1 "_law_roll" spRoll := cal_of (ok_roll (P := l.prog) (w := w) (mg := mg) (base := base) F__law_roll B) (F__law_roll.binds (ps := ["_law_dice_here", "_law_total"]) fun _ _ _ _ _ _ us hl => match us, hl with | [_, _], _ => rfl) (PySem.W.mg_of X G n__law_roll) F__law_roll.kp
  have c__law_one_of : Cal l.prog w K mg base 2 "_law_one_of" spOne := cal_of (ok_one (P := l.prog) (w := w) (mg := mg) (base := base) F__law_one_of B c__law_roll) (F__law_one_of.binds (ps := ["_law_dice_here", "_law_items"]) fun _ _ _ _ _ _ us hl => match us, hl with | [_, _], _ => rfl) (PySem.W.mg_of X G n__law_one_of) F__law_one_of.kp
  have c__law_mixed : Cal l.prog w K mg base 2 "_law_mixed" spMix := cal_of (ok_mix (P := l.prog) (w := w) (mg := mg) (base := base) F__law_mixed B c__law_roll) (F__law_mixed.binds (ps := ["_law_dice_here", "_law_items"]) fun _ _ _ _ _ _ us hl => match us, hl with | [_, _], _ => rfl) (PySem.W.mg_of X G n__law_mixed) F__law_mixed.kp
  have c__law_coefficients : Cal l.prog w K mg base 3 "_law_coefficients" spCoefs := cal_of (ok_coefs (P := l.prog) (w := w) (mg := mg) (base := base) F__law_coefficients B c__law_roll c__law_one_of) (F__law_coefficients.binds (ps := ["_law_dice_here"]) fun _ _ _ _ _ _ us hl => match us, hl with | [_], _ => rfl) (PySem.W.mg_of X G n__law_coefficients) F__law_coefficients.kp
  have c__law_digits : Cal l.prog w K mg base 1 "_law_digits" spDig := cal_of (ok_dig (P := l.prog) (w := w) (mg := mg) (base := base) F__law_digits B) (F__law_digits.binds (ps := ["_law_number", "_law_base"]) fun _ _ _ _ _ _ us hl => match us, hl with | [_, _], _ => rfl) (PySem.W.mg_of X G n__law_digits) F__law_digits.kp
  have c__law_built_ways : Cal l.prog w K mg base 9 "_law_built_ways" (spWays C) := cal_of (ok_ways (P := l.prog) (w := w) (mg := mg) (base := base) F__law_built_ways B L c__law_mixed) (F__law_built_ways.binds (ps := ["_law_dice_here", "_law_one", "_law_other", "_law_third"]) fun _ _ _ _ _ _ us hl => match us, hl with | [_, _, _, _], _ => rfl) (PySem.W.mg_of X G n__law_built_ways) F__law_built_ways.kp
  have c__law_values_right : Cal l.prog w K mg base 8 "_law_values_right" (spVals C) := cal_of (ok_vals (P := l.prog) (w := w) (mg := mg) (base := base) F__law_values_right B L c__law_roll) (F__law_values_right.binds (ps := ["_law_dice_here", "_law_one", "_law_other"]) fun _ _ _ _ _ _ us hl => match us, hl with | [_, _, _], _ => rfl) (PySem.W.mg_of X G n__law_values_right) F__law_values_right.kp
  have c__law_right : Cal l.prog w K mg base 10 "_law_right" spRight := cal_of (ok_right (P := l.prog) (w := w) (mg := mg) (base := base) F__law_right B L c__law_coefficients c__law_built_ways c__law_digits c__law_values_right c__law_one_of) (F__law_right.binds (ps := ["_law_dice_here"]) fun _ _ _ _ _ _ us hl => match us, hl with | [_], _ => rfl) (PySem.W.mg_of X G n__law_right) F__law_right.kp
  exact ok_law (P := l.prog) (w := w) (mg := mg) (base := base) F_law B L c__law_dice c__law_right
theorem walk {l : PySem.W.OpenLaw} {q : Program} {loose : List Str} {XP : (Str → Option Value) → Heap → Prop} {YP : World → Heap → Prop} {d : DefRec} {K : Params → PySem.W.Frag} (hn : l.most = some 63) (hdf : d.params.defaults = [])
    (hY : ∀ (w : World) (h : Heap), YP w h → (K w.params).In h)
    (F : ∀ (w : World) (mg : Str → Option Value) (fa : Addr) (h : Heap), (K w.params).In h → h.Ns mainGlobals mg → mg d.name = some (.ref fa) →
      ∃ fd : FuncData, (∀ (s : Shared) (u : Value), BindsTo s fd ⟨[u], []⟩ [("_law_script", u)]) ∧ ∀ base : Heap, (K w.params).In base → base.Ns mainGlobals mg → FnOk l.prog w (K w.params) mg base CX0 11 fa fd ["_law_script"] (spLaw (K w.params))) :
    PySem.W.WalkO q loose XP YP l.row.toRowW d [] (fun f vs => PySem.call f vs) :=
  L2.walk_of (n := 63) (k := 11) (x := "_law_script") (CX := fun _ => CX0) (sp := fun w => spLaw (K w.params)) hn (by decide) hdf ⟨rfl, by decide, by decide⟩ hY F (fun _ _ a ns hl _ hS => ⟨a, ns, rfl, hS, hl, fun _ => rfl⟩) fun _ _ _ _ _ z => z
end Lg

open PySem PySem.W PyProof.Rows in
set_option maxRecDepth 100000 in
set_option maxHeartbeats 0 in
theorem PySem.Challenge.cw_loopgrowth_k59_whole_polynomials_are_the_holds : PySem.Challenge.rw_loopgrowth_k59_whole_polynomials_are_the.Holds := by
  w_on; o_law; k_head; (case hw => w_witness2)
  k_fill
  refine Lg.walk (l := PySem.Challenge.rw_loopgrowth_k59_whole_polynomials_are_the) rfl rfl (fun w h Y => PySem.W.kIn_of Y) ?F
  case F =>
    intro w mg fa h KX G hmg
    refine' Lg.all_mk KX G hmg ?aC ?aM ?aL ?b_isinstance ?b_int ?b_bool ?b_tuple ?b_list ?b_str ?b_all ?b_len ?b_zip ?b_range ?b_sum ?b_abs ?b_max ?b_min ?pg ?hd ?po ?sa ?nF ?ca ?cn ?ct ?cm ?ty ?s1 ?s2 ?sf ?ne ?mk ?kc ?o_add ?o_radd ?o_mul ?o_rmul ?o_pow ?o_rpow ?rp ?f_is_integer ?f_figures_of ?f_is_count ?f_require_number ?f_require_coefficients ?f_trimmed ?f_at_in ?f_sum_in ?f_product_at ?f_product_in ?f_power_in ?f_inner_in ?f_least_in ?f_term_text ?f_made ?f_coefficients_of ?f__law_dice ?f__law_roll ?f__law_one_of ?f__law_mixed ?f__law_coefficients ?f__law_digits ?f__law_built_ways ?f__law_values_right ?f__law_right ?f_law ?m___init__ ?m_at ?m_reach ?m___add__ ?m___radd__ ?m___mul__ ?m___rmul__ ?m___pow__ ?m___eq__ ?m___str__ ?m___call__ ?m_degree ?m_coefficients ?m_of
    (case aC => k_is)
    (case aM => k_is)
    (case aL => k_is)
    (case b_isinstance => k_is)
    (case b_int => k_is)
    (case b_bool => k_is)
    (case b_tuple => k_is)
    (case b_list => k_is)
    (case b_str => k_is)
    (case b_all => k_is)
    (case b_len => k_is)
    (case b_zip => k_is)
    (case b_range => k_is)
    (case b_sum => k_is)
    (case b_abs => k_is)
    (case b_max => k_is)
    (case b_min => k_is)
    (case pg => k_is)
    (case hd => k_is)
    (case po => k_is)
    (case sa => k_is)
    (case nF => k_is)
    (case ca => k_is)
    (case cn => k_is)
    (case ct => k_is)
    (case cm => k_is)
    (case ty => k_is)
    (case s1 => k_is)
    (case s2 => k_is)
    (case sf => k_is)
    (case ne => k_is)
    (case mk => k_is)
    (case kc => k_is)
    (case o_add => k_is)
    (case o_radd => k_is)
    (case o_mul => k_is)
    (case o_rmul => k_is)
    (case o_pow => k_is)
    (case o_rpow => k_is)
    (case rp => k_is)
    (case f_is_integer =>
      refine' Lg.mkF ?n ?l ?c ?k
      (case n => k_is)
      (case l => k_is)
      (case c => k_is)
      (case k => k_is))
    (case f_figures_of =>
      refine' Lg.mkF ?n ?l ?c ?k
      (case n => k_is)
      (case l => k_is)
      (case c => k_is)
      (case k => k_is))
    (case f_is_count =>
      refine' Lg.mkF ?n ?l ?c ?k
      (case n => k_is)
      (case l => k_is)
      (case c => k_is)
      (case k => k_is))
    (case f_require_number =>
      refine' Lg.mkF ?n ?l ?c ?k
      (case n => k_is)
      (case l => k_is)
      (case c => k_is)
      (case k => k_is))
    (case f_require_coefficients =>
      refine' Lg.mkF ?n ?l ?c ?k
      (case n => k_is)
      (case l => k_is)
      (case c => k_is)
      (case k => k_is))
    (case f_trimmed =>
      refine' Lg.mkF ?n ?l ?c ?k
      (case n => k_is)
      (case l => k_is)
      (case c => k_is)
      (case k => k_is))
    (case f_at_in =>
      refine' Lg.mkF ?n ?l ?c ?k
      (case n => k_is)
      (case l => k_is)
      (case c => k_is)
      (case k => k_is))
    (case f_sum_in =>
      refine' Lg.mkF ?n ?l ?c ?k
      (case n => k_is)
      (case l => k_is)
      (case c => k_is)
      (case k => k_is))
    (case f_product_at =>
      refine' Lg.mkF ?n ?l ?c ?k
      (case n => k_is)
      (case l => k_is)
      (case c => k_is)
      (case k => k_is))
    (case f_product_in =>
      refine' Lg.mkF ?n ?l ?c ?k
      (case n => k_is)
      (case l => k_is)
      (case c => k_is)
      (case k => k_is))
    (case f_power_in =>
      refine' Lg.mkF ?n ?l ?c ?k
      (case n => k_is)
      (case l => k_is)
      (case c => k_is)
      (case k => k_is))
    (case f_inner_in =>
      refine' Lg.mkF ?n ?l ?c ?k
      (case n => k_is)
      (case l => k_is)
      (case c => k_is)
      (case k => k_is))
    (case f_least_in =>
      refine' Lg.mkF ?n ?l ?c ?k
      (case n => k_is)
      (case l => k_is)
      (case c => k_is)
      (case k => k_is))
    (case f_term_text =>
      refine' Lg.mkF ?n ?l ?c ?k
      (case n => k_is)
      (case l => k_is)
      (case c => k_is)
      (case k => k_is))
    (case f_made =>
      refine' Lg.mkF ?n ?l ?c ?k
      (case n => k_is)
      (case l => k_is)
      (case c => k_is)
      (case k => k_is))
    (case f_coefficients_of =>
      refine' Lg.mkF ?n ?l ?c ?k
      (case n => k_is)
      (case l => k_is)
      (case c => k_is)
      (case k => k_is))
    (case f__law_dice =>
      refine' Lg.mkF ?n ?l ?c ?k
      (case n => k_is)
      (case l => k_is)
      (case c => k_is)
      (case k => k_is))
    (case f__law_roll =>
      refine' Lg.mkF ?n ?l ?c ?k
      (case n => k_is)
      (case l => k_is)
      (case c => k_is)
      (case k => k_is))
    (case f__law_one_of =>
      refine' Lg.mkF ?n ?l ?c ?k
      (case n => k_is)
      (case l => k_is)
      (case c => k_is)
      (case k => k_is))
    (case f__law_mixed =>
      refine' Lg.mkF ?n ?l ?c ?k
      (case n => k_is)
      (case l => k_is)
      (case c => k_is)
      (case k => k_is))
    (case f__law_coefficients =>
      refine' Lg.mkF ?n ?l ?c ?k
      (case n => k_is)
      (case l => k_is)
      (case c => k_is)
      (case k => k_is))
    (case f__law_digits =>
      refine' Lg.mkF ?n ?l ?c ?k
      (case n => k_is)
      (case l => k_is)
      (case c => k_is)
      (case k => k_is))
    (case f__law_built_ways =>
      refine' Lg.mkF ?n ?l ?c ?k
      (case n => k_is)
      (case l => k_is)
      (case c => k_is)
      (case k => k_is))
    (case f__law_values_right =>
      refine' Lg.mkF ?n ?l ?c ?k
      (case n => k_is)
      (case l => k_is)
      (case c => k_is)
      (case k => k_is))
    (case f__law_right =>
      refine' Lg.mkF ?n ?l ?c ?k
      (case n => k_is)
      (case l => k_is)
      (case c => k_is)
      (case k => k_is))
    (case f_law =>
      refine' Lg.mkF ?n ?l ?c ?k
      (case n => k_is)
      (case l => k_is)
      (case c => k_is)
      (case k => k_is))
    (case m___init__ =>
      refine' Lg.mkM ?n ?i ?l ?c ?k
      (case n => k_is)
      (case i => k_is)
      (case l => k_is)
      (case c => k_is)
      (case k => k_is))
    (case m_at =>
      refine' Lg.mkM ?n ?i ?l ?c ?k
      (case n => k_is)
      (case i => k_is)
      (case l => k_is)
      (case c => k_is)
      (case k => k_is))
    (case m_reach =>
      refine' Lg.mkM ?n ?i ?l ?c ?k
      (case n => k_is)
      (case i => k_is)
      (case l => k_is)
      (case c => k_is)
      (case k => k_is))
    (case m___add__ =>
      refine' Lg.mkM ?n ?i ?l ?c ?k
      (case n => k_is)
      (case i => k_is)
      (case l => k_is)
      (case c => k_is)
      (case k => k_is))
    (case m___radd__ =>
      refine' Lg.mkM ?n ?i ?l ?c ?k
      (case n => k_is)
      (case i => k_is)
      (case l => k_is)
      (case c => k_is)
      (case k => k_is))
    (case m___mul__ =>
      refine' Lg.mkM ?n ?i ?l ?c ?k
      (case n => k_is)
      (case i => k_is)
      (case l => k_is)
      (case c => k_is)
      (case k => k_is))
    (case m___rmul__ =>
      refine' Lg.mkM ?n ?i ?l ?c ?k
      (case n => k_is)
      (case i => k_is)
      (case l => k_is)
      (case c => k_is)
      (case k => k_is))
    (case m___pow__ =>
      refine' Lg.mkM ?n ?i ?l ?c ?k
      (case n => k_is)
      (case i => k_is)
      (case l => k_is)
      (case c => k_is)
      (case k => k_is))
    (case m___eq__ =>
      refine' Lg.mkM ?n ?i ?l ?c ?k
      (case n => k_is)
      (case i => k_is)
      (case l => k_is)
      (case c => k_is)
      (case k => k_is))
    (case m___str__ =>
      refine' Lg.mkM ?n ?i ?l ?c ?k
      (case n => k_is)
      (case i => k_is)
      (case l => k_is)
      (case c => k_is)
      (case k => k_is))
    (case m___call__ =>
      refine' Lg.mkK ?n ?i ?g ?l ?c ?k
      (case n => k_is)
      (case i => k_is)
      (case g => k_is)
      (case l => k_is)
      (case c => k_is)
      (case k => k_is))
    (case m_degree =>
      refine' Lg.mkP ?n ?g ?t ?r ?l ?c ?k
      (case n => k_is)
      (case g => k_is)
      (case t => k_is)
      (case r => k_is)
      (case l => k_is)
      (case c => k_is)
      (case k => k_is))
    (case m_coefficients =>
      refine' Lg.mkP ?n ?g ?t ?r ?l ?c ?k
      (case n => k_is)
      (case g => k_is)
      (case t => k_is)
      (case r => k_is)
      (case l => k_is)
      (case c => k_is)
      (case k => k_is))
    (case m_of =>
      refine' Lg.mkC ?rd ?ga ?n ?r ?g ?l ?c ?k
      (case rd => k_is)
      (case ga => k_is)
      (case n => k_is)
      (case r => k_is)
      (case g => k_is)
      (case l => k_is)
      (case c => k_is)
      (case k => k_is))
