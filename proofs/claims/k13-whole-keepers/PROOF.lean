import PyProof.Rows.All
import Wide.All
import OpenK.AllK
import Wide.FinOn
import KE.KStateDown
import HandS.ForMost
import HandS.ForExc
import HandS.Conv
import HandS.Codes
import HandS.Strs
import HandS.Star
import HandS.Property
import HandS.IsInst
import HandS.Deep
import HandS.DictComp
import HandS.ListItems
import HandS.Finally
import HandS.Flow
import HandS.Wide
import HandS.TryMany
import HandS.ExcField
import HandS.RaiseMore
import HandS.Defaults
import HandS.Lambda
import HandS.Zip
import HandS.SetFor
import HandS.OwnEq
import HandS.HeadHook1
import HandS.HeadHook2
import HandS.HeadHook3
import HandS.HeadHook4
import PySem.Challenge.RW_freelots_k13_whole_keepers
import KE.KExcSuper
import HandS.ExcSuper
import PyProof.InstNe
import KE.KDictSum
import KE.KDictZip
import KE.DataFind
import KE.Datum
import HandS.WideBits
import HandS.Head0
import HandS.Head1
import HandS.Head2
import HandS.HeadEnd
import KE.KNestM
import HandS.EndBits
section
/-! Plain linear algebra with whole numbers modulo f (f = 0, or a prime): sets of rows as Bool predicates below n; no program in sight. -/
namespace KP
/-- the sum of g below n -/
def S : Nat → (Nat → Int) → Int
  | 0, _ => 0
  | n + 1, g => S n g + g n
/-- how many below n -/
def cnt : Nat → (Nat → Bool) → Nat
  | 0, _ => 0
  | n + 1, p => cnt n p + (if p n = true then 1 else 0)
/-- the numbers modulo f are a domain -/
structure Dom (f : Int) : Prop where
  dom : ∀ a b : Int, f ∣ a * b → f ∣ a ∨ f ∣ b
  one : ¬ f ∣ 1

theorem S_add (n : Nat) (g h : Nat → Int) : S n (fun r => g r + h r) = S n g + S n h := by
  induction n with
  | zero => rfl
  | succ n ih => simp only [S, ih]; omega
theorem S_mul (n : Nat) (a : Int) (g : Nat → Int) : S n (fun r => a * g r) = a * S n g := by
  induction n with
  | zero => simp [S]
  | succ n ih => simp only [S, ih, Int.mul_add]
theorem S_neg (n : Nat) (g : Nat → Int) : S n (fun r => - g r) = - S n g := by
  induction n with
  | zero => rfl
  | succ n ih => simp only [S, ih]; omega
theorem S_congr (n : Nat) {g h : Nat → Int} (e : ∀ r, r < n → g r = h r) : S n g = S n h := by
  induction n with
  | zero => rfl
  | succ n ih =>
    simp only [S]
    rw [ih fun r hr => e r (Nat.lt_succ_of_lt hr), e n (Nat.lt_succ_self n)]
theorem S_zero (n : Nat) {g : Nat → Int} (e : ∀ r, r < n → g r = 0) : S n g = 0 := by
  rw [S_congr n (h := fun _ => 0) e]
  induction n with
  | zero => rfl
  | succ n ih => simp only [S]; rw [ih fun r hr => e r (Nat.lt_succ_of_lt hr)]; rfl
theorem S_dvd (n : Nat) {f : Int} {g : Nat → Int} (e : ∀ r, r < n → f ∣ g r) : f ∣ S n g := by
  induction n with
  | zero => exact Int.dvd_zero f
  | succ n ih =>
    simp only [S]
    exact Int.dvd_add (ih fun r hr => e r (Nat.lt_succ_of_lt hr)) (e n (Nat.lt_succ_self n))
theorem S_swap (n m : Nat) (g : Nat → Nat → Int) : S n (fun a => S m (fun b => g a b)) = S m (fun b => S n (fun a => g a b)) := by
  induction n with
  | zero => simp only [S]; exact (S_zero m fun _ _ => rfl).symm
  | succ n ih => simp only [S, ih, S_add]
/-- one place changed -/
theorem S_at (n : Nat) {j : Nat} (hj : j < n) (a : Int) (g : Nat → Int) : S n (fun r => if r = j then a else g r) = S n g - g j + a := by
  induction n with
  | zero => omega
  | succ n ih =>
    simp only [S]
    by_cases e : j = n
    · subst e
      rw [S_congr j (h := g) fun r hr => if_neg (Nat.ne_of_lt hr), if_pos rfl]
      omega
    · rw [ih (by omega), if_neg (fun z => e z.symm)]
      omega
/-- one place alone -/
theorem S_one (n : Nat) {j : Nat} (hj : j < n) (a : Int) : S n (fun r => if r = j then a else 0) = a := by
  rw [S_at n hj a fun _ => 0, S_zero n fun _ _ => rfl]
  omega

theorem cnt_le (n : Nat) (p : Nat → Bool) : cnt n p ≤ n := by
  induction n with
  | zero => exact Nat.le_refl 0
  | succ n ih => simp only [cnt]; split <;> omega
theorem cnt_congr (n : Nat) {p q : Nat → Bool} (e : ∀ r, r < n → p r = q r) : cnt n p = cnt n q := by
  induction n with
  | zero => rfl
  | succ n ih =>
    simp only [cnt]
    rw [ih fun r hr => e r (Nat.lt_succ_of_lt hr), e n (Nat.lt_succ_self n)]
theorem cnt_mono (n : Nat) {p q : Nat → Bool} (e : ∀ r, r < n → p r = true → q r = true) : cnt n p ≤ cnt n q := by
  induction n with
  | zero => exact Nat.le_refl 0
  | succ n ih =>
    simp only [cnt]
    have h1 := ih fun r hr => e r (Nat.lt_succ_of_lt hr)
    have h2 := e n (Nat.lt_succ_self n)
    by_cases hp : p n = true
    · rw [if_pos hp, if_pos (h2 hp)]; omega
    · rw [if_neg hp]; split <;> omega
theorem cnt_zero (n : Nat) {p : Nat → Bool} (e : ∀ r, r < n → p r = false) : cnt n p = 0 := by
  induction n with
  | zero => rfl
  | succ n ih =>
    simp only [cnt]
    rw [ih fun r hr => e r (Nat.lt_succ_of_lt hr), if_neg (by rw [e n (Nat.lt_succ_self n)]; exact Bool.false_ne_true)]
theorem cnt_pos (n : Nat) {p : Nat → Bool} {j : Nat} (hj : j < n) (h : p j = true) : 0 < cnt n p := by
  induction n with
  | zero => omega
  | succ n ih =>
    simp only [cnt]
    by_cases e : j = n
    · rw [← e, if_pos h]; omega
    · have := ih (by omega); omega
/-- one more -/
theorem cnt_ins (n : Nat) {p : Nat → Bool} {j : Nat} (hj : j < n) (h : p j = false) : cnt n (fun r => p r || decide (r = j)) = cnt n p + 1 := by
  induction n with
  | zero => omega
  | succ n ih =>
    simp only [cnt]
    by_cases e : j = n
    · subst e
      rw [cnt_congr j (q := p) fun r hr => by rw [decide_eq_false (Nat.ne_of_lt hr), Bool.or_false]]
      simp [h]
    · rw [ih (by omega)]
      have e2 : (p n || decide (n = j)) = p n := by rw [decide_eq_false (fun z => e z.symm), Bool.or_false]
      simp only [e2]; omega
/-- one less -/
theorem cnt_del (n : Nat) {p : Nat → Bool} {j : Nat} (hj : j < n) (h : p j = true) : cnt n (fun r => p r && decide (r ≠ j)) + 1 = cnt n p := by
  have e := cnt_ins n (p := fun r => p r && decide (r ≠ j)) hj (by simp)
  rw [← e]
  refine cnt_congr n fun r _ => ?_
  by_cases hr : r = j
  · subst hr; simp [h]
  · simp [hr]
theorem cnt_add (n : Nat) {p q : Nat → Bool} (e : ∀ r, r < n → p r = true → q r = false) : cnt n (fun r => p r || q r) = cnt n p + cnt n q := by
  induction n with
  | zero => rfl
  | succ n ih =>
    simp only [cnt]
    rw [ih fun r hr => e r (Nat.lt_succ_of_lt hr)]
    have h := e n (Nat.lt_succ_self n)
    by_cases hp : p n = true
    · simp [h hp, hp]; omega
    · by_cases hq : q n = true
      · simp [hp, hq]; omega
      · simp [hp, hq]
theorem cnt_ex (n : Nat) {p : Nat → Bool} (h : 0 < cnt n p) : ∃ j, j < n ∧ p j = true := by
  induction n with
  | zero => simp [cnt] at h
  | succ n ih =>
    simp only [cnt] at h
    by_cases hp : p n = true
    · exact ⟨n, Nat.lt_succ_self n, hp⟩
    · rw [if_neg hp] at h
      obtain ⟨j, h1, h2⟩ := ih (by omega)
      exact ⟨j, Nat.lt_succ_of_lt h1, h2⟩

/-! ### more unknowns than equations -/
theorem hom {f : Int} (D : Dom f) (N : Nat) : ∀ (n : Nat) (A B : Nat → Bool) (M : Nat → Nat → Int), cnt N B < cnt n A →
    ∃ c : Nat → Int, (∀ r, A r = false → c r = 0) ∧ (∃ r, r < n ∧ ¬ f ∣ c r) ∧ ∀ i, i < N → B i = true → f ∣ S n (fun j => c j * M j i) := by
  induction N with
  | zero =>
    intro n A B M h
    obtain ⟨j, hj, hA⟩ := cnt_ex n (p := A) (by simp [cnt] at h; omega)
    refine ⟨fun r => if r = j then 1 else 0, fun r hr => ?_, ⟨j, hj, ?_⟩, fun i hi => by omega⟩
    · by_cases e : r = j
      · subst e; rw [hA] at hr; cases hr
      · exact if_neg e
    · show ¬ f ∣ (if j = j then (1 : Int) else 0)
      rw [if_pos rfl]; exact D.one
  | succ N ih =>
    intro n A B M h
    by_cases hB : B N = true
    · have hc : cnt (N + 1) B = cnt N B + 1 := by simp only [cnt]; rw [if_pos hB]
      by_cases hz : ∀ j, j < n → A j = true → f ∣ M j N
      · obtain ⟨c, h1, h2, h3⟩ := ih n A B M (by omega)
        refine ⟨c, h1, h2, fun i hi hb => ?_⟩
        by_cases e : i = N
        · subst e
          refine S_dvd n fun j hj => ?_
          cases hA : A j with
          | true => exact Int.dvd_mul_of_dvd_right (hz j hj hA)
          | false => rw [h1 j hA, Int.zero_mul]; exact Int.dvd_zero f
        · exact h3 i (by omega) hb
      · have ⟨j0, hz⟩ := Classical.not_forall.mp hz
        have ⟨hj, hz⟩ := Classical.not_imp.mp hz
        have ⟨hA, hp⟩ := Classical.not_imp.mp hz
        have hd := cnt_del n hj hA
        obtain ⟨c, h1, ⟨r0, hr0, hr1⟩, h3⟩ := ih n (fun r => A r && decide (r ≠ j0)) B (fun j i => M j0 N * M j i - M j N * M j0 i) (by omega)
        have hcj : c j0 = 0 := h1 j0 (by simp)
        refine ⟨fun r => if r = j0 then - S n (fun j => c j * M j N) else M j0 N * c r, fun r hr => ?_, ⟨r0, hr0, ?_⟩, fun i hi hb => ?_⟩
        · by_cases e : r = j0
          · subst e; rw [hA] at hr; cases hr
          · show (if r = j0 then _ else M j0 N * c r) = 0
            rw [if_neg e, h1 r (by simp [hr]), Int.mul_zero]
        · have e : r0 ≠ j0 := fun z => hr1 (by rw [z, hcj]; exact Int.dvd_zero f)
          show ¬ f ∣ (if r0 = j0 then _ else M j0 N * c r0)
          rw [if_neg e]
          exact fun z => (D.dom _ _ z).elim hp hr1
        · have e : S n (fun j => (if j = j0 then - S n (fun j => c j * M j N) else M j0 N * c j) * M j i) = S n (fun j => c j * (M j0 N * M j i - M j N * M j0 i)) := by
            have e1 : S n (fun j => (if j = j0 then - S n (fun j => c j * M j N) else M j0 N * c j) * M j i)
                = S n (fun j => if j = j0 then (- S n (fun j => c j * M j N)) * M j0 i else M j0 N * c j * M j i) :=
              S_congr n fun r _ => by
                by_cases q : r = j0
                · subst q; rw [if_pos rfl, if_pos rfl]
                · rw [if_neg q, if_neg q]
            rw [e1, S_at n hj _ (fun j => M j0 N * c j * M j i)]
            have e2 : S n (fun j => c j * (M j0 N * M j i - M j N * M j0 i)) = S n (fun j => M j0 N * c j * M j i) + (- S n (fun j => c j * M j N)) * M j0 i := by
              have e3 : (- S n (fun j => c j * M j N)) * M j0 i = S n (fun j => (- M j0 i) * (c j * M j N)) := by
                rw [S_mul, Int.neg_mul, Int.neg_mul, Int.mul_comm]
              rw [e3, ← S_add]
              refine S_congr n fun r _ => ?_
              rw [Int.mul_sub, Int.neg_mul, ← Int.sub_eq_add_neg]
              congr 1
              · rw [← Int.mul_assoc, Int.mul_comm (c r)]
              · rw [← Int.mul_assoc, Int.mul_comm (M j0 i)]
            rw [e2, hcj]
            simp only [Int.mul_zero, Int.zero_mul]
            omega
          show f ∣ S n (fun j => (if j = j0 then - S n (fun j => c j * M j N) else M j0 N * c j) * M j i)
          rw [e]
          by_cases q : i = N
          · subst q
            refine S_dvd n fun j _ => ?_
            have z : M j0 i * M j i - M j i * M j0 i = 0 := by rw [Int.mul_comm]; omega
            rw [z, Int.mul_zero]; exact Int.dvd_zero f
          · exact h3 i (by omega) hb
    · have hc : cnt (N + 1) B = cnt N B := by simp only [cnt]; rw [if_neg hB]; omega
      obtain ⟨c, h1, h2, h3⟩ := ih n A B M (by omega)
      refine ⟨c, h1, h2, fun i hi hb => ?_⟩
      by_cases e : i = N
      · subst e; exact absurd hb hB
      · exact h3 i (by omega) hb

/-! ### free sets of rows, spans -/
section
variable (f : Int) (w n : Nat) (T : Nat → Nat → Int)
/-- the rows below n that p tells are free -/
def Free (p : Nat → Bool) : Prop := ∀ c : Nat → Int, (∀ r, p r = false → c r = 0) → (∀ k, k < w → f ∣ S n (fun r => c r * T r k)) → ∀ r, r < n → f ∣ c r
/-- v is made of the rows of p -/
def Span (p : Nat → Bool) (v : Nat → Int) : Prop := ∃ (d : Int) (c : Nat → Int), ¬ f ∣ d ∧ (∀ r, p r = false → c r = 0) ∧ ∀ k, k < w → f ∣ d * v k - S n (fun r => c r * T r k)
end
section
variable {f : Int} {w n : Nat} {T : Nat → Nat → Int} {p q : Nat → Bool}
theorem Free.sub (h : Free f w n T q) (s : ∀ r, p r = true → q r = true) : Free f w n T p := fun c h1 h2 => h c (fun r hr => h1 r (by
  cases e : p r with
  | true => rw [s r e] at hr; cases hr
  | false => rfl)) h2
theorem Free.congr (h : Free f w n T q) (s : ∀ r, p r = q r) : Free f w n T p := h.sub fun r hr => by rw [← s r]; exact hr
theorem Free.empty (e : ∀ r, p r = false) : Free f w n T p := fun c h1 _ r _ => by rw [h1 r (e r)]; exact Int.dvd_zero f
theorem Span.mem (D : Dom f) {x : Nat} (hx : x < n) (h : p x = true) : Span f w n T p (T x) := by
  refine ⟨1, fun r => if r = x then 1 else 0, D.one, fun r hr => ?_, fun k _ => ?_⟩
  · by_cases e : r = x
    · subst e; rw [h] at hr; cases hr
    · exact if_neg e
  · have e : S n (fun r => (if r = x then 1 else 0) * T r k) = T x k := by
      rw [← S_one n hx (T x k)]
      refine S_congr n fun r _ => ?_
      by_cases e : r = x
      · subst e; rw [if_pos rfl, if_pos rfl, Int.one_mul]
      · rw [if_neg e, if_neg e, Int.zero_mul]
    rw [e, Int.one_mul, Int.sub_self]; exact Int.dvd_zero f
theorem Span.mono {v : Nat → Int} (h : Span f w n T p v) (s : ∀ r, p r = true → q r = true) : Span f w n T q v := by
  obtain ⟨d, c, h1, h2, h3⟩ := h
  exact ⟨d, c, h1, fun r hr => h2 r (by
    cases e : p r with
    | true => rw [s r e] at hr; cases hr
    | false => rfl), h3⟩
/-- a free set within a span has no more rows -/
theorem steinitz (D : Dom f) (hA : Free f w n T p) (h : ∀ r, r < n → p r = true → Span f w n T q (T r)) : cnt n p ≤ cnt n q := by
  refine Nat.le_of_not_lt fun hlt => ?_
  have ex : ∀ r, ∃ (d : Int) (c : Nat → Int), r < n → p r = true → (¬ f ∣ d ∧ (∀ b, q b = false → c b = 0) ∧ ∀ k, k < w → f ∣ d * T r k - S n (fun b => c b * T b k)) := fun r => by
    by_cases hr : r < n
    · by_cases hp : p r = true
      · obtain ⟨d, c, z⟩ := h r hr hp
        exact ⟨d, c, fun _ _ => z⟩
      · exact ⟨0, fun _ => 0, fun _ z => absurd z hp⟩
    · exact ⟨0, fun _ => 0, fun z => absurd z hr⟩
  have ⟨d, ex⟩ := Classical.axiomOfChoice ex
  have ⟨be, ex⟩ := Classical.axiomOfChoice ex
  obtain ⟨c, h1, ⟨r0, hr0, hr1⟩, h3⟩ := hom D n n p q be hlt
  have hp0 : p r0 = true := by
    cases e : p r0 with
    | true => rfl
    | false => exact absurd (by rw [h1 r0 e]; exact Int.dvd_zero f) hr1
  have z := hA (fun r => c r * d r) (fun r hr => by rw [h1 r hr, Int.zero_mul]) (fun k hk => ?_) r0 hr0
  · exact (D.dom _ _ z).elim hr1 (ex r0 hr0 hp0).1
  · -- sum of c d T = sum of c (d T - B) + sum of c B
    have e : S n (fun r => c r * d r * T r k) = S n (fun r => c r * (d r * T r k - S n (fun b => be r b * T b k))) + S n (fun b => S n (fun r => c r * be r b) * T b k) := by
      have e1 : S n (fun b => S n (fun r => c r * be r b) * T b k) = S n (fun r => c r * S n (fun b => be r b * T b k)) := by
        have e2 : S n (fun b => S n (fun r => c r * be r b) * T b k) = S n (fun b => S n (fun r => c r * (be r b * T b k))) := by
          refine S_congr n fun b _ => ?_
          rw [Int.mul_comm, ← S_mul]
          exact S_congr n fun r _ => by rw [Int.mul_comm (T b k), Int.mul_assoc]
        rw [e2, S_swap]
        exact S_congr n fun r _ => S_mul n (c r) _
      rw [e1, ← S_add]
      exact S_congr n fun r _ => by rw [Int.mul_sub, Int.mul_assoc]; omega
    rw [e]
    refine Int.dvd_add (S_dvd n fun r hr => ?_) (S_dvd n fun b hb => ?_)
    · cases hp : p r with
      | true => exact Int.dvd_mul_of_dvd_right ((ex r hr hp).2.2 k hk)
      | false => rw [h1 r hp, Int.zero_mul]; exact Int.dvd_zero f
    · cases hq : q b with
      | true => exact Int.dvd_mul_of_dvd_left (h3 b hb hq)
      | false =>
        have z : S n (fun r => c r * be r b) = 0 := S_zero n fun r hr => by
          cases hp : p r with
          | true => rw [(ex r hr hp).2.1 b hq, Int.mul_zero]
          | false => rw [h1 r hp, Int.zero_mul]
        rw [z, Int.zero_mul]; exact Int.dvd_zero f
/-- a row that is not made of a free set joins it -/
theorem Free.ins (h : Free f w n T p) {x : Nat} (hx : x < n) (hp : p x = false) (hn : ¬ Span f w n T p (T x)) : Free f w n T (fun r => p r || decide (r = x)) := by
  intro c h1 h2
  have e : ∀ k, S n (fun r => c r * T r k) = S n (fun r => (if r = x then 0 else c r) * T r k) + c x * T x k := fun k => by
    have e1 : S n (fun r => (if r = x then 0 else c r) * T r k) = S n (fun r => if r = x then 0 else c r * T r k) := S_congr n fun r _ => by
      by_cases q : r = x
      · rw [if_pos q, if_pos q, Int.zero_mul]
      · rw [if_neg q, if_neg q]
    rw [e1, S_at n hx 0 fun r => c r * T r k]; omega
  have hc : f ∣ c x := Classical.byContradiction fun hc => hn ⟨c x, fun r => - (if r = x then 0 else c r), hc, fun r hr => by
      show - (if r = x then 0 else c r) = 0
      by_cases q : r = x
      · rw [if_pos q]; rfl
      · rw [if_neg q, h1 r (by simp [hr, q])]; rfl, fun k hk => by
      have e2 : S n (fun r => -(if r = x then 0 else c r) * T r k) = - S n (fun r => (if r = x then 0 else c r) * T r k) := by
        rw [← S_neg]; exact S_congr n fun r _ => by rw [Int.neg_mul]
      rw [e2]
      have z := h2 k hk
      rw [e k] at z
      have q : c x * T x k - -S n (fun r => (if r = x then 0 else c r) * T r k) = S n (fun r => (if r = x then 0 else c r) * T r k) + c x * T x k := by omega
      rw [q]; exact z⟩
  intro r hr
  by_cases q : r = x
  · rw [q]; exact hc
  · have z := h (fun r => if r = x then 0 else c r) (fun r hr => by
      by_cases q : r = x
      · rw [if_pos q]
      · rw [if_neg q, h1 r (by simp [hr, q])]) (fun k hk => by
      have z := h2 k hk
      rw [e k] at z
      exact (Int.dvd_iff_dvd_of_dvd_add z).mpr (Int.dvd_mul_of_dvd_left hc)) r hr
    rwa [if_neg q] at z
/-- an exchange -/
theorem Free.exch (D : Dom f) (h : Free f w n T p) {x y : Nat} {d : Int} {c : Nat → Int} (hx : x < n) (hy : y < n) (hpx : p x = false) (hpy : p y = true) (hd : ¬ f ∣ d) (hc : ∀ r, p r = false → c r = 0) (hcy : ¬ f ∣ c y)
    (hr : ∀ k, k < w → f ∣ d * T x k - S n (fun r => c r * T r k)) : Free f w n T (fun r => (p r && decide (r ≠ y)) || decide (r = x)) := by
  intro e h1 h2
  have hxy : x ≠ y := fun z => by rw [z, hpy] at hpx; cases hpx
  -- e on p without x
  have s1 : ∀ k, S n (fun r => e r * T r k) = S n (fun r => (if r = x then 0 else e r) * T r k) + e x * T x k := fun k => by
    have e1 : S n (fun r => (if r = x then 0 else e r) * T r k) = S n (fun r => if r = x then 0 else e r * T r k) := S_congr n fun r _ => by
      by_cases q : r = x
      · rw [if_pos q, if_pos q, Int.zero_mul]
      · rw [if_neg q, if_neg q]
    rw [e1, S_at n hx 0 fun r => e r * T r k]; omega
  have z : ∀ r, r < n → f ∣ d * (if r = x then 0 else e r) + e x * c r := h (fun r => d * (if r = x then 0 else e r) + e x * c r) (fun r hr => by
      rw [hc r hr, Int.mul_zero]
      by_cases q : r = x
      · rw [if_pos q, Int.mul_zero]; rfl
      · rw [if_neg q, h1 r (by simp [hr, q]), Int.mul_zero]; rfl) (fun k hk => by
    have q : S n (fun r => (d * (if r = x then 0 else e r) + e x * c r) * T r k) = d * S n (fun r => e r * T r k) - e x * (d * T x k - S n (fun r => c r * T r k)) := by
      rw [s1 k]
      have a1 : S n (fun r => (d * (if r = x then 0 else e r) + e x * c r) * T r k) = S n (fun r => d * ((if r = x then 0 else e r) * T r k)) + S n (fun r => e x * (c r * T r k)) := by
        rw [← S_add]; exact S_congr n fun r _ => by rw [Int.add_mul, Int.mul_assoc, Int.mul_assoc]
      rw [a1, S_mul, S_mul, Int.mul_add, Int.mul_sub, ← Int.mul_assoc d (e x), ← Int.mul_assoc (e x) d, Int.mul_comm d (e x)]
      omega
    rw [q]
    exact Int.dvd_sub (Int.dvd_mul_of_dvd_right (h2 k hk)) (Int.dvd_mul_of_dvd_right (hr k hk)))
  have ey : e y = 0 := h1 y (by simp [hxy.symm])
  have hex : f ∣ e x := by
    have q := z y hy
    rw [if_neg hxy.symm, ey, Int.mul_zero, Int.zero_add] at q
    exact (D.dom _ _ q).elim id fun q => absurd q hcy
  intro r hr
  by_cases q : r = x
  · rw [q]; exact hex
  · have q' := z r hr
    rw [if_neg q] at q'
    have q2 : f ∣ d * e r := (Int.dvd_iff_dvd_of_dvd_add q').mpr (Int.dvd_mul_of_dvd_left hex)
    exact (D.dom _ _ q2).elim (fun q => absurd q hd) id
end

/-! ### the fields -/
theorem dom_zero : Dom 0 where
  dom := fun a b h => by
    have e : a * b = 0 := Int.zero_dvd.mp h
    rcases Int.mul_eq_zero.mp e with h | h
    · exact .inl (Int.zero_dvd.mpr h)
    · exact .inr (Int.zero_dvd.mpr h)
  one := fun h => by
    have e : (1 : Int) = 0 := Int.zero_dvd.mp h
    omega
theorem dom_prime {p : Nat} (h1 : 1 < p) (h : ∀ r, r < p → 0 < r → Nat.gcd r p = 1) : Dom (p : Int) where
  dom := fun a b hab => by
    rw [← Int.natAbs_dvd_natAbs, Int.natAbs_mul] at hab
    rw [← Int.natAbs_dvd_natAbs, ← Int.natAbs_dvd_natAbs]
    have e : (p : Int).natAbs = p := Int.natAbs_natCast p
    rw [e] at hab ⊢
    by_cases hd : p ∣ a.natAbs
    · exact .inl hd
    · right
      have hr : 0 < a.natAbs % p := Nat.pos_of_ne_zero fun z => hd (Nat.dvd_of_mod_eq_zero z)
      have g : Nat.gcd p a.natAbs = 1 := by rw [Nat.gcd_rec]; exact h _ (Nat.mod_lt _ (by omega)) hr
      exact Nat.Coprime.dvd_of_dvd_mul_left (show Nat.Coprime p a.natAbs from g) hab
  one := fun hd => by
    have e := Int.le_of_dvd (by omega) hd
    omega
/-- the fields that a table can have -/
def fields : List Int := [0, 2, 3, 5, 7, 11, 13]
theorem dom_of {f : Int} (h : f ∈ fields) : Dom f := by
  simp only [fields, List.mem_cons, List.not_mem_nil, or_false] at h
  rcases h with rfl | rfl | rfl | rfl | rfl | rfl | rfl
  · exact dom_zero
  · exact dom_prime (p := 2) (by decide) (by decide)
  · exact dom_prime (p := 3) (by decide) (by decide)
  · exact dom_prime (p := 5) (by decide) (by decide)
  · exact dom_prime (p := 7) (by decide) (by decide)
  · exact dom_prime (p := 11) (by decide) (by decide)
  · exact dom_prime (p := 13) (by decide) (by decide)
end KP
end
section
/-! The web of places in plain Lean: the search level by level, the chain, the exchange along it, why it moves as few rows as can be; no program in sight. -/
namespace KP
/-- an entry of what is reached: the thing, from where, its level -/
structure RE where
  th : Nat
  via : Option (Nat × Nat)
  lev : Nat
abbrev Rch := List RE
def keysR (R : Rch) : List Nat := R.map (·.th)

section
variable (step : Nat → Nat → Option (List Nat))
/-- the lots, one after another, for a thing of level j -/
def bfsNum (t j : Nat) : List Nat → Rch → List Nat → (Rch × Nat × Nat) ⊕ (Rch × List Nat)
  | [], R, later => .inr (R, later)
  | i :: is, R, later => match step i t with
    | none => .inl (R, t, i)
    | some ks => bfsNum t j is (R ++ (ks.filter fun o => !(keysR R).contains o).map (fun o => ⟨o, some (t, i), j + 1⟩)) (later ++ ks.filter fun o => !(keysR R).contains o)
/-- the things of a level -/
def bfsLev (count j : Nat) : List Nat → Rch → List Nat → (Rch × Nat × Nat) ⊕ (Rch × List Nat)
  | [], R, later => .inr (R, later)
  | t :: ts, R, later => match bfsNum step t j (List.range count) R later with
    | .inl z => .inl z
    | .inr (R', later') => bfsLev count j ts R' later'
/-- level by level; none: out of fuel -/
def bfs (count : Nat) : Nat → Nat → Rch → List Nat → Option (Rch × Option (Nat × Nat))
  | _, _, R, [] => some (R, none)
  | 0, _, _, _ :: _ => none
  | m + 1, j, R, t :: ts => match bfsLev step count j (t :: ts) R [] with
    | .inl (R', z) => some (R', some z)
    | .inr (R', later) => bfs count m (j + 1) R' later
end

section
variable {step : Nat → Nat → Option (List Nat)} {n count x : Nat}
/-- what a look from t into lot i gave is reached -/
def Expd (step : Nat → Nat → Option (List Nat)) (R : Rch) (t i l : Nat) : Prop := ∃ ks, step i t = some ks ∧ ∀ o, o ∈ ks → ∃ e, e ∈ R ∧ e.th = o ∧ e.lev ≤ l + 1
theorem Expd.mono {R R' : Rch} {t i l : Nat} (h : Expd step R t i l) (s : ∀ e, e ∈ R → e ∈ R') : Expd step R' t i l := by
  obtain ⟨ks, h1, h2⟩ := h
  exact ⟨ks, h1, fun o ho => let ⟨e, a, b⟩ := h2 o ho; ⟨e, s e a, b⟩⟩
/-- what holds of what is reached at any time -/
structure RBase (step : Nat → Nat → Option (List Nat)) (n count x : Nat) (R : Rch) : Prop where
  nd : (keysR R).Nodup
  bd : ∀ e, e ∈ R → e.th < n
  pre : ∀ e, e ∈ R → ∀ p i, e.via = some (p, i) → i < count ∧ ∃ e', e' ∈ R ∧ e'.th = p ∧ e.lev = e'.lev + 1 ∧ ∃ ks, step i p = some ks ∧ e.th ∈ ks
  root : ∀ e, e ∈ R → e.via = none → e.th = x ∧ e.lev = 0
  start : (⟨x, none, 0⟩ : RE) ∈ R
theorem RBase.uniq {R : Rch} (b : RBase step n count x R) {e e' : RE} (h : e ∈ R) (h' : e' ∈ R) (q : e.th = e'.th) : e = e' := by
  have nd := b.nd
  clear b
  induction R with
  | nil => cases h
  | cons a r ih =>
    have nd' : (a.th :: keysR r).Nodup := nd
    obtain ⟨n1, n2⟩ := List.nodup_cons.mp nd'
    rcases List.mem_cons.mp h with rfl | h1
    · rcases List.mem_cons.mp h' with rfl | h2
      · rfl
      · exact absurd (List.mem_map.mpr ⟨e', h2, q.symm⟩) n1
    · rcases List.mem_cons.mp h' with rfl | h2
      · exact absurd (List.mem_map.mpr ⟨e, h1, q⟩) n1
      · exact ih h1 h2 n2
/-- .. within level j, todo: the looks that are left -/
structure RLev (step : Nat → Nat → Option (List Nat)) (n count x : Nat) (R : Rch) (later : List Nat) (j : Nat) (todo : Nat → Nat → Prop) : Prop where
  base : RBase step n count x R
  le : ∀ e, e ∈ R → e.lev ≤ j + 1
  exp : ∀ e, e ∈ R → e.lev ≤ j → ∀ i, i < count → todo e.th i ∨ Expd step R e.th i e.lev
  tk : ∀ t i, todo t i → ∃ e, e ∈ R ∧ e.th = t ∧ e.lev = j
  lat : ∀ t, t ∈ later ↔ ∃ e, e ∈ R ∧ e.th = t ∧ e.lev = j + 1
/-- the end: a thing for which a lot has room -/
structure Sink (step : Nat → Nat → Option (List Nat)) (n count x : Nat) (R : Rch) (t i j : Nat) : Prop where
  base : RBase step n count x R
  at_ : ∃ e, e ∈ R ∧ e.th = t ∧ e.lev = j
  room : step i t = none
  lt : i < count
  le : ∀ e, e ∈ R → e.lev ≤ j + 1
  exp : ∀ e, e ∈ R → e.lev < j → ∀ i, i < count → Expd step R e.th i e.lev
/-- the end: no such thing -/
structure Closed (step : Nat → Nat → Option (List Nat)) (n count x : Nat) (R : Rch) : Prop where
  base : RBase step n count x R
  exp : ∀ e, e ∈ R → ∀ i, i < count → ∃ ks, step i e.th = some ks ∧ ∀ o, o ∈ ks → o ∈ keysR R

/-- what the looks give -/
structure StepOk (step : Nat → Nat → Option (List Nat)) (n count : Nat) : Prop where
  nd : ∀ i t ks, i < count → t < n → step i t = some ks → ks.Nodup
  bd : ∀ i t ks, i < count → t < n → step i t = some ks → ∀ o, o ∈ ks → o < n

theorem num_ok (so : StepOk step n count) {t j : Nat} : ∀ (is : List Nat) (R : Rch) (later : List Nat) (rest : Nat → Nat → Prop),
    (∀ i, i ∈ is → i < count) → (∃ e, e ∈ R ∧ e.th = t ∧ e.lev = j) → RLev step n count x R later j (fun t' i' => (t' = t ∧ i' ∈ is) ∨ rest t' i') →
    (∃ R' i, bfsNum step t j is R later = .inl (R', t, i) ∧ Sink step n count x R' t i j) ∨
    (∃ R' later', bfsNum step t j is R later = .inr (R', later') ∧ RLev step n count x R' later' j rest ∧ (∀ e, e ∈ R → e ∈ R') ∧ R'.length = R.length + (later'.length - later.length) ∧ later.length ≤ later'.length)
  | [], R, later, rest, _, _, L => .inr ⟨R, later, rfl, ⟨L.base, L.le, fun e he hl i hi => (L.exp e he hl i hi).imp (fun z => z.elim (fun z => nomatch z.2) id) id, fun t' i z => L.tk t' i (.inr z), L.lat⟩, fun _ h => h, by omega, Nat.le_refl _⟩
  | i :: is, R, later, rest, hi, ht, L => by
    cases hs : step i t with
    | none =>
      refine .inl ⟨R, i, by simp only [bfsNum, hs], ⟨L.base, ht, hs, hi i List.mem_cons_self, L.le, fun e he hl k hk => ?_⟩⟩
      rcases L.exp e he (by omega) k hk with z | z
      · obtain ⟨e', a, b, c⟩ := L.tk _ k z
        have q := L.base.uniq he a b.symm
        subst q
        omega
      · exact z
    | some ks =>
      have tn : t < n := let ⟨e, he, q, _⟩ := ht; q ▸ L.base.bd e he
      have hnd := so.nd i t ks (hi i List.mem_cons_self) tn hs
      have hbd := so.bd i t ks (hi i List.mem_cons_self) tn hs
      -- the new entries
      let fr := ks.filter fun o => !(keysR R).contains o
      let R1 : Rch := R ++ fr.map fun o => ⟨o, some (t, i), j + 1⟩
      have frm : ∀ o, o ∈ fr ↔ o ∈ ks ∧ o ∉ keysR R := fun o => by
        simp only [fr, List.mem_filter, Bool.not_eq_true', List.contains_eq_mem, decide_eq_false_iff_not]
      have hsub : ∀ e, e ∈ R → e ∈ R1 := fun e he => List.mem_append_left _ he
      have hnew : ∀ e, e ∈ R1 → e ∈ R ∨ (e.th ∈ fr ∧ e.via = some (t, i) ∧ e.lev = j + 1) := fun e he => by
        rcases List.mem_append.mp he with h | h
        · exact .inl h
        · obtain ⟨o, ho, rfl⟩ := List.mem_map.mp h
          exact .inr ⟨ho, rfl, rfl⟩
      obtain ⟨et, het, hett, hetl⟩ := ht
      have keyst : keysR R1 = keysR R ++ fr := by
        simp only [keysR, R1, List.map_append, List.map_map]
        congr 1
        exact (List.map_congr_left fun _ _ => rfl).trans (List.map_id _)
      have base1 : RBase step n count x R1 := by
        refine ⟨?_, fun e he => ?_, fun e he p k hv => ?_, fun e he hv => ?_, hsub _ L.base.start⟩
        · rw [keyst]
          exact List.nodup_append.mpr ⟨L.base.nd, hnd.sublist List.filter_sublist, fun a ha b hb q => ((frm b).mp hb).2 (q ▸ ha)⟩
        · rcases hnew e he with h | ⟨h, _, _⟩
          · exact L.base.bd e h
          · exact hbd _ ((frm _).mp h).1
        · rcases hnew e he with h | ⟨h, hv', hl'⟩
          · obtain ⟨a, e', b, c, d⟩ := L.base.pre e h p k hv
            exact ⟨a, e', hsub e' b, c, d⟩
          · rw [hv'] at hv
            cases hv
            exact ⟨hi i List.mem_cons_self, et, hsub et het, hett, by omega, ks, hs, ((frm _).mp h).1⟩
        · rcases hnew e he with h | ⟨_, hv', _⟩
          · exact L.base.root e h hv
          · rw [hv'] at hv; cases hv
      have L1 : RLev step n count x R1 (later ++ fr) j (fun t' i' => (t' = t ∧ i' ∈ is) ∨ rest t' i') := by
        refine ⟨base1, fun e he => ?_, fun e he hl k hk => ?_, fun t' k z => ?_, fun t' => ?_⟩
        · rcases hnew e he with h | ⟨_, _, h⟩
          · exact L.le e h
          · omega
        · rcases hnew e he with h | ⟨_, _, h⟩
          · rcases L.exp e h hl k hk with (⟨q1, q2⟩ | z) | z
            · rcases List.mem_cons.mp q2 with rfl | q2
              · right
                have e1 : e = et := L.base.uniq h het (q1.trans hett.symm)
                subst e1
                refine ⟨ks, by rw [q1]; exact hs, fun o ho => ?_⟩
                by_cases hk : o ∈ keysR R
                · obtain ⟨e', a, b⟩ := List.mem_map.mp hk
                  exact ⟨e', hsub e' a, b, by have := L.le e' a; omega⟩
                · exact ⟨⟨o, some (t, k), j + 1⟩, List.mem_append_right _ (List.mem_map.mpr ⟨o, (frm o).mpr ⟨ho, hk⟩, rfl⟩), rfl, by show j + 1 ≤ _; omega⟩
              · exact .inl (.inl ⟨q1, q2⟩)
            · exact .inl (.inr z)
            · exact .inr (z.mono hsub)
          · omega
        · obtain ⟨e', a, b⟩ := L.tk t' k (z.imp (fun q => ⟨q.1, List.mem_cons_of_mem _ q.2⟩) id)
          exact ⟨e', hsub e' a, b⟩
        · constructor
          · intro h
            rcases List.mem_append.mp h with h | h
            · obtain ⟨e, a, b⟩ := (L.lat t').mp h
              exact ⟨e, hsub e a, b⟩
            · exact ⟨⟨t', some (t, i), j + 1⟩, List.mem_append_right _ (List.mem_map.mpr ⟨t', h, rfl⟩), rfl, rfl⟩
          · rintro ⟨e, he, ht', hl⟩
            rcases hnew e he with h | ⟨h, _, _⟩
            · exact List.mem_append_left _ ((L.lat t').mpr ⟨e, h, ht', hl⟩)
            · exact List.mem_append_right _ (ht' ▸ h)
      have ih := num_ok so is R1 (later ++ fr) rest (fun k hk => hi k (List.mem_cons_of_mem _ hk)) ⟨et, hsub et het, hett, hetl⟩ L1
      have hb : bfsNum step t j (i :: is) R later = bfsNum step t j is R1 (later ++ fr) := by simp only [bfsNum, hs]; rfl
      rw [hb]
      have hlen : R1.length = R.length + fr.length := by simp only [R1, List.length_append, List.length_map]
      have hlen2 : (later ++ fr).length = later.length + fr.length := List.length_append
      rcases ih with z | ⟨R', later', a, b, c, d, e⟩
      · exact .inl z
      · exact .inr ⟨R', later', a, b, fun e' he => c e' (hsub e' he), by omega, by omega⟩
theorem RLev.todo {R : Rch} {later : List Nat} {j : Nat} {todo todo' : Nat → Nat → Prop} (L : RLev step n count x R later j todo) (h : ∀ t i, todo t i → i < count → todo' t i) (h' : ∀ t i, todo' t i → ∃ e, e ∈ R ∧ e.th = t ∧ e.lev = j) : RLev step n count x R later j todo' :=
  ⟨L.base, L.le, fun e he hl i hi => (L.exp e he hl i hi).imp (fun z => h _ _ z hi) id, h', L.lat⟩
theorem lev_ok (so : StepOk step n count) {j : Nat} : ∀ (ts : List Nat) (R : Rch) (later : List Nat),
    (∀ t, t ∈ ts → ∃ e, e ∈ R ∧ e.th = t ∧ e.lev = j) → RLev step n count x R later j (fun t' _ => t' ∈ ts) →
    (∃ R' t i, bfsLev step count j ts R later = .inl (R', t, i) ∧ Sink step n count x R' t i j) ∨
    (∃ R' later', bfsLev step count j ts R later = .inr (R', later') ∧ RLev step n count x R' later' j (fun _ _ => False) ∧ R'.length = R.length + (later'.length - later.length) ∧ later.length ≤ later'.length)
  | [], R, later, _, L => .inr ⟨R, later, rfl, L.todo (fun _ _ z _ => nomatch z) (fun _ _ z => z.elim), by omega, Nat.le_refl _⟩
  | t :: ts, R, later, ht, L => by
    have L1 : RLev step n count x R later j (fun t' i' => (t' = t ∧ i' ∈ List.range count) ∨ t' ∈ ts) :=
      L.todo (fun t' i z hi => (List.mem_cons.mp z).imp (fun q => ⟨q, List.mem_range.mpr hi⟩) id) (fun t' i z => by
        rcases z with ⟨q, _⟩ | z
        · rw [q]; exact ht t List.mem_cons_self
        · exact ht t' (List.mem_cons_of_mem _ z))
    rcases num_ok so (List.range count) R later (fun t' _ => t' ∈ ts) (fun i hi => List.mem_range.mp hi) (ht t List.mem_cons_self) L1 with ⟨R', i, a, b⟩ | ⟨R', later', a, b, c, d, e⟩
    · exact .inl ⟨R', t, i, by simp only [bfsLev, a], b⟩
    · have hb : bfsLev step count j (t :: ts) R later = bfsLev step count j ts R' later' := by simp only [bfsLev, a]
      rw [hb]
      rcases lev_ok so ts R' later' (fun t' q => let ⟨e', u, v⟩ := ht t' (List.mem_cons_of_mem _ q); ⟨e', c e' u, v⟩) b with z | ⟨R2, later2, a2, b2, d2, e2⟩
      · exact .inl z
      · exact .inr ⟨R2, later2, a2, b2, by omega, by omega⟩
/-- all entries' things are below n -/
theorem RBase.length_le {R : Rch} (b : RBase step n count x R) : R.length ≤ n := by
  have h : (keysR R).length = R.length := List.length_map ..
  rw [← h]
  have key : ∀ (n : Nat) (l : List Nat), l.Nodup → (∀ a, a ∈ l → a < n) → l.length ≤ n := by
    intro n
    induction n with
    | zero =>
      intro l _ h
      cases l with
      | nil => exact Nat.le_refl 0
      | cons a r => exact absurd (h a List.mem_cons_self) (Nat.not_lt_zero a)
    | succ n ih =>
      intro l hn h
      have e1 : (l.erase n).length ≤ n := ih _ (hn.erase n) fun a ha => by
        have h1 := h a (List.mem_of_mem_erase ha)
        have h2 : a ≠ n := fun q => by rw [q] at ha; exact (List.Nodup.not_mem_erase hn) ha
        omega
      by_cases hm : n ∈ l
      · have := List.length_erase_of_mem hm
        omega
      · rw [List.erase_of_not_mem hm] at e1
        omega
  exact key n _ b.nd fun a ha => by
    obtain ⟨e, he, rfl⟩ := List.mem_map.mp ha
    exact b.bd e he
/-- level by level to the end -/
theorem bfs_ok (so : StepOk step n count) : ∀ (m j : Nat) (R : Rch) (lv : List Nat), (lv ≠ [] → n < m + R.length) → (∀ t, t ∈ lv ↔ ∃ e, e ∈ R ∧ e.th = t ∧ e.lev = j) → (∀ e, e ∈ R → e.lev ≤ j) → RBase step n count x R →
    (∀ e, e ∈ R → e.lev < j → ∀ i, i < count → Expd step R e.th i e.lev) →
    (∃ R' t i k, bfs step count m j R lv = some (R', some (t, i)) ∧ Sink step n count x R' t i k) ∨ (∃ R', bfs step count m j R lv = some (R', none) ∧ Closed step n count x R')
  | m, j, R, [], _, hl, hj, hb, he => .inr ⟨R, by cases m <;> rfl, hb, fun e hm i hi => by
      have h1 : e.lev < j := Nat.lt_of_le_of_ne (hj e hm) fun q => nomatch (hl e.th).mpr ⟨e, hm, rfl, q⟩
      obtain ⟨ks, a, b⟩ := he e hm h1 i hi
      exact ⟨ks, a, fun o ho => let ⟨e', u, v, _⟩ := b o ho; List.mem_map.mpr ⟨e', u, v⟩⟩⟩
  | 0, j, R, t :: ts, hm, _, _, hb, _ => by have := hb.length_le; have := hm (by simp); omega
  | m + 1, j, R, t :: ts, hm, hl, hj, hb, he => by
    have L : RLev step n count x R [] j (fun t' _ => t' ∈ t :: ts) := ⟨hb, fun e h => by have := hj e h; omega, fun e h h2 i hi => by
        by_cases q : e.lev < j
        · exact .inr (he e h q i hi)
        · exact .inl ((hl e.th).mpr ⟨e, h, rfl, by omega⟩), fun t' i z => (hl t').mp z, fun t' => ⟨fun z => (nomatch z), fun ⟨e, a, _, c⟩ => by have := hj e a; omega⟩⟩
    rcases lev_ok so (t :: ts) R [] (fun t' z => (hl t').mp z) L with ⟨R', t', i, a, b⟩ | ⟨R', later, a, b, c, _⟩
    · exact .inl ⟨R', t', i, j, by simp only [bfs, a], b⟩
    · have hbf : bfs step count (m + 1) j R (t :: ts) = bfs step count m (j + 1) R' later := by simp only [bfs, a]
      rw [hbf]
      cases later with
      | nil => exact bfs_ok so m (j + 1) R' [] (fun z => absurd rfl z) b.lat b.le b.base fun e h h2 i hi => (b.exp e h (by omega) i hi).elim False.elim id
      | cons u us => exact bfs_ok so m (j + 1) R' (u :: us) (fun _ => by have := hm (by simp); simp at c; omega) b.lat b.le b.base fun e h h2 i hi => (b.exp e h (by omega) i hi).elim False.elim id
/-- the search from x -/
theorem bfs_from (so : StepOk step n count) (hx : x < n) : (∃ R t i k, bfs step count (n + 1) 0 [⟨x, none, 0⟩] [x] = some (R, some (t, i)) ∧ Sink step n count x R t i k) ∨ (∃ R, bfs step count (n + 1) 0 [⟨x, none, 0⟩] [x] = some (R, none) ∧ Closed step n count x R) := by
  refine bfs_ok so (n + 1) 0 _ [x] (fun _ => by simp; omega) (fun t => ⟨fun h => ⟨_, List.mem_cons_self, (List.mem_singleton.mp h).symm, rfl⟩, fun ⟨e, he, q, _⟩ => ?_⟩) (fun e he => ?_) ⟨?_, fun e he => ?_, fun e he p i hv => ?_, fun e he hv => ?_, List.mem_cons_self⟩ fun e he hl => by omega
  · rw [List.mem_singleton.mp he] at q
    exact List.mem_singleton.mpr q.symm
  · rw [List.mem_singleton.mp he]; exact Nat.le_refl 0
  · exact List.nodup_cons.mpr ⟨fun h => (nomatch h), List.nodup_nil⟩
  · rw [List.mem_singleton.mp he]; exact hx
  · rw [List.mem_singleton.mp he] at hv; cases hv
  · rw [List.mem_singleton.mp he]; exact ⟨rfl, rfl⟩

/-! ### the chain back -/
/-- the things and the lots they go to, from the last one back to x; l: the level of the first of them -/
inductive Path (R : Rch) (x : Nat) : List (Nat × Nat) → Nat → Prop
  | root (i : Nat) : (⟨x, none, 0⟩ : RE) ∈ R → Path R x [(x, i)] 0
  | cons {t p i i' l : Nat} {rest : List (Nat × Nat)} : (⟨t, some (p, i'), l + 1⟩ : RE) ∈ R → Path R x ((p, i') :: rest) l → Path R x ((t, i) :: (p, i') :: rest) (l + 1)
theorem path_ex {R : Rch} (b : RBase step n count x R) : ∀ (l : Nat) (e : RE) (i : Nat), e ∈ R → e.lev = l → ∃ rest, Path R x ((e.th, i) :: rest) l := by
  intro l
  induction l with
  | zero =>
    intro e i he hl
    have hv : e.via = none := by
      cases h : e.via with
      | none => rfl
      | some z =>
        obtain ⟨p, k⟩ := z
        obtain ⟨_, e', _, _, q, _⟩ := b.pre e he p k h
        omega
    have q := (b.root e he hv).1
    exact ⟨[], by rw [q]; exact .root i b.start⟩
  | succ l ih =>
    intro e i he hl
    cases h : e.via with
    | none => have := (b.root e he h).2; omega
    | some z =>
      obtain ⟨p, k⟩ := z
      obtain ⟨_, e', he', q1, q2, _⟩ := b.pre e he p k h
      obtain ⟨rest, hp⟩ := ih e' k he' (by omega)
      rw [q1] at hp
      refine ⟨_, .cons (p := p) (i' := k) ?_ hp⟩
      have e1 : e = ⟨e.th, some (p, k), l + 1⟩ := by rw [← h, ← hl]
      rw [← e1]; exact he
theorem Path.length {R : Rch} {pl : List (Nat × Nat)} {l : Nat} (h : Path R x pl l) : pl.length = l + 1 := by
  induction h with
  | root _ _ => rfl
  | cons _ _ ih => simpa using ih
theorem Path.lev {R : Rch} {pl : List (Nat × Nat)} {l : Nat} (h : Path R x pl l) : ∀ z, z ∈ pl → ∃ e, e ∈ R ∧ e.th = z.1 ∧ e.lev ≤ l := by
  induction h with
  | root i h =>
    intro z hz
    rw [List.mem_singleton.mp hz]
    exact ⟨_, h, rfl, Nat.le_refl 0⟩
  | cons he hp ih =>
    intro z hz
    rcases List.mem_cons.mp hz with rfl | hz
    · exact ⟨_, he, rfl, Nat.le_refl _⟩
    · obtain ⟨e, a, b, c⟩ := ih z hz
      exact ⟨e, a, b, by omega⟩
theorem Path.head {R : Rch} {pl : List (Nat × Nat)} {l : Nat} (h : Path R x pl l) : ∃ t i rest e, pl = (t, i) :: rest ∧ e ∈ R ∧ e.th = t ∧ e.lev = l := by
  cases h with
  | root i h => exact ⟨_, _, _, _, rfl, h, rfl, rfl⟩
  | cons he hp => exact ⟨_, _, _, _, rfl, he, rfl, rfl⟩
theorem Path.nodup {R : Rch} {pl : List (Nat × Nat)} {l : Nat} (b : RBase step n count x R) (h : Path R x pl l) : (pl.map (·.1)).Nodup := by
  induction h with
  | root i h => exact List.nodup_cons.mpr ⟨fun h => (nomatch h), List.nodup_nil⟩
  | @cons t p i i' l rest he hp ih =>
    refine List.nodup_cons.mpr ⟨fun hm => ?_, ih⟩
    obtain ⟨z, hz, q⟩ := List.mem_map.mp hm
    obtain ⟨e, a, c, d⟩ := hp.lev z hz
    have e1 := b.uniq a he (c.trans q)
    rw [e1] at d
    have d' : l + 1 ≤ l := d
    omega
theorem Path.has_x {R : Rch} {pl : List (Nat × Nat)} {l : Nat} (h : Path R x pl l) : x ∈ pl.map (·.1) := by
  induction h with
  | root i h => exact List.mem_cons_self
  | cons he hp ih => exact List.mem_cons_of_mem _ ih
end
end KP
end
section
/-! Exchanges along a shortest chain keep all lots free; no way at all where the search is closed; no way with fewer moves. Plain Lean. -/
namespace KP
section
variable {f : Int} {w n count x : Nat} {T : Nat → Nat → Int} {step : Nat → Nat → Option (List Nat)}
/-- what a look from thing t into lot i means -/
structure StepIs (f : Int) (w n : Nat) (T : Nat → Nat → Int) (step : Nat → Nat → Option (List Nat)) (L : Nat → Nat → Bool) (count : Nat) : Prop where
  own : ∀ i t, i < count → L i t = true → step i t = some []
  sub : ∀ i t ks, i < count → t < n → step i t = some ks → ∀ o, o ∈ ks → L i o = true
  rel : ∀ i t ks, i < count → t < n → L i t = false → step i t = some ks → ∃ (d : Int) (c : Nat → Int), ¬ f ∣ d ∧ (∀ r, r ∉ ks → c r = 0) ∧ (∀ r, r ∈ ks → ¬ f ∣ c r) ∧ ∀ k, k < w → f ∣ d * T t k - S n (fun r => c r * T r k)
  room : ∀ i t, i < count → t < n → step i t = none → L i t = false ∧ ¬ Span f w n T (L i) (T t)
/-- so many free lots, each two apart, with the rows that p tells -/
structure Parts (f : Int) (w n : Nat) (T : Nat → Nat → Int) (count : Nat) (L : Nat → Nat → Bool) (p : Nat → Bool) : Prop where
  free : ∀ i, i < count → Free f w n T (L i)
  inn : ∀ i r, L i r = true → i < count ∧ r < n ∧ p r = true
  cov : ∀ r, p r = true → ∃ i, i < count ∧ L i r = true
  dis : ∀ i i' r, L i r = true → L i' r = true → i = i'

/-- the lots while the chain is walked: dn, the moves that are done, u, the thing that stands in its old lot still -/
def cf (L : Nat → Nat → Bool) (dn : List (Nat × Nat)) (u : Option Nat) (i r : Nat) : Bool := (L i r && (!(dn.map (·.1)).contains r || u == some r)) || dn.contains (r, i)
theorem cf_iff {L : Nat → Nat → Bool} {dn : List (Nat × Nat)} {u : Option Nat} {i r : Nat} : cf L dn u i r = true ↔ (L i r = true ∧ (r ∉ dn.map (·.1) ∨ u = some r)) ∨ (r, i) ∈ dn := by
  simp only [cf, Bool.or_eq_true, Bool.and_eq_true, Bool.not_eq_true', List.contains_eq_mem, decide_eq_false_iff_not, decide_eq_true_eq, beq_iff_eq]

theorem walk_free (D : Dom f) {L : Nat → Nat → Bool} {p : Nat → Bool} (SI : StepIs f w n T step L count) (PL : Parts f w n T count L p) {R : Rch} (B : RBase step n count x R) (hx : ∀ i, L i x = false)
    (hE : ∀ e, e ∈ R → ∀ i, i < count → ∀ ks, step i e.th = some ks → ∀ o, o ∈ ks → ∀ e', e' ∈ R → e'.th = o → e'.lev ≤ e.lev + 1) :
    ∀ {rem : List (Nat × Nat)} {l : Nat}, Path R x rem l → ∀ (dn : List (Nat × Nat)) (u : Option Nat),
      (∀ z, z ∈ dn → L z.2 z.1 = false ∧ ∃ e, e ∈ R ∧ e.th = z.1 ∧ l < e.lev) →
      (∀ t i rest, rem = (t, i) :: rest → i < count ∧ ((dn = [] ∧ u = none ∧ step i t = none) ∨ (∃ u' ks, u = some u' ∧ u' ∈ dn.map (·.1) ∧ step i t = some ks ∧ u' ∈ ks ∧ ∀ r, r ∈ dn.map (·.1) → r ≠ u' → ∀ e, e ∈ R → e.th = r → l + 1 < e.lev))) →
      (∀ i, i < count → Free f w n T (cf L dn u i)) →
      ∀ i, i < count → Free f w n T (cf L (rem.reverse ++ dn) none i) := by
  intro rem l hp
  -- one thing is moved
  have one : ∀ (t i l : Nat) (dn : List (Nat × Nat)) (u : Option Nat), (∃ e, e ∈ R ∧ e.th = t ∧ e.lev = l) →
      (∀ z, z ∈ dn → L z.2 z.1 = false ∧ ∃ e, e ∈ R ∧ e.th = z.1 ∧ l < e.lev) →
      (i < count ∧ ((dn = [] ∧ u = none ∧ step i t = none) ∨ (∃ u' ks, u = some u' ∧ u' ∈ dn.map (·.1) ∧ step i t = some ks ∧ u' ∈ ks ∧ ∀ r, r ∈ dn.map (·.1) → r ≠ u' → ∀ e, e ∈ R → e.th = r → l + 1 < e.lev))) →
      (∀ i, i < count → Free f w n T (cf L dn u i)) → L i t = false ∧ ∀ k, k < count → Free f w n T (cf L ((t, i) :: dn) (some t) k) := by
    intro t i l dn u ⟨e, he, hth, hl⟩ hdn ⟨hi, hst⟩ hF
    have tn : t < n := hth ▸ B.bd e he
    have tdn : t ∉ dn.map (·.1) := fun hm => by
      obtain ⟨z, hz, q⟩ := List.mem_map.mp hm
      obtain ⟨_, e', a, b, c⟩ := hdn z hz
      have := B.uniq he a (hth.trans (q.symm.trans b.symm))
      subst this; omega
    have keep : ∀ k, k ≠ i → ∀ r, cf L dn u k r = true → (∀ u', u = some u' → L i u' = true) → cf L ((t, i) :: dn) (some t) k r = true := fun k hk r h hu => by
      rcases cf_iff.mp h with ⟨h1, h2⟩ | h
      · refine cf_iff.mpr (.inl ⟨h1, ?_⟩)
        by_cases q : r = t
        · exact .inr (by rw [q])
        · rcases h2 with h2 | h2
          · exact .inl fun z => (List.mem_cons.mp z).elim q h2
          · exact absurd (PL.dis k i r h1 (hu r h2)) hk
      · exact cf_iff.mpr (.inr (List.mem_cons_of_mem _ h))
    have keep' : ∀ k, k ≠ i → ∀ r, cf L ((t, i) :: dn) (some t) k r = true → cf L dn u k r = true := fun k hk r h => by
      rcases cf_iff.mp h with ⟨h1, h2⟩ | h
      · refine cf_iff.mpr (.inl ⟨h1, .inl ?_⟩)
        rcases h2 with h2 | h2
        · exact fun z => h2 (List.mem_cons_of_mem _ z)
        · cases h2; exact tdn
      · rcases List.mem_cons.mp h with q | h
        · cases q; exact absurd rfl hk
        · exact cf_iff.mpr (.inr h)
    rcases hst with ⟨rfl, rfl, hno⟩ | ⟨u', ks, rfl, hu', hs, huk, hoth⟩
    · obtain ⟨hLt, hsp⟩ := SI.room i t hi tn hno
      refine ⟨hLt, fun k hk => ?_⟩
      by_cases q : k = i
      · subst q
        refine ((PL.free k hi).ins tn hLt hsp).congr fun r => ?_
        rw [Bool.eq_iff_iff, cf_iff]
        simp only [List.map_cons, List.map_nil, List.mem_singleton, Bool.or_eq_true, decide_eq_true_eq, Prod.mk.injEq, and_true, Option.some.injEq]
        constructor
        · rintro (⟨h, _⟩ | h)
          · exact .inl h
          · exact .inr h
        · rintro (h | h)
          · by_cases z : r = t
            · exact .inr z
            · exact .inl ⟨h, .inl z⟩
          · exact .inr h
      · exact (hF k hk).sub fun r h => keep' k q r h
    · have hLu : L i u' = true := SI.sub i t ks hi tn hs u' huk
      have hLt : L i t = false := by
        cases h : L i t with
        | false => rfl
        | true =>
          have := SI.own i t hi h
          rw [hs] at this
          cases this; cases huk
      refine ⟨hLt, fun k hk => ?_⟩
      by_cases q : k = i
      · subst q
        obtain ⟨d, c, hd, hc0, hc1, hr⟩ := SI.rel k t ks hi tn hLt hs
        have un : u' < n := (PL.inn k u' hLu).2.1
        have cft : cf L dn (some u') k t = false := by
          cases h : cf L dn (some u') k t with
          | false => rfl
          | true =>
            rcases cf_iff.mp h with ⟨h1, _⟩ | h
            · rw [hLt] at h1; cases h1
            · exact absurd (List.mem_map.mpr ⟨_, h, rfl⟩) tdn
        have cfu : cf L dn (some u') k u' = true := cf_iff.mpr (.inl ⟨hLu, .inr rfl⟩)
        have cfk : ∀ o, o ∈ ks → cf L dn (some u') k o = true := fun o ho => by
          refine cf_iff.mpr (.inl ⟨SI.sub k t ks hi tn hs o ho, ?_⟩)
          by_cases z : o = u'
          · exact .inr (by rw [z])
          · refine .inl fun hm => ?_
            obtain ⟨z', hz', q'⟩ := List.mem_map.mp hm
            obtain ⟨_, e', a, b, _⟩ := hdn z' hz'
            have h1 := hoth o hm z e' a (b.trans q')
            have h2 := hE e he k hi ks (by rw [hth]; exact hs) o ho e' a (b.trans q')
            omega
        refine ((hF k hi).exch D (x := t) (y := u') (d := d) (c := c) tn un cft cfu hd (fun r hr => hc0 r fun hm => by rw [cfk r hm] at hr; cases hr) (hc1 u' huk) hr).congr fun r => ?_
        rw [Bool.eq_iff_iff, cf_iff]
        simp only [Bool.or_eq_true, Bool.and_eq_true, decide_eq_true_eq, cf_iff, List.map_cons, List.mem_cons, Prod.mk.injEq, and_true, Option.some.injEq]
        constructor
        · rintro (⟨h1, h2⟩ | h | h)
          · by_cases z : r = t
            · exact .inr z
            · refine .inl ⟨.inl ⟨h1, .inl fun hm => ?_⟩, fun hu => ?_⟩
              · rcases h2 with h2 | h2
                · exact h2 (.inr hm)
                · exact z h2.symm
              · subst hu
                rcases h2 with h2 | h2
                · exact h2 (.inr hu')
                · exact z h2.symm
          · exact .inr h
          · refine .inl ⟨.inr h, fun hu => ?_⟩
            subst hu
            have := (hdn _ h).1
            rw [hLu] at this; cases this
        · rintro (⟨⟨h1, h2⟩ | h, h3⟩ | h)
          · refine .inl ⟨h1, ?_⟩
            by_cases z : r = t
            · exact .inr z.symm
            · rcases h2 with h2 | h2
              · exact .inl fun hm => hm.elim z h2
              · exact absurd h2.symm h3
          · exact .inr (.inr h)
          · exact .inr (.inl h)
      · exact (hF k hk).congr fun r => by
          rw [Bool.eq_iff_iff]
          exact ⟨keep' k q r, fun h => keep k q r h fun v hv => by cases hv; exact hLu⟩
  induction hp with
  | root i he =>
    intro dn u hdn hst hF k hk
    obtain ⟨hLt, h⟩ := one x i 0 dn u ⟨_, he, rfl, rfl⟩ hdn (hst x i [] rfl) hF
    refine (h k hk).congr fun r => ?_
    rw [Bool.eq_iff_iff, cf_iff, cf_iff]
    simp only [List.reverse_cons, List.reverse_nil, List.nil_append, List.singleton_append]
    constructor
    · rintro (⟨h1, h2⟩ | h)
      · exact .inl ⟨h1, h2.elim .inl fun z => nomatch z⟩
      · exact .inr h
    · rintro (⟨h1, h2⟩ | h)
      · rcases h2 with h2 | h2
        · exact .inl ⟨h1, .inl h2⟩
        · cases h2
          rw [hx k] at h1; cases h1
      · exact .inr h
  | @cons t q i i' l rest he hp ih =>
    intro dn u hdn hst hF k hk
    obtain ⟨hLt, h⟩ := one t i (l + 1) dn u ⟨_, he, rfl, rfl⟩ hdn (hst t i _ rfl) hF
    have e1 : ((t, i) :: (q, i') :: rest).reverse ++ dn = ((q, i') :: rest).reverse ++ (t, i) :: dn := by
      rw [List.reverse_cons, List.append_assoc, List.singleton_append]
    rw [e1]
    refine ih ((t, i) :: dn) (some t) (fun z hz => ?_) (fun t2 i2 rest2 hr => ?_) h k hk
    · rcases List.mem_cons.mp hz with rfl | hz
      · exact ⟨hLt, _, he, rfl, Nat.lt_succ_self l⟩
      · obtain ⟨a, e, b, c, d⟩ := hdn z hz
        exact ⟨a, e, b, c, by omega⟩
    · cases hr
      obtain ⟨hi', e', he', q1, q2, ks, q3, q4⟩ := B.pre _ he q i' rfl
      refine ⟨hi', .inr ⟨t, ks, rfl, List.mem_cons_self, q3, q4, fun r hr hne e2 he2 hth2 => ?_⟩⟩
      rcases List.mem_cons.mp hr with z | hr
      · exact absurd z hne
      · obtain ⟨z, hz, q'⟩ := List.mem_map.mp hr
        obtain ⟨_, e3, a, b, c⟩ := hdn z hz
        have := B.uniq he2 a (hth2.trans (q'.symm.trans b.symm))
        subst this; omega

/-- the lots behind the moves pl -/
def moved (L : Nat → Nat → Bool) (pl : List (Nat × Nat)) (i r : Nat) : Bool := (L i r && !(pl.map (·.1)).contains r) || pl.contains (r, i)
theorem moved_iff {L : Nat → Nat → Bool} {pl : List (Nat × Nat)} {i r : Nat} : moved L pl i r = true ↔ (L i r = true ∧ r ∉ pl.map (·.1)) ∨ (r, i) ∈ pl := by
  simp only [moved, Bool.or_eq_true, Bool.and_eq_true, Bool.not_eq_true', List.contains_eq_mem, decide_eq_false_iff_not, decide_eq_true_eq]

/-- THE EXCHANGE: behind the moves of a chain all lots are free again, with x -/
theorem augment (D : Dom f) {L : Nat → Nat → Bool} {p : Nat → Bool} (SI : StepIs f w n T step L count) (PL : Parts f w n T count L p) (hxn : x < n) (hpx : p x = false) {R : Rch} {t i j : Nat} (K : Sink step n count x R t i j)
    {pl : List (Nat × Nat)} (hp : Path R x pl j) (hh : ∃ rest, pl = (t, i) :: rest) : Parts f w n T count (moved L pl) (fun r => p r || decide (r = x)) ∧ (∀ z, z ∈ pl → z.2 < count ∧ L z.2 z.1 = false ∧ z.1 < n) := by
  have B := K.base
  have hx : ∀ i, L i x = false := fun i => by
    cases h : L i x with
    | false => rfl
    | true => rw [(PL.inn i x h).2.2] at hpx; cases hpx
  -- the looks of a thing that is reached: of a level at most one higher
  have hE : ∀ e, e ∈ R → ∀ i, i < count → ∀ ks, step i e.th = some ks → ∀ o, o ∈ ks → ∀ e', e' ∈ R → e'.th = o → e'.lev ≤ e.lev + 1 := fun e he i hi ks hs o ho e' he' ho' => by
    by_cases hl : e.lev < j
    case neg => have := K.le e' he'; omega
    obtain ⟨ks', a, b⟩ := K.exp e he hl i hi
    rw [hs] at a; cases a
    obtain ⟨e2, u, v, w'⟩ := b o ho
    have := B.uniq he' u (ho'.trans v.symm)
    subst this; exact w'
  -- the last thing's level is the highest that counts: entries above j + 1 are of no lot's look below j
  have hlt : ∀ z, z ∈ pl → z.2 < count ∧ L z.2 z.1 = false ∧ z.1 < n := by
    obtain ⟨rest, rfl⟩ := hh
    have gen : ∀ {rem : List (Nat × Nat)} {l : Nat}, Path R x rem l → (∀ t i rest, rem = (t, i) :: rest → i < count ∧ L i t = false) → ∀ z, z ∈ rem → z.2 < count ∧ L z.2 z.1 = false ∧ z.1 < n := by
      intro rem l hp
      induction hp with
      | root i he =>
        intro h z hz
        rw [List.mem_singleton.mp hz]
        exact ⟨(h x i [] rfl).1, (h x i [] rfl).2, hxn⟩
      | @cons t q i i' l rest he hp ih =>
        intro h z hz
        rcases List.mem_cons.mp hz with rfl | hz
        · exact ⟨(h t i _ rfl).1, (h t i _ rfl).2, B.bd _ he⟩
        · refine ih (fun t2 i2 rest2 hr => ?_) z hz
          cases hr
          obtain ⟨hi', e', he', q1, q2, ks, q3, q4⟩ := B.pre _ he q i' rfl
          refine ⟨hi', ?_⟩
          cases hL : L i' q with
          | false => rfl
          | true =>
            have := SI.own i' q hi' hL
            rw [q3] at this
            cases this; cases q4
    refine gen hp fun t2 i2 rest2 hr => ?_
    cases hr
    obtain ⟨e, he, hth, _⟩ := K.at_
    exact ⟨K.lt, (SI.room i t K.lt (hth ▸ B.bd e he) K.room).1⟩
  have hin : ∀ e, e ∈ R → e.th = x ∨ p e.th = true := fun e he => by
    cases hv : e.via with
    | none => exact .inl (B.root e he hv).1
    | some z =>
      obtain ⟨q, k⟩ := z
      obtain ⟨hk, e1, he1, hth1, _, ks, a, b⟩ := B.pre e he q k hv
      exact .inr (PL.inn k _ (SI.sub k q ks hk (hth1 ▸ B.bd e1 he1) a _ b)).2.2
  refine ⟨⟨fun k hk => ?_, fun k r h => ?_, fun r h => ?_, fun k k' r h h' => ?_⟩, hlt⟩
  · -- free
    obtain ⟨rest, rfl⟩ := hh
    have q : Free f w n T (cf L (((t, i) :: rest).reverse ++ []) none k) := by
      refine walk_free D SI PL B hx hE hp [] none (fun z hz => nomatch hz) (fun t2 i2 rest2 hr => ?_) (fun k hk => ?_) k hk
      · cases hr
        exact ⟨K.lt, .inl ⟨rfl, rfl, K.room⟩⟩
      · refine (PL.free k hk).congr fun r => ?_
        rw [Bool.eq_iff_iff, cf_iff]
        constructor
        · rintro (⟨a, _⟩ | h)
          · exact a
          · cases h
        · exact fun h => .inl ⟨h, .inl fun z => nomatch z⟩
    refine q.congr fun r => ?_
    rw [Bool.eq_iff_iff, moved_iff, cf_iff]
    simp only [List.append_nil, List.map_reverse, List.mem_reverse]
    constructor
    · rintro (⟨a, b⟩ | h)
      · exact .inl ⟨a, .inl b⟩
      · exact .inr h
    · rintro (⟨a, b⟩ | h)
      · exact .inl ⟨a, b.elim id fun z => nomatch z⟩
      · exact .inr h
  · rcases moved_iff.mp h with ⟨a, _⟩ | h
    · obtain ⟨a1, a2, a3⟩ := PL.inn k r a
      exact ⟨a1, a2, by simp [a3]⟩
    · obtain ⟨a1, _, a3⟩ := hlt _ h
      refine ⟨a1, a3, ?_⟩
      obtain ⟨e, he, hth, _⟩ := hp.lev _ h
      have := hin e he
      rw [hth] at this
      simp only [Bool.or_eq_true, decide_eq_true_eq]
      exact this.symm
  · by_cases hm : r ∈ pl.map (·.1)
    · obtain ⟨z, hz, q⟩ := List.mem_map.mp hm
      refine ⟨z.2, (hlt z hz).1, moved_iff.mpr (.inr ?_)⟩
      rw [← q]; exact hz
    · have hrx : r ≠ x := fun q => hm (q ▸ hp.has_x)
      simp only [Bool.or_eq_true, decide_eq_true_eq] at h
      obtain ⟨k, a, b⟩ := PL.cov r (h.elim id fun q => absurd q hrx)
      exact ⟨k, a, moved_iff.mpr (.inl ⟨b, hm⟩)⟩
  · rcases moved_iff.mp h with ⟨a, b⟩ | a
    · rcases moved_iff.mp h' with ⟨a', _⟩ | a'
      · exact PL.dis k k' r a a'
      · exact absurd (List.mem_map.mpr ⟨_, a', rfl⟩) b
    · rcases moved_iff.mp h' with ⟨_, b'⟩ | a'
      · exact absurd (List.mem_map.mpr ⟨_, a, rfl⟩) b'
      · have nd := hp.nodup B
        have key : ∀ (l : List (Nat × Nat)), (l.map (·.1)).Nodup → (r, k) ∈ l → (r, k') ∈ l → k = k' := by
          intro l
          induction l with
          | nil => intro _ h; cases h
          | cons z l ih =>
            intro hn h1 h2
            obtain ⟨n1, n2⟩ := List.nodup_cons.mp hn
            rcases List.mem_cons.mp h1 with q1 | h1
            · rcases List.mem_cons.mp h2 with q2 | h2
              · rw [← q1] at q2
                cases q2; rfl
              · exact absurd (List.mem_map.mpr ⟨_, h2, by rw [← q1]⟩) n1
            · rcases List.mem_cons.mp h2 with q2 | h2
              · exact absurd (List.mem_map.mpr ⟨_, h1, by rw [← q2]⟩) n1
              · exact ih n2 h1 h2
        exact key pl nd a a'

/-! ### counting over the lots -/
def SN : Nat → (Nat → Nat) → Nat
  | 0, _ => 0
  | n + 1, g => SN n g + g n
theorem SN_le {g h : Nat → Nat} : ∀ (n : Nat), (∀ i, i < n → g i ≤ h i) → SN n g ≤ SN n h
  | 0, _ => Nat.le_refl 0
  | n + 1, e => Nat.add_le_add (SN_le n fun i hi => e i (Nat.lt_succ_of_lt hi)) (e n (Nat.lt_succ_self n))
theorem SN_const (c : Nat) : ∀ n, SN n (fun _ => c) = n * c
  | 0 => by simp [SN]
  | n + 1 => by simp only [SN]; rw [SN_const c n, Nat.succ_mul]
theorem Parts.sum {L : Nat → Nat → Bool} {p : Nat → Bool} (PL : Parts f w n T count L p) (q : Nat → Bool) : SN count (fun i => cnt n fun r => L i r && q r) = cnt n fun r => p r && q r := by
  have key : ∀ k, k ≤ count → SN k (fun i => cnt n fun r => L i r && q r) = cnt n fun r => (List.range k).any (fun i => L i r) && q r := by
    intro k
    induction k with
    | zero =>
      intro _
      exact (cnt_zero n fun r _ => by simp).symm
    | succ k ih =>
      intro hk
      simp only [SN]
      rw [ih (by omega), ← cnt_add n]
      · refine cnt_congr n fun r _ => ?_
        rw [List.range_succ, List.any_append, List.any_cons, List.any_nil, Bool.or_false]
        cases q r <;> simp
      · intro r _ h
        simp only [Bool.and_eq_true, List.any_eq_true, List.mem_range] at h
        obtain ⟨⟨i, hi, hL⟩, hq⟩ := h
        cases hk' : L k r with
        | false => simp
        | true => have := PL.dis i k r hL hk'; omega
  rw [key count (Nat.le_refl _)]
  refine cnt_congr n fun r _ => ?_
  congr 1
  rw [Bool.eq_iff_iff, List.any_eq_true]
  constructor
  · rintro ⟨i, _, h⟩
    exact (PL.inn i r h).2.2
  · intro h
    obtain ⟨i, hi, hL⟩ := PL.cov r h
    exact ⟨i, List.mem_range.mpr hi, hL⟩

/-- NO WAY: where the looks from the things of a set Q lead to things of it, as far as rows may move (Mv), the rows and x cannot be parted such that the rows outside Mv stay -/
theorem no_way (D : Dom f) {L M : Nat → Nat → Bool} {p : Nat → Bool} (SI : StepIs f w n T step L count) (PL : Parts f w n T count L p) (hxn : x < n) (hpx : p x = false) (PM : Parts f w n T count M (fun r => p r || decide (r = x)))
    (Mv Q : Nat → Bool) (hmv : ∀ r, p r = true → Mv r = false → ∀ i, M i r = true → L i r = true) (hmx : Mv x = true) (hQ : ∀ r, Q r = true → r < n ∧ (p r = true ∨ r = x)) (hQx : Q x = true)
    (hcl : ∀ t, Q t = true → ∀ i, i < count → ∃ ks, step i t = some ks ∧ ∀ o, o ∈ ks → Mv o = true → Q o = true) : False := by
  let keep : Nat → Bool := fun r => !Mv r || Q r
  have kx : keep x = true := by simp [keep, hQx]
  have hle : ∀ i, i < count → cnt n (fun r => M i r && keep r) ≤ cnt n (fun r => L i r && keep r) := fun i hi => by
    refine steinitz D ((PM.free i hi).sub fun r hr => (Bool.and_eq_true _ _ ▸ hr).1) fun r hr h => ?_
    rw [Bool.and_eq_true] at h
    obtain ⟨hM, hk⟩ := h
    by_cases hL : L i r = true
    · exact Span.mem D hr (by simp [hL, hk])
    · -- r moved: it is of Q
      have hL' : L i r = false := by simpa using hL
      have hq : Q r = true := by
        cases hv : Mv r with
        | false =>
          have hp : p r = true := by
            have := (PM.inn i r hM).2.2
            simp only [Bool.or_eq_true, decide_eq_true_eq] at this
            exact this.elim id fun z => by rw [z, hmx] at hv; cases hv
          exact absurd (hmv r hp hv i hM) hL
        | true => simpa [keep, hv] using hk
      obtain ⟨ks, hs, hks⟩ := hcl r hq i hi
      obtain ⟨d, c, h1, h2, _, h4⟩ := SI.rel i r ks hi hr hL' hs
      refine ⟨d, c, h1, fun o ho => h2 o fun hm => ?_, h4⟩
      rw [Bool.and_eq_false_iff] at ho
      rcases ho with ho | ho
      · rw [SI.sub i r ks hi hr hs o hm] at ho; cases ho
      · simp only [keep, Bool.or_eq_false_iff, Bool.not_eq_false'] at ho
        rw [hks o hm ho.1] at ho
        cases ho.2
  have e1 := PM.sum keep
  have e2 := PL.sum keep
  have e3 : cnt n (fun r => (p r || decide (r = x)) && keep r) = cnt n (fun r => p r && keep r) + 1 := by
    rw [← cnt_ins n (p := fun r => p r && keep r) hxn (by simp [hpx])]
    refine cnt_congr n fun r _ => ?_
    by_cases q : r = x
    · subst q; simp [kx]
    · simp [q]
  have := SN_le count hle
  omega

/-- NO SHORTER WAY: a way to part the rows with x changes at least as many seats as the chain is long -/
theorem min_moves (D : Dom f) {L M : Nat → Nat → Bool} {p : Nat → Bool} (SI : StepIs f w n T step L count) (PL : Parts f w n T count L p) (hxn : x < n) (hpx : p x = false) {R : Rch} {t i j : Nat} (K : Sink step n count x R t i j)
    (PM : Parts f w n T count M (fun r => p r || decide (r = x))) (Mv : Nat → Bool) (hmv : ∀ r, p r = true → Mv r = false → ∀ i, M i r = true → L i r = true) (hmx : Mv x = true) : j + 1 ≤ cnt n Mv := by
  have B := K.base
  have hin : ∀ e, e ∈ R → e.th = x ∨ p e.th = true := fun e he => by
    cases hv : e.via with
    | none => exact .inl (B.root e he hv).1
    | some z =>
      obtain ⟨q, k⟩ := z
      obtain ⟨hk, e1, he1, hth1, _, ks, a, b⟩ := B.pre e he q k hv
      exact .inr (PL.inn k _ (SI.sub k q ks hk (hth1 ▸ B.bd e1 he1) a _ b)).2.2
  have grow : ∀ k, k ≤ j → ∃ Q : Nat → Bool, Q x = true ∧ (∀ r, Q r = true → Mv r = true ∧ ∃ e, e ∈ R ∧ e.th = r ∧ e.lev ≤ k) ∧ k + 1 ≤ cnt n Q := by
    intro k
    induction k with
    | zero =>
      intro _
      refine ⟨fun r => decide (r = x), by simp, fun r hr => ?_, cnt_pos n hxn (by simp)⟩
      have hr : r = x := of_decide_eq_true hr
      subst hr
      exact ⟨hmx, _, B.start, rfl, Nat.le_refl 0⟩
    | succ k ih =>
      intro hk
      obtain ⟨Q, h1, h2, h3⟩ := ih (by omega)
      by_cases hc : ∀ t, Q t = true → ∀ i, i < count → ∃ ks, step i t = some ks ∧ ∀ o, o ∈ ks → Mv o = true → Q o = true
      · exact (no_way D SI PL hxn hpx PM Mv Q hmv hmx (fun r hr => by
          obtain ⟨_, e, he, hth, _⟩ := h2 r hr
          rw [← hth]
          exact ⟨B.bd e he, (hin e he).symm⟩) h1 hc).elim
      · obtain ⟨t2, hc⟩ := Classical.not_forall.mp hc
        obtain ⟨hq, hc⟩ := Classical.not_imp.mp hc
        obtain ⟨i2, hc⟩ := Classical.not_forall.mp hc
        obtain ⟨hi2, hc⟩ := Classical.not_imp.mp hc
        obtain ⟨_, e, he, hth, hl⟩ := h2 t2 hq
        obtain ⟨ks, hs, hks⟩ := K.exp e he (by omega) i2 hi2
        rw [hth] at hs
        have hex : ∃ o, o ∈ ks ∧ Mv o = true ∧ Q o = false := Classical.byContradiction fun hn => hc ⟨ks, hs, fun o ho hv => by
          cases h : Q o with
          | true => rfl
          | false => exact absurd ⟨o, ho, hv, h⟩ hn⟩
        obtain ⟨o, ho, hv, hqo⟩ := hex
        obtain ⟨e', he', hth', hl'⟩ := hks o ho
        refine ⟨fun r => Q r || decide (r = o), by simp [h1], fun r hr => ?_, ?_⟩
        · simp only [Bool.or_eq_true, decide_eq_true_eq] at hr
          rcases hr with hr | hr
          · obtain ⟨a, e2, b, c, d⟩ := h2 r hr
            exact ⟨a, e2, b, c, by omega⟩
          · subst hr
            exact ⟨hv, e', he', hth', by omega⟩
        · rw [cnt_ins n (hth' ▸ B.bd e' he') hqo]
          omega
  obtain ⟨Q, _, h2, h3⟩ := grow j (Nat.le_refl j)
  exact Nat.le_trans h3 (cnt_mono n fun r _ hr => (h2 r hr).1)

/-- a closed search: no way at all -/
theorem closed_no_way (D : Dom f) {L M : Nat → Nat → Bool} {p : Nat → Bool} (SI : StepIs f w n T step L count) (PL : Parts f w n T count L p) (hxn : x < n) (hpx : p x = false) {R : Rch} (K : Closed step n count x R)
    (PM : Parts f w n T count M (fun r => p r || decide (r = x))) : False := by
  have B := K.base
  refine no_way D SI PL hxn hpx PM (fun _ => true) (fun r => (keysR R).contains r) (fun r _ h => nomatch h) rfl (fun r hr => ?_) ?_ fun t ht i hi => ?_
  · obtain ⟨e, he, hth⟩ := List.mem_map.mp (List.contains_iff_mem.mp hr)
    subst hth
    refine ⟨B.bd e he, ?_⟩
    cases hv : e.via with
    | none => exact .inr (B.root e he hv).1
    | some z =>
      obtain ⟨q, k⟩ := z
      obtain ⟨hk, e1, he1, hth1, _, ks, a, b⟩ := B.pre e he q k hv
      exact .inl (PL.inn k _ (SI.sub k q ks hk (hth1 ▸ B.bd e1 he1) a _ b)).2.2
  · exact List.contains_iff_mem.mpr (List.mem_map.mpr ⟨_, B.start, rfl⟩)
  · obtain ⟨e, he, hth⟩ := List.mem_map.mp (List.contains_iff_mem.mp ht)
    subst hth
    obtain ⟨ks, a, b⟩ := K.exp e he i hi
    exact ⟨ks, a, fun o ho _ => List.contains_iff_mem.mpr (b o ho)⟩
/-- .. and what is reached is too many: by a base of it that has as few rows as each lot has of it -/
theorem closed_many (D : Dom f) {L : Nat → Nat → Bool} {p : Nat → Bool} (SI : StepIs f w n T step L count) (PL : Parts f w n T count L p) (hxn : x < n) (hpx : p x = false) {R : Rch} (K : Closed step n count x R)
    {A : Nat → Bool} (hA : Free f w n T A) (hs : ∀ r, A r = true → r ∈ keysR R) : count * cnt n A < R.length := by
  have B := K.base
  have hin : ∀ e, e ∈ R → e.th = x ∨ p e.th = true := fun e he => by
    cases hv : e.via with
    | none => exact .inl (B.root e he hv).1
    | some z =>
      obtain ⟨q, k⟩ := z
      obtain ⟨hk, e1, he1, hth1, _, ks, a, b⟩ := B.pre e he q k hv
      exact .inr (PL.inn k _ (SI.sub k q ks hk (hth1 ▸ B.bd e1 he1) a _ b)).2.2
  let Q : Nat → Bool := fun r => (keysR R).contains r
  have hQ : ∀ r, Q r = true ↔ r ∈ keysR R := fun r => List.contains_iff_mem
  have hle : ∀ i, i < count → cnt n A ≤ cnt n (fun r => L i r && Q r) := fun i hi => by
    refine steinitz D hA fun r hr h => ?_
    have hk := hs r h
    obtain ⟨e, he, hth⟩ := List.mem_map.mp hk
    subst hth
    by_cases hL : L i e.th = true
    · exact Span.mem D hr (by simp only [hL, (hQ _).mpr hk, Bool.and_self])
    · obtain ⟨ks, hst, hks⟩ := K.exp e he i hi
      obtain ⟨d, c, h1, h2, _, h4⟩ := SI.rel i e.th ks hi hr (by simpa using hL) hst
      refine ⟨d, c, h1, fun o ho => h2 o fun hm => ?_, h4⟩
      rw [Bool.and_eq_false_iff] at ho
      rcases ho with ho | ho
      · rw [SI.sub i _ ks hi hr hst o hm] at ho; cases ho
      · rw [(hQ o).mpr (hks o hm)] at ho; cases ho
  have e1 := SN_le count hle
  rw [SN_const, PL.sum Q] at e1
  -- the reached rows are those and x
  have e2 : cnt n Q = cnt n (fun r => p r && Q r) + 1 := by
    rw [← cnt_ins n (p := fun r => p r && Q r) hxn (by simp [hpx])]
    refine cnt_congr n fun r _ => ?_
    rw [Bool.eq_iff_iff]
    simp only [Bool.or_eq_true, Bool.and_eq_true, decide_eq_true_eq]
    constructor
    · intro h
      obtain ⟨e, he, hth⟩ := List.mem_map.mp ((hQ r).mp h)
      subst hth
      rcases hin e he with z | z
      · exact .inr z
      · exact .inl ⟨z, h⟩
    · rintro (⟨_, h⟩ | h)
      · exact h
      · exact (hQ r).mpr (List.mem_map.mpr ⟨_, B.start, h.symm⟩)
  have e3 : ∀ (n : Nat) (l : List Nat), l.Nodup → (∀ a, a ∈ l → a < n) → cnt n (fun r => l.contains r) = l.length := by
    intro n l hn
    induction l with
    | nil => exact fun _ => cnt_zero n fun r _ => rfl
    | cons a l ih =>
      intro h
      obtain ⟨n1, n2⟩ := List.nodup_cons.mp hn
      rw [List.length_cons, ← ih n2 fun b hb => h b (List.mem_cons_of_mem _ hb), ← cnt_ins n (p := fun r => l.contains r) (h a List.mem_cons_self) (by simpa using n1)]
      refine cnt_congr n fun r _ => ?_
      rw [Bool.eq_iff_iff]
      simp only [List.contains_cons, Bool.or_eq_true, beq_iff_eq, decide_eq_true_eq]
      exact Or.comm
  have e4 : cnt n Q = R.length := by
    rw [show cnt n Q = cnt n (fun r => (keysR R).contains r) from rfl, e3 n (keysR R) B.nd fun a ha => by
      obtain ⟨e, he, rfl⟩ := List.mem_map.mp ha
      exact B.bd e he]
    exact List.length_map ..
  omega
end
end KP
end
section
/-! What the base of a lot tells: the mirror of left_of, add, relation, and what its relation means. Plain Lean. -/
namespace KP
/-- one more number divided out, as leaned does it -/
def gcdAll (l : List Int) : Nat := l.foldl (fun d x => Nat.gcd d x.natAbs) 0
def leaned (f : Int) (l : List Int) : List Int :=
  if 0 < f then l.map (· % f) else if 1 < gcdAll l then l.map (· / (gcdAll l : Int)) else l
/-- what a dict of rows holds at a row -/
def pf (l : List (Nat × Int)) (r : Nat) : Int := (l.lookup r).getD 0
structure Stp where
  lead : Nat
  known : List Int
  makers : List (Nat × Int)
/-- the keys of both dicts, ascending -/
def keys2 (n : Nat) (a b : List (Nat × Int)) : List Nat := (List.range n).filter fun r => (a.map (·.1)).contains r || (b.map (·.1)).contains r
def nums1 (s : Stp) (nums : List Int) : List Int := List.zipWith (fun x y => s.known.getD s.lead 0 * x - nums.getD s.lead 0 * y) nums s.known
def counts1 (n : Nat) (s : Stp) (nums : List Int) (parts : List (Nat × Int)) : List Int := (keys2 n parts s.makers).map fun k => s.known.getD s.lead 0 * pf parts k - nums.getD s.lead 0 * pf s.makers k
def redStep (f : Int) (n : Nat) (np : List Int × List (Nat × Int)) (s : Stp) : List Int × List (Nat × Int) :=
  if np.1.getD s.lead 0 ≠ 0 then
    ((leaned f (nums1 s np.1 ++ counts1 n s np.1 np.2)).take (nums1 s np.1).length, (keys2 n np.2 s.makers).zip ((leaned f (nums1 s np.1 ++ counts1 n s np.1 np.2)).drop (nums1 s np.1).length))
  else np
def leftOf (f : Int) (n : Nat) (T : List (List Int)) (steps : List Stp) (row : Nat) : List Int × List (Nat × Int) := steps.foldl (redStep f n) (T.getD row [], [(row, 1)])
def leadsOf (nums : List Int) : List Nat := (List.range nums.length).filter fun i => nums.getD i 0 ≠ 0
def relOf (f : Int) (n : Nat) (T : List (List Int)) (steps : List Stp) (row : Nat) : Option (List (Nat × Int)) :=
  if (leftOf f n T steps row).1.any (fun x => x ≠ 0) then none else some ((leftOf f n T steps row).2.filter fun z => z.2 ≠ 0)
def addRow (f : Int) (n : Nat) (T : List (List Int)) (steps : List Stp) (row : Nat) : List Stp :=
  match leadsOf (leftOf f n T steps row).1 with
  | [] => steps
  | l :: _ => steps ++ [⟨l, (leftOf f n T steps row).1, (leftOf f n T steps row).2⟩]
def baseOf (f : Int) (n : Nat) (T : List (List Int)) (lot : List Nat) : List Stp := lot.foldl (addRow f n T) []
/-- the things of lot i whose place thing t can take -/
def stepOf (f : Int) (n : Nat) (T : List (List Int)) (lots : List (List Nat)) (i t : Nat) : Option (List Nat) :=
  if (lots.getD i []).contains t then some [] else (relOf f n T (baseOf f n T (lots.getD i [])) t).map fun kvs => (kvs.map (·.1)).filter fun o => o ≠ t
/-- the row's numbers -/
def vec (T : List (List Int)) (r k : Nat) : Int := (T.getD r []).getD k 0

/-! ### spans over other vectors -/
section
variable {f : Int} {w n m : Nat} {T K : Nat → Nat → Int} {p q : Nat → Bool}
theorem Span.comb (D : Dom f) {u v z : Nat → Int} (hu : Span f w n T p u) (hv : Span f w n T p v) (a b : Int) (hz : ∀ k, k < w → f ∣ z k - (a * u k + b * v k)) : Span f w n T p z := by
  obtain ⟨d1, c1, h1, h2, h3⟩ := hu
  obtain ⟨d2, c2, g1, g2, g3⟩ := hv
  refine ⟨d1 * d2, fun r => a * d2 * c1 r + b * d1 * c2 r, fun z => (D.dom _ _ z).elim h1 g1, fun r hr => by show a * d2 * c1 r + b * d1 * c2 r = 0; rw [h2 r hr, g2 r hr, Int.mul_zero, Int.mul_zero]; rfl, fun k hk => ?_⟩
  have e : S n (fun r => (a * d2 * c1 r + b * d1 * c2 r) * T r k) = a * d2 * S n (fun r => c1 r * T r k) + b * d1 * S n (fun r => c2 r * T r k) := by
    rw [← S_mul, ← S_mul, ← S_add]
    exact S_congr n fun r _ => by rw [Int.add_mul, Int.mul_assoc, Int.mul_assoc (b * d1)]
  rw [e]
  have q : d1 * d2 * z k - (a * d2 * S n (fun r => c1 r * T r k) + b * d1 * S n (fun r => c2 r * T r k))
      = d1 * d2 * (z k - (a * u k + b * v k)) + (a * d2 * (d1 * u k - S n (fun r => c1 r * T r k)) + b * d1 * (d2 * v k - S n (fun r => c2 r * T r k))) := by
    have e1 : a * d2 * (d1 * u k) = d1 * d2 * (a * u k) := by
      rw [Int.mul_comm d1 d2, Int.mul_assoc d2 d1, ← Int.mul_assoc d1 a, Int.mul_comm d1 a, Int.mul_assoc a d1, ← Int.mul_assoc d2 a, Int.mul_comm d2 a]
    have e2 : b * d1 * (d2 * v k) = d1 * d2 * (b * v k) := by
      rw [Int.mul_assoc d1 d2, ← Int.mul_assoc d2 b, Int.mul_comm d2 b, Int.mul_assoc b d2, ← Int.mul_assoc d1 b, Int.mul_comm d1 b]
    rw [Int.mul_sub, Int.mul_sub, Int.mul_sub, e1, e2, Int.mul_add]
    omega
  rw [q]
  exact Int.dvd_add (Int.dvd_mul_of_dvd_right (hz k hk)) (Int.dvd_add (Int.dvd_mul_of_dvd_right (h3 k hk)) (Int.dvd_mul_of_dvd_right (g3 k hk)))
theorem Span.zero (D : Dom f) {z : Nat → Int} (hz : ∀ k, k < w → f ∣ z k) : Span f w n T p z := by
  refine ⟨1, fun _ => 0, D.one, fun _ _ => rfl, fun k hk => ?_⟩
  rw [S_zero n fun r _ => Int.zero_mul _, Int.one_mul, Int.sub_zero]
  exact hz k hk
theorem Span.sum (D : Dom f) {c : Nat → Int} (h : ∀ r, r < m → c r ≠ 0 → Span f w n T p (K r)) : Span f w n T p (fun k => S m (fun r => c r * K r k)) := by
  induction m with
  | zero => exact Span.zero D fun k _ => by simp [S]
  | succ m ih =>
    have h1 := ih fun r hr => h r (Nat.lt_succ_of_lt hr)
    by_cases hc : c m = 0
    · refine Span.comb D h1 h1 1 0 fun k _ => ?_
      simp only [S, hc, Int.zero_mul, Int.one_mul]
      simp only [Int.add_zero, Int.sub_self]; exact Int.dvd_zero f
    · refine Span.comb D h1 (h m (Nat.lt_succ_self m) hc) 1 (c m) fun k _ => ?_
      simp only [S, Int.one_mul]
      rw [Int.sub_self]; exact Int.dvd_zero f
/-- a vector of which a multiple is in the span -/
theorem Span.unit (D : Dom f) {v z : Nat → Int} {d : Int} (hd : ¬ f ∣ d) (hv : Span f w n T p v) (hz : ∀ k, k < w → f ∣ d * z k - v k) : Span f w n T p z := by
  obtain ⟨d1, c1, h1, h2, h3⟩ := hv
  refine ⟨d1 * d, c1, fun z => (D.dom _ _ z).elim h1 hd, h2, fun k hk => ?_⟩
  have e : d1 * d * z k - S n (fun r => c1 r * T r k) = d1 * (d * z k - v k) + (d1 * v k - S n (fun r => c1 r * T r k)) := by
    rw [Int.mul_sub, Int.mul_assoc]; omega
  rw [e]
  exact Int.dvd_add (Int.dvd_mul_of_dvd_right (hz k hk)) (h3 k hk)
theorem Span.trans (D : Dom f) {v : Nat → Int} (hv : Span f w m K q v) (h : ∀ r, r < m → q r = true → Span f w n T p (K r)) : Span f w n T p v := by
  obtain ⟨d, c, h1, h2, h3⟩ := hv
  refine Span.unit D h1 (Span.sum (K := K) (c := c) (m := m) D fun r hr hc => h r hr ?_) h3
  cases e : q r with
  | true => rfl
  | false => exact absurd (h2 r e) hc
/-- vectors in steps: a vector that is nought where each of them leads, and in their span, is nought -/
theorem echelon (D : Dom f) {lead : Nat → Nat} (hl : ∀ i, i < m → lead i < w) (h1 : ∀ i, i < m → ¬ f ∣ K i (lead i)) (h2 : ∀ i j, i < j → j < m → f ∣ K j (lead i)) {v : Nat → Int} (hv : Span f w m K (fun _ => true) v)
    (h0 : ∀ i, i < m → f ∣ v (lead i)) : ∀ k, k < w → f ∣ v k := by
  obtain ⟨d, e, hd, _, hr⟩ := hv
  have ez : ∀ i, i < m → f ∣ e i := by
    intro i
    induction i using Nat.strongRecOn with
    | ind i ih =>
      intro hi
      have z := hr (lead i) (hl i hi)
      have z2 : f ∣ S m (fun r => e r * K r (lead i)) := (Int.dvd_iff_dvd_of_dvd_sub z).mp (Int.dvd_mul_of_dvd_right (h0 i hi))
      have z3 : f ∣ S m (fun r => if r = i then 0 else e r * K r (lead i)) := S_dvd m fun r hrm => by
        by_cases q : r = i
        · rw [if_pos q]; exact Int.dvd_zero f
        · rw [if_neg q]
          by_cases q2 : r < i
          · exact Int.dvd_mul_of_dvd_left (ih r q2 hrm)
          · exact Int.dvd_mul_of_dvd_right (h2 i r (by omega) hrm)
      rw [S_at m hi] at z3
      have z4 : f ∣ e i * K i (lead i) := by
        have q : e i * K i (lead i) = S m (fun r => e r * K r (lead i)) - (S m (fun r => e r * K r (lead i)) - e i * K i (lead i) + 0) := by omega
        rw [q]; exact Int.dvd_sub z2 z3
      exact (D.dom _ _ z4).elim id fun q => absurd q (h1 i hi)
  intro k hk
  have z := hr k hk
  have z2 : f ∣ S m (fun r => e r * K r k) := S_dvd m fun r hr => Int.dvd_mul_of_dvd_left (ez r hr)
  exact (D.dom _ _ ((Int.dvd_iff_dvd_of_dvd_sub z).mpr z2)).elim (fun q => absurd q hd) id
end

/-! ### leaned -/
theorem gcd_fold (l : List Int) : ∀ (d : Nat), l.foldl (fun d x => Nat.gcd d x.natAbs) d ∣ d ∧ ∀ x, x ∈ l → ((l.foldl (fun d x => Nat.gcd d x.natAbs) d : Nat) : Int) ∣ x := by
  induction l with
  | nil => exact fun d => ⟨Nat.dvd_refl d, fun x hx => nomatch hx⟩
  | cons a l ih =>
    intro d
    obtain ⟨h1, h2⟩ := ih (Nat.gcd d a.natAbs)
    refine ⟨Nat.dvd_trans h1 (Nat.gcd_dvd_left d _), fun x hx => ?_⟩
    rcases List.mem_cons.mp hx with rfl | hx
    · exact Int.ofNat_dvd_left.mpr (Nat.dvd_trans h1 (Nat.gcd_dvd_right d _))
    · exact h2 x hx
theorem gcdAll_dvd {l : List Int} {x : Int} (h : x ∈ l) : (gcdAll l : Int) ∣ x := (gcd_fold l 0).2 x h
theorem leaned_length (f : Int) (l : List Int) : (leaned f l).length = l.length := by
  unfold leaned
  split
  · exact List.length_map ..
  · split
    · exact List.length_map ..
    · rfl
/-- modulo f the numbers are multiplied by a unit -/
theorem leaned_unit {f : Int} (D : Dom f) (hf : 0 ≤ f) (l : List Int) : ∃ d : Int, ¬ f ∣ d ∧ ∀ i, f ∣ d * (leaned f l).getD i 0 - l.getD i 0 := by
  have get : ∀ (g : Int → Int), g 0 = 0 → ∀ i, (l.map g).getD i 0 = g (l.getD i 0) := fun g hg i => by
    simp only [List.getD_eq_getElem?_getD, List.getElem?_map]
    cases l[i]? with
    | none => exact hg.symm
    | some y => rfl
  unfold leaned
  split
  · refine ⟨1, D.one, fun i => ?_⟩
    rw [get _ (Int.zero_emod f), Int.one_mul]
    have : f ∣ l.getD i 0 - l.getD i 0 % f := Int.dvd_self_sub_emod
    have e : l.getD i 0 % f - l.getD i 0 = - (l.getD i 0 - l.getD i 0 % f) := by omega
    rw [e]; exact Int.dvd_neg.mpr this
  · rename_i h
    have f0 : f = 0 := by omega
    subst f0
    split
    · rename_i h2
      refine ⟨(gcdAll l : Int), fun z => by have := Int.zero_dvd.mp z; omega, fun i => ?_⟩
      rw [get (fun x => x / (gcdAll l : Int)) (Int.zero_ediv _)]
      have z : (gcdAll l : Int) ∣ l.getD i 0 := by
        rw [List.getD_eq_getElem?_getD]
        cases h : l[i]? with
        | none => exact Int.dvd_zero _
        | some y => exact gcdAll_dvd (List.mem_of_getElem? h)
      rw [Int.mul_ediv_cancel' z, Int.sub_self]; exact Int.dvd_zero _
    · exact ⟨1, D.one, fun i => by rw [Int.one_mul, Int.sub_self]; exact Int.dvd_zero _⟩
/-- reduced: divisible by f only if nought -/
def Red (f x : Int) : Prop := f ∣ x → x = 0
theorem leaned_red {f : Int} (hf : 0 ≤ f) (l : List Int) : ∀ x, x ∈ leaned f l → Red f x := by
  intro x hx
  unfold leaned at hx
  split at hx
  · rename_i h
    obtain ⟨y, _, rfl⟩ := List.mem_map.mp hx
    intro z
    have h1 := Int.emod_nonneg y (show f ≠ 0 by omega)
    have h2 := Int.emod_lt_of_pos y h
    rw [← Int.emod_eq_of_lt h1 h2]; exact Int.emod_eq_zero_of_dvd z
  · have f0 : f = 0 := by omega
    intro z
    rw [f0] at z
    exact Int.zero_dvd.mp z
theorem red_iff {f x : Int} (h : Red f x) : f ∣ x ↔ x = 0 := ⟨h, fun e => e ▸ Int.dvd_zero f⟩
/-- no number gets greater -/
theorem leaned_le {f : Int} {b : Nat} (hf : f ≤ (b : Int)) (l : List Int) (h : ∀ x, x ∈ l → x.natAbs ≤ b) : ∀ x, x ∈ leaned f l → x.natAbs ≤ b := by
  intro x hx
  unfold leaned at hx
  split at hx
  · rename_i h0
    obtain ⟨y, _, rfl⟩ := List.mem_map.mp hx
    have h1 := Int.emod_nonneg y (show f ≠ 0 by omega)
    have h2 := Int.emod_lt_of_pos y h0
    omega
  · split at hx
    · obtain ⟨y, hy, rfl⟩ := List.mem_map.mp hx
      have z := h y hy
      have : (y / (gcdAll l : Int)).natAbs ≤ y.natAbs := Int.natAbs_ediv_le_natAbs y _
      omega
    · exact h x hx

/-! ### lists by their places -/
theorem getD_map0 (g : Int → Int) (hg : g 0 = 0) (l : List Int) (i : Nat) : (l.map g).getD i 0 = g (l.getD i 0) := by
  simp only [List.getD_eq_getElem?_getD, List.getElem?_map]
  cases l[i]? with
  | none => exact hg.symm
  | some y => rfl
theorem getD_take {l : List Int} {m k : Nat} (h : k < m) : (l.take m).getD k 0 = l.getD k 0 := by
  simp only [List.getD_eq_getElem?_getD, List.getElem?_take, if_pos h]
theorem getD_drop (l : List Int) (m k : Nat) : (l.drop m).getD k 0 = l.getD (m + k) 0 := by
  simp only [List.getD_eq_getElem?_getD, List.getElem?_drop]
theorem getD_left {a b : List Int} {k : Nat} (h : k < a.length) : (a ++ b).getD k 0 = a.getD k 0 := by
  simp only [List.getD_eq_getElem?_getD, List.getElem?_append_left h]
theorem getD_right (a b : List Int) (k : Nat) : (a ++ b).getD (a.length + k) 0 = b.getD k 0 := by
  simp only [List.getD_eq_getElem?_getD]
  rw [List.getElem?_append_right (Nat.le_add_right ..), Nat.add_sub_cancel_left]
theorem getD_zipW (g : Int → Int → Int) (a b : List Int) {k : Nat} (h1 : k < a.length) (h2 : k < b.length) : (List.zipWith g a b).getD k 0 = g (a.getD k 0) (b.getD k 0) := by
  simp only [List.getD_eq_getElem?_getD, List.getElem?_zipWith, List.getElem?_eq_getElem h1, List.getElem?_eq_getElem h2]
  rfl
theorem getD_mem0 {l : List Int} {k : Nat} (h : k < l.length) : l.getD k 0 ∈ l := by
  rw [List.getD_eq_getElem?_getD, List.getElem?_eq_getElem h]
  exact List.getElem_mem h
theorem getD_out {l : List Int} {k : Nat} (h : l.length ≤ k) : l.getD k 0 = 0 := by
  rw [List.getD_eq_getElem?_getD, List.getElem?_eq_none h]
  rfl
theorem pf_none {l : List (Nat × Int)} {r : Nat} (h : r ∉ l.map (·.1)) : pf l r = 0 := by
  unfold pf
  have : l.lookup r = none := by
    induction l with
    | nil => rfl
    | cons z l ih =>
      have h1 : r ≠ z.1 := fun q => h (by rw [q]; exact List.mem_cons_self)
      obtain ⟨a, b⟩ := z
      rw [List.lookup_cons]
      have : (r == a) = false := by simpa using h1
      rw [this]
      exact ih fun hm => h (List.mem_cons_of_mem _ hm)
  rw [this]; rfl
theorem pf_mem {l : List (Nat × Int)} {r : Nat} (h : pf l r ≠ 0) : (r, pf l r) ∈ l := by
  induction l with
  | nil => exact absurd rfl h
  | cons z l ih =>
    obtain ⟨a, b⟩ := z
    unfold pf at h ih ⊢
    rw [List.lookup_cons] at h ⊢
    by_cases q : r = a
    · subst q
      rw [beq_self_eq_true]
      exact List.mem_cons_self
    · have e : (r == a) = false := by simpa using q
      rw [e] at h ⊢
      exact List.mem_cons_of_mem _ (ih h)
theorem pf_of {l : List (Nat × Int)} (hn : (l.map (·.1)).Nodup) {z : Nat × Int} (h : z ∈ l) : pf l z.1 = z.2 := by
  induction l with
  | nil => cases h
  | cons a l ih =>
    obtain ⟨n1, n2⟩ := List.nodup_cons.mp hn
    unfold pf at ih ⊢
    obtain ⟨a1, a2⟩ := a
    rw [List.lookup_cons]
    rcases List.mem_cons.mp h with rfl | h
    · rw [beq_self_eq_true]; rfl
    · have : (z.1 == a1) = false := by
        rw [beq_eq_false_iff_ne]
        exact fun q => n1 (List.mem_map.mpr ⟨z, h, q⟩)
      rw [this]
      exact ih n2 h
theorem pf_zip {f d : Int} {g : Nat → Int} : ∀ {ks : List Nat} {vs : List Int}, ks.length = vs.length → (∀ i, f ∣ d * vs.getD i 0 - (ks.map g).getD i 0) → ∀ r, r ∈ ks → f ∣ d * pf (ks.zip vs) r - g r
  | [], _, _, _ => fun r hr => nomatch hr
  | a :: ks, [], h, _ => by cases h
  | a :: ks, v :: vs, h, hP => by
    intro r hr
    show f ∣ d * pf ((a, v) :: ks.zip vs) r - g r
    unfold pf
    rw [List.lookup_cons]
    by_cases q : r = a
    · subst q
      rw [beq_self_eq_true]
      exact hP 0
    · have e : (r == a) = false := by simpa using q
      rw [e]
      exact pf_zip (Nat.succ.inj h) (fun i => hP (i + 1)) r ((List.mem_cons.mp hr).elim (fun z => absurd z q) id)
theorem zip_keys : ∀ {ks : List Nat} {vs : List Int}, ks.length = vs.length → (ks.zip vs).map (·.1) = ks
  | [], _, _ => rfl
  | a :: ks, [], h => by cases h
  | a :: ks, v :: vs, h => congrArg (a :: ·) (zip_keys (Nat.succ.inj h))
theorem mem_keys2 {n : Nat} {a b : List (Nat × Int)} {r : Nat} : r ∈ keys2 n a b ↔ r < n ∧ (r ∈ a.map (·.1) ∨ r ∈ b.map (·.1)) := by
  simp only [keys2, List.mem_filter, List.mem_range, Bool.or_eq_true, List.contains_iff_mem]
theorem keys2_sorted (n : Nat) (a b : List (Nat × Int)) : (keys2 n a b).Pairwise (· < ·) := List.Pairwise.filter _ List.pairwise_lt_range

/-! ### the invariants -/
section
variable (f : Int) (w n : Nat) (T : List (List Int))
/-- how great the numbers are behind i steps -/
def bet : Nat → Nat
  | 0 => 8
  | i + 1 => 2 * bet i + 1
/-- a combination of rows, and what it comes to -/
structure Mad (rows : Nat → Prop) (b : Nat) (nums : List Int) (parts : List (Nat × Int)) : Prop where
  len : nums.length = w
  red : ∀ y, y ∈ nums → Red f y
  redp : ∀ z, z ∈ parts → Red f z.2
  keys : ∀ r, r ∈ parts.map (·.1) → rows r ∧ r < n
  srt : (parts.map (·.1)).Pairwise (· < ·)
  eq : ∀ k, k < w → f ∣ nums.getD k 0 - S n (fun r => pf parts r * vec T r k)
  big : ∀ y, y ∈ nums → y.natAbs ≤ 2 ^ b
  bigp : ∀ z, z ∈ parts → z.2.natAbs ≤ 2 ^ b
structure StpsOk (rows : Nat → Prop) (steps : List Stp) : Prop where
  made : ∀ (i : Nat) (s : Stp), steps[i]? = some s → Mad f w n T rows (bet i) s.known s.makers
  lead : ∀ (i : Nat) (s : Stp), steps[i]? = some s → s.lead < w ∧ ¬ f ∣ s.known.getD s.lead 0
  zero : ∀ (i j : Nat) (s u : Stp), i < j → steps[i]? = some s → steps[j]? = some u → f ∣ u.known.getD s.lead 0
  span : ∀ r, rows r → r < n → Span f w steps.length (fun i k => ((steps[i]?.map (·.known)).getD []).getD k 0) (fun _ => true) (vec T r)
end
theorem S_sub (n : Nat) (g h : Nat → Int) : S n (fun r => g r - h r) = S n g - S n h := by
  induction n with
  | zero => rfl
  | succ n ih => simp only [S, ih]; omega
theorem bet_mono : ∀ {i j : Nat}, i ≤ j → bet i ≤ bet j := by
  intro i j h
  induction h with
  | refl => exact Nat.le_refl _
  | step _ ih => simp only [bet]; omega
section
variable {f : Int} {w n : Nat} {T : List (List Int)} {rows : Nat → Prop} {x : Nat}
theorem natAbs_lin {a b c d : Int} {k : Nat} (ha : a.natAbs ≤ 2 ^ k) (hb : b.natAbs ≤ 2 ^ k) (hc : c.natAbs ≤ 2 ^ k) (hd : d.natAbs ≤ 2 ^ k) : (a * b - c * d).natAbs ≤ 2 ^ (2 * k + 1) := by
  have h1 : (a * b).natAbs ≤ 2 ^ k * 2 ^ k := by rw [Int.natAbs_mul]; exact Nat.mul_le_mul ha hb
  have h2 : (c * d).natAbs ≤ 2 ^ k * 2 ^ k := by rw [Int.natAbs_mul]; exact Nat.mul_le_mul hc hd
  have h3 : 2 ^ (2 * k + 1) = 2 * (2 ^ k * 2 ^ k) := by
    rw [Nat.pow_succ, Nat.two_mul, Nat.pow_add, Nat.mul_comm]
  have h4 := Int.natAbs_sub_le (a * b) (c * d)
  omega
/-- one step of the elimination -/
theorem redStep_ok (D : Dom f) (hf : 0 ≤ f) (hf2 : f ≤ 13) {b : Nat} (hb : 8 ≤ b) {nums : List Int} {parts : List (Nat × Int)} {s : Stp} (M : Mad f w n T (fun r => r = x ∨ rows r) b nums parts) (hu : ¬ f ∣ pf parts x) (N : Mad f w n T rows b s.known s.makers)
    (hl : s.lead < w) (hs : ¬ f ∣ s.known.getD s.lead 0) (hx : ¬ rows x) :
    Mad f w n T (fun r => r = x ∨ rows r) (2 * b + 1) (redStep f n (nums, parts) s).1 (redStep f n (nums, parts) s).2 ∧ ¬ f ∣ pf (redStep f n (nums, parts) s).2 x ∧ f ∣ (redStep f n (nums, parts) s).1.getD s.lead 0 ∧
      ∀ k, k < w → f ∣ nums.getD k 0 → f ∣ s.known.getD k 0 → f ∣ (redStep f n (nums, parts) s).1.getD k 0 := by
  have mono : ∀ {y : Int}, y.natAbs ≤ 2 ^ b → y.natAbs ≤ 2 ^ (2 * b + 1) := fun h => Nat.le_trans h (Nat.pow_le_pow_right (by omega) (by omega))
  unfold redStep
  by_cases hc : nums.getD s.lead 0 ≠ 0
  case neg =>
    simp only [if_neg hc]
    refine ⟨⟨M.len, M.red, M.redp, M.keys, M.srt, M.eq, fun y hy => mono (M.big y hy), fun z hz => mono (M.bigp z hz)⟩, hu, ?_, fun k _ h _ => h⟩
    have : nums.getD s.lead 0 = 0 := Classical.not_not.mp hc
    rw [this]; exact Int.dvd_zero f
  simp only [if_pos hc]
  obtain ⟨d, hd, hdv⟩ := leaned_unit D hf (nums1 s nums ++ counts1 n s nums parts)
  have l1 : (nums1 s nums).length = w := by simp [nums1, M.len, N.len]
  have l2 : (leaned f (nums1 s nums ++ counts1 n s nums parts)).length = w + (keys2 n parts s.makers).length := by
    rw [leaned_length, List.length_append, l1]; simp [counts1]
  generalize hW : leaned f (nums1 s nums ++ counts1 n s nums parts) = W at hdv l2
  have hred : ∀ y, y ∈ W → Red f y := by rw [← hW]; exact leaned_red hf _
  have hlt : ∀ k, k < w → nums.getD k 0 ∈ nums := fun k hk => getD_mem0 (by rw [M.len]; exact hk)
  have hlt2 : ∀ k, k < w → s.known.getD k 0 ∈ s.known := fun k hk => getD_mem0 (by rw [N.len]; exact hk)
  have pfb : ∀ (l : List (Nat × Int)) (r : Nat), (∀ z, z ∈ l → z.2.natAbs ≤ 2 ^ b) → (pf l r).natAbs ≤ 2 ^ b := fun l r h => by
    by_cases q : pf l r = 0
    · rw [q]; exact Nat.zero_le _
    · exact h _ (pf_mem q)
  have hbig : ∀ y, y ∈ W → y.natAbs ≤ 2 ^ (2 * b + 1) := by
    rw [← hW]
    refine leaned_le ?_ _ fun y hy => ?_
    · have h1 : 2 ^ 17 ≤ 2 ^ (2 * b + 1) := Nat.pow_le_pow_right (by omega) (by omega)
      have h2 : (2 : Nat) ^ 17 = 131072 := by decide
      omega
    · rcases List.mem_append.mp hy with hy | hy
      · obtain ⟨k, hk, rfl⟩ := List.getElem_of_mem hy
        rw [l1] at hk
        simp only [nums1, List.getElem_zipWith]
        exact natAbs_lin (N.big _ (hlt2 _ hl)) (M.big _ (List.getElem_mem _)) (M.big _ (hlt _ hl)) (N.big _ (List.getElem_mem _))
      · obtain ⟨k, _, rfl⟩ := List.mem_map.mp hy
        exact natAbs_lin (N.big _ (hlt2 _ hl)) (pfb _ _ M.bigp) (M.big _ (hlt _ hl)) (pfb _ _ N.bigp)
  have kl : (keys2 n parts s.makers).length = (W.drop (nums1 s nums).length).length := by rw [List.length_drop, l2, l1]; omega
  have hnum : ∀ k, k < w → f ∣ d * (W.take (nums1 s nums).length).getD k 0 - (s.known.getD s.lead 0 * nums.getD k 0 - nums.getD s.lead 0 * s.known.getD k 0) := fun k hk => by
    rw [getD_take (by rw [l1]; exact hk)]
    have z := hdv k
    rw [getD_left (by rw [l1]; exact hk), nums1, getD_zipW _ _ _ (by rw [M.len]; exact hk) (by rw [N.len]; exact hk)] at z
    exact z
  have hpf : ∀ r, f ∣ d * pf ((keys2 n parts s.makers).zip (W.drop (nums1 s nums).length)) r - (s.known.getD s.lead 0 * pf parts r - nums.getD s.lead 0 * pf s.makers r) := fun r => by
    by_cases hk : r ∈ keys2 n parts s.makers
    · refine pf_zip (g := fun r => s.known.getD s.lead 0 * pf parts r - nums.getD s.lead 0 * pf s.makers r) kl (fun i => ?_) r hk
      rw [getD_drop]
      have z := hdv ((nums1 s nums).length + i)
      rw [getD_right] at z
      exact z
    · have h1 : pf parts r = 0 := pf_none fun hm => hk (mem_keys2.mpr ⟨(M.keys r hm).2, .inl hm⟩)
      have h2 : pf s.makers r = 0 := pf_none fun hm => hk (mem_keys2.mpr ⟨(N.keys r hm).2, .inr hm⟩)
      rw [pf_none (by rw [zip_keys kl]; exact hk), h1, h2, Int.mul_zero, Int.mul_zero, Int.mul_zero]; exact Int.dvd_zero f
  have undo : ∀ {y : Int}, f ∣ d * y → f ∣ y := fun z => (D.dom _ _ z).elim (fun z => absurd z hd) id
  refine ⟨⟨?_, fun y hy => hred y (List.mem_of_mem_take hy), fun z hz => ?_, fun r hr => ?_, ?_, fun k hk => ?_, fun y hy => hbig y (List.mem_of_mem_take hy), fun z hz => ?_⟩, fun hz => ?_, ?_, fun k hk h1 h2 => ?_⟩
  · rw [List.length_take, l2, l1]; omega
  · exact hred _ (List.mem_of_mem_drop (List.of_mem_zip hz).2)
  · rw [zip_keys kl] at hr
    obtain ⟨hr, h | h⟩ := mem_keys2.mp hr
    · exact M.keys r h
    · exact ⟨.inr (N.keys r h).1, hr⟩
  · rw [zip_keys kl]; exact keys2_sorted ..
  · refine undo ?_
    rw [Int.mul_sub, ← S_mul]
    have e : S n (fun r => d * (pf ((keys2 n parts s.makers).zip (W.drop (nums1 s nums).length)) r * vec T r k))
        = S n (fun r => (d * pf ((keys2 n parts s.makers).zip (W.drop (nums1 s nums).length)) r - (s.known.getD s.lead 0 * pf parts r - nums.getD s.lead 0 * pf s.makers r)) * vec T r k)
          + (s.known.getD s.lead 0 * S n (fun r => pf parts r * vec T r k) - nums.getD s.lead 0 * S n (fun r => pf s.makers r * vec T r k)) := by
      rw [← S_mul, ← S_mul, ← S_sub, ← S_add]
      refine S_congr n fun r _ => ?_
      rw [Int.sub_mul, Int.sub_mul, Int.mul_assoc, Int.mul_assoc, Int.mul_assoc]
      omega
    rw [e]
    have z1 := hnum k hk
    have z2 : f ∣ S n (fun r => (d * pf ((keys2 n parts s.makers).zip (W.drop (nums1 s nums).length)) r - (s.known.getD s.lead 0 * pf parts r - nums.getD s.lead 0 * pf s.makers r)) * vec T r k) :=
      S_dvd n fun r _ => Int.dvd_mul_of_dvd_left (hpf r)
    have z3 : f ∣ s.known.getD s.lead 0 * (nums.getD k 0 - S n (fun r => pf parts r * vec T r k)) := Int.dvd_mul_of_dvd_right (M.eq k hk)
    have z4 : f ∣ nums.getD s.lead 0 * (s.known.getD k 0 - S n (fun r => pf s.makers r * vec T r k)) := Int.dvd_mul_of_dvd_right (N.eq k hk)
    rw [Int.mul_sub] at z3 z4
    have z5 := Int.dvd_sub (Int.dvd_add z1 (Int.dvd_sub z3 z4)) z2
    refine (congrArg (f ∣ ·) ?_).mp z5
    omega
  · exact hbig _ (List.mem_of_mem_drop (List.of_mem_zip hz).2)
  · have z := hpf x
    have h0 : pf s.makers x = 0 := pf_none fun hm => hx (N.keys x hm).1
    rw [h0, Int.mul_zero, Int.sub_zero] at z
    have z2 := (Int.dvd_iff_dvd_of_dvd_sub z).mp (Int.dvd_mul_of_dvd_right hz)
    exact (D.dom _ _ z2).elim hs hu
  · refine undo ?_
    have z := hnum s.lead hl
    have e : s.known.getD s.lead 0 * nums.getD s.lead 0 - nums.getD s.lead 0 * s.known.getD s.lead 0 = 0 := by rw [Int.mul_comm]; omega
    rw [e, Int.sub_zero] at z
    exact z
  · refine undo ((Int.dvd_iff_dvd_of_dvd_sub (hnum k hk)).mpr ?_)
    exact Int.dvd_sub (Int.dvd_mul_of_dvd_right h1) (Int.dvd_mul_of_dvd_right h2)
/-- the known numbers of the steps -/
def kn (steps : List Stp) (i k : Nat) : Int := ((steps[i]?.map (·.known)).getD []).getD k 0
theorem kn_of {steps : List Stp} {i : Nat} {s : Stp} (h : steps[i]? = some s) (k : Nat) : kn steps i k = s.known.getD k 0 := by
  unfold kn; rw [h]; rfl
/-- a table: so many rows of a width, reduced, small -/
structure TabOk (f : Int) (w n : Nat) (T : List (List Int)) : Prop where
  len : T.length = n
  wid : ∀ l, l ∈ T → l.length = w
  red : ∀ l, l ∈ T → ∀ y, y ∈ l → Red f y
  big : ∀ l, l ∈ T → ∀ y, y ∈ l → y.natAbs ≤ 2 ^ 8
theorem TabOk.at_ (t : TabOk f w n T) (hx : x < n) : T.getD x [] ∈ T := by
  rw [List.getD_eq_getElem?_getD, List.getElem?_eq_getElem (by rw [t.len]; exact hx)]
  exact List.getElem_mem _
/-- what is left of a row behind i steps -/
structure LeftOk (f : Int) (w n : Nat) (T : List (List Int)) (rows : Nat → Prop) (x : Nat) (steps : List Stp) (i : Nat) (np : List Int × List (Nat × Int)) : Prop where
  mad : Mad f w n T (fun r => r = x ∨ rows r) (bet i) np.1 np.2
  unit : ¬ f ∣ pf np.2 x
  zero : ∀ (j : Nat) (s : Stp), j < i → steps[j]? = some s → f ∣ np.1.getD s.lead 0
theorem leftOf_start (D : Dom f) (t : TabOk f w n T) (hx : x < n) (steps : List Stp) : LeftOk f w n T rows x steps 0 (T.getD x [], [(x, 1)]) := by
  refine ⟨⟨t.wid _ (t.at_ hx), t.red _ (t.at_ hx), fun z hz => ?_, fun r hr => ?_, List.pairwise_singleton _ _, fun k hk => ?_, t.big _ (t.at_ hx), fun z hz => ?_⟩, ?_, fun j s h _ => absurd h (Nat.not_lt_zero j)⟩
  · rw [List.mem_singleton.mp hz]; exact fun h => absurd h D.one
  · have : r = x := by simpa using hr
    exact ⟨.inl this, this ▸ hx⟩
  · have e : S n (fun r => pf [(x, 1)] r * vec T r k) = vec T x k := by
      rw [← S_one n hx (vec T x k)]
      refine S_congr n fun r _ => ?_
      by_cases q : r = x
      · subst q
        rw [if_pos rfl, pf_of (l := [(r, 1)]) (by simp) (z := (r, 1)) List.mem_cons_self, Int.one_mul]
      · rw [if_neg q, pf_none (by simpa using q), Int.zero_mul]
    rw [e]
    show f ∣ (T.getD x []).getD k 0 - (T.getD x []).getD k 0
    rw [Int.sub_self]; exact Int.dvd_zero f
  · rw [List.mem_singleton.mp hz]
    show (1 : Int).natAbs ≤ 2 ^ 8
    decide
  · rw [pf_of (l := [(x, 1)]) (by simp) (z := (x, 1)) List.mem_cons_self]; exact D.one
theorem leftOf_step (D : Dom f) (hf : 0 ≤ f) (hf2 : f ≤ 13) (hx' : ¬ rows x) {steps : List Stp} (so : StpsOk f w n T rows steps) {i : Nat} {np : List Int × List (Nat × Int)} (h : LeftOk f w n T rows x steps i np) {s : Stp} (hs : steps[i]? = some s) :
    LeftOk f w n T rows x steps (i + 1) (redStep f n np s) := by
  obtain ⟨l1, l2⟩ := so.lead i s hs
  have hb : 8 ≤ bet i := bet_mono (Nat.zero_le i)
  obtain ⟨a, b, c, d⟩ := redStep_ok D hf hf2 hb h.mad h.unit (so.made i s hs) l1 l2 hx'
  refine ⟨a, b, fun j u hj hu => ?_⟩
  by_cases q : j = i
  · subst q
    rw [hs] at hu; cases hu
    exact c
  · exact d _ (so.lead j u hu).1 (h.zero j u (by omega) hu) (so.zero j i u s (by omega) hu hs)
theorem leftOf_ok (D : Dom f) (hf : 0 ≤ f) (hf2 : f ≤ 13) (t : TabOk f w n T) (hx : x < n) (hx' : ¬ rows x) {steps : List Stp} (so : StpsOk f w n T rows steps) : LeftOk f w n T rows x steps steps.length (leftOf f n T steps x) := by
  have key : ∀ i, i ≤ steps.length → LeftOk f w n T rows x steps i ((steps.take i).foldl (redStep f n) (T.getD x [], [(x, 1)])) := by
    intro i
    induction i with
    | zero => exact fun _ => leftOf_start D t hx steps
    | succ i ih =>
      intro hi
      have hs : steps[i]? = some steps[i] := List.getElem?_eq_getElem hi
      rw [List.take_add_one, hs, Option.toList_some, List.foldl_append]
      exact leftOf_step D hf hf2 hx' so (ih (by omega)) hs
  have := key steps.length (Nat.le_refl _)
  rw [List.take_length] at this
  exact this
theorem mem_leadsOf {nums : List Int} {l : Nat} : l ∈ leadsOf nums ↔ l < nums.length ∧ nums.getD l 0 ≠ 0 := by
  simp only [leadsOf, List.mem_filter, List.mem_range, decide_eq_true_eq]
theorem nodup_le : ∀ (n : Nat) (l : List Nat), l.Nodup → (∀ a, a ∈ l → a < n) → l.length ≤ n := by
  intro n
  induction n with
  | zero =>
    intro l _ h
    cases l with
    | nil => exact Nat.le_refl 0
    | cons a r => exact absurd (h a List.mem_cons_self) (Nat.not_lt_zero a)
  | succ n ih =>
    intro l hn h
    have e1 : (l.erase n).length ≤ n := ih _ (hn.erase n) fun a ha => by
      have h1 := h a (List.mem_of_mem_erase ha)
      have h2 : a ≠ n := fun q => by rw [q] at ha; exact (List.Nodup.not_mem_erase hn) ha
      omega
    by_cases hm : n ∈ l
    · have := List.length_erase_of_mem hm
      omega
    · rw [List.erase_of_not_mem hm] at e1
      omega
theorem StpsOk.length {steps : List Stp} (so : StpsOk f w n T rows steps) : steps.length ≤ w := by
  have h : (steps.map (·.lead)).length = steps.length := List.length_map ..
  rw [← h]
  refine nodup_le w _ ?_ fun a ha => ?_
  · rw [List.nodup_iff_pairwise_ne, List.pairwise_map, List.pairwise_iff_getElem]
    intro i j hi hj hij q
    have z := so.zero i j _ _ hij (List.getElem?_eq_getElem hi) (List.getElem?_eq_getElem hj)
    rw [q] at z
    exact (so.lead j _ (List.getElem?_eq_getElem hj)).2 z
  · obtain ⟨s, hs, rfl⟩ := List.mem_map.mp ha
    obtain ⟨i, hi, rfl⟩ := List.getElem_of_mem hs
    exact (so.lead i _ (List.getElem?_eq_getElem hi)).1
/-- a row is added -/
theorem addRow_ok (D : Dom f) (hf : 0 ≤ f) (hf2 : f ≤ 13) (t : TabOk f w n T) (hx : x < n) (hx' : ¬ rows x) {steps : List Stp} (so : StpsOk f w n T rows steps) : StpsOk f w n T (fun r => r = x ∨ rows r) (addRow f n T steps x) := by
  have L := leftOf_ok D hf hf2 t hx hx' so
  -- the span of a longer list of steps
  have ext : ∀ (steps' : List Stp), (∀ (i : Nat), i < steps.length → steps'[i]? = steps[i]?) → steps.length ≤ steps'.length → (∀ v : Nat → Int, (∀ k, k < w → v k = (leftOf f n T steps x).1.getD k 0) → Span f w steps'.length (kn steps') (fun _ => true) v) →
      ∀ r, (r = x ∨ rows r) → r < n → Span f w steps'.length (kn steps') (fun _ => true) (vec T r) := by
    intro steps' hsame hlen hnum
    have old : ∀ r, rows r → r < n → Span f w steps'.length (kn steps') (fun _ => true) (vec T r) := fun r hr hn => by
      refine Span.trans (K := kn steps) (q := fun _ => true) (m := steps.length) D (so.span r hr hn) fun i hi _ => ?_
      have e : kn steps i = kn steps' i := by
        funext k
        unfold kn; rw [hsame i hi]
      rw [e]
      exact Span.mem D (by omega) rfl
    intro r hr hn
    rcases hr with rfl | hr
    · -- pf r * T r is the numbers less the other rows
      refine Span.unit D L.unit (v := fun k => (leftOf f n T steps r).1.getD k 0 - S n (fun q => (if q = r then 0 else pf (leftOf f n T steps r).2 q) * vec T q k)) ?_ fun k hk => ?_
      · refine Span.comb D (hnum (fun k => (leftOf f n T steps r).1.getD k 0) fun _ _ => rfl) (Span.sum (K := vec T) (m := n) (c := fun q => if q = r then 0 else pf (leftOf f n T steps r).2 q) D fun q hq hc => ?_) 1 (-1) fun k _ => ?_
        · have h1 : q ≠ r := fun z => hc (if_pos z)
          have h2 : pf (leftOf f n T steps r).2 q ≠ 0 := fun z => hc (by rw [if_neg h1]; exact z)
          obtain ⟨h3, h4⟩ := L.mad.keys q (List.mem_map.mpr ⟨_, pf_mem h2, rfl⟩)
          exact old q (h3.elim (fun z => absurd z h1) id) h4
        · have e : (leftOf f n T steps r).1.getD k 0 - S n (fun q => (if q = r then 0 else pf (leftOf f n T steps r).2 q) * vec T q k) - (1 * (leftOf f n T steps r).1.getD k 0 + -1 * S n (fun q => (if q = r then 0 else pf (leftOf f n T steps r).2 q) * vec T q k)) = 0 := by omega
          rw [e]; exact Int.dvd_zero f
      · have z := L.mad.eq k hk
        have e : S n (fun q => (if q = r then 0 else pf (leftOf f n T steps r).2 q) * vec T q k) = S n (fun q => pf (leftOf f n T steps r).2 q * vec T q k) - pf (leftOf f n T steps r).2 r * vec T r k := by
          have e1 : S n (fun q => (if q = r then 0 else pf (leftOf f n T steps r).2 q) * vec T q k) = S n (fun q => if q = r then 0 else pf (leftOf f n T steps r).2 q * vec T q k) := S_congr n fun q _ => by
            by_cases h : q = r
            · rw [if_pos h, if_pos h, Int.zero_mul]
            · rw [if_neg h, if_neg h]
          rw [e1, S_at n hn 0 fun q => pf (leftOf f n T steps r).2 q * vec T q k]
          omega
        rw [e]
        have z2 := Int.dvd_neg.mpr z
        refine (congrArg (f ∣ ·) ?_).mp z2
        omega
    · exact old r hr hn
  unfold addRow
  cases hl : leadsOf (leftOf f n T steps x).1 with
  | nil =>
    have nz : ∀ k, (leftOf f n T steps x).1.getD k 0 = 0 := fun k => Classical.byContradiction fun h => by
      have : k ∈ leadsOf (leftOf f n T steps x).1 := mem_leadsOf.mpr ⟨Nat.lt_of_not_le fun h2 => h (getD_out h2), h⟩
      rw [hl] at this; cases this
    exact ⟨fun i s h => let m := so.made i s h; ⟨m.len, m.red, m.redp, fun r hr => ⟨.inr (m.keys r hr).1, (m.keys r hr).2⟩, m.srt, m.eq, m.big, m.bigp⟩, so.lead, so.zero,
      ext steps (fun _ _ => rfl) (Nat.le_refl _) fun v hv => Span.zero D fun k hk => by rw [hv k hk, nz k]; exact Int.dvd_zero f⟩
  | cons l ls =>
    have hm : l ∈ leadsOf (leftOf f n T steps x).1 := by rw [hl]; exact List.mem_cons_self
    obtain ⟨m1, m2⟩ := mem_leadsOf.mp hm
    rw [L.mad.len] at m1
    have hlast : (steps ++ [⟨l, (leftOf f n T steps x).1, (leftOf f n T steps x).2⟩])[steps.length]? = some ⟨l, (leftOf f n T steps x).1, (leftOf f n T steps x).2⟩ := by simp
    have hat : ∀ (i : Nat) (s : Stp), (steps ++ [⟨l, (leftOf f n T steps x).1, (leftOf f n T steps x).2⟩])[i]? = some s → steps[i]? = some s ∨ (i = steps.length ∧ s = ⟨l, (leftOf f n T steps x).1, (leftOf f n T steps x).2⟩) := fun i s h => by
      by_cases q : i < steps.length
      · rw [List.getElem?_append_left q] at h; exact .inl h
      · rw [List.getElem?_append_right (by omega)] at h
        have q2 : i - steps.length = 0 := by
          cases e : i - steps.length with
          | zero => rfl
          | succ j => rw [e] at h; simp at h
        rw [q2] at h
        exact .inr ⟨by omega, (Option.some.inj h).symm⟩
    refine ⟨fun i s h => ?_, fun i s h => ?_, fun i j s u hij hi hj => ?_, ext _ (fun i hi => List.getElem?_append_left hi) (by simp) fun v hv => ?_⟩
    · rcases hat i s h with h | ⟨rfl, rfl⟩
      · have m := so.made i s h
        exact ⟨m.len, m.red, m.redp, fun r hr => ⟨.inr (m.keys r hr).1, (m.keys r hr).2⟩, m.srt, m.eq, m.big, m.bigp⟩
      · exact L.mad
    · rcases hat i s h with h | ⟨rfl, rfl⟩
      · exact so.lead i s h
      · exact ⟨m1, fun z => m2 (L.mad.red _ (getD_mem0 (by rw [L.mad.len]; exact m1)) z)⟩
    · rcases hat j u hj with hj | ⟨rfl, rfl⟩
      · rcases hat i s hi with hi | ⟨rfl, rfl⟩
        · exact so.zero i j s u hij hi hj
        · have := (List.getElem?_eq_some_iff.mp hj).1
          omega
      · rcases hat i s hi with hi | ⟨rfl, rfl⟩
        · exact L.zero i s hij hi
        · omega
    · have e : Span f w (steps ++ [(⟨l, (leftOf f n T steps x).1, (leftOf f n T steps x).2⟩ : Stp)]).length (kn (steps ++ [(⟨l, (leftOf f n T steps x).1, (leftOf f n T steps x).2⟩ : Stp)])) (fun _ => true) (kn (steps ++ [(⟨l, (leftOf f n T steps x).1, (leftOf f n T steps x).2⟩ : Stp)]) steps.length) :=
        Span.mem D (by simp) rfl
      refine Span.unit D D.one e fun k hk => ?_
      rw [kn_of hlast k, hv k hk, Int.one_mul, Int.sub_self]
      exact Int.dvd_zero f
theorem baseOf_ok (D : Dom f) (hf : 0 ≤ f) (hf2 : f ≤ 13) (t : TabOk f w n T) {lot : List Nat} (hn : lot.Nodup) (hl : ∀ r, r ∈ lot → r < n) : StpsOk f w n T (· ∈ lot) (baseOf f n T lot) := by
  have key : ∀ (l done : List Nat) (steps : List Stp), (done ++ l).Nodup → (∀ r, r ∈ l → r < n) → StpsOk f w n T (· ∈ done) steps → StpsOk f w n T (· ∈ done ++ l) (l.foldl (addRow f n T) steps) := by
    intro l
    induction l with
    | nil => intro done steps _ _ so; rw [List.append_nil]; exact so
    | cons a l ih =>
      intro done steps hn hl so
      have hd : done ++ a :: l = (done ++ [a]) ++ l := by simp
      have ha : a ∉ done := fun hm => (List.nodup_append.mp hn).2.2 a hm a List.mem_cons_self rfl
      rw [hd] at hn ⊢
      refine ih (done ++ [a]) _ hn (fun r hr => hl r (List.mem_cons_of_mem _ hr)) ?_
      have z := addRow_ok D hf hf2 t (hl a List.mem_cons_self) ha so
      have e : (fun r => r ∈ done ++ [a]) = fun r => r = a ∨ r ∈ done := by
        funext r
        simp only [List.mem_append, List.mem_singleton, eq_iff_iff]
        exact Or.comm
      rw [e]; exact z
  have z := key lot [] [] (by simpa using hn) hl (⟨fun i s h => by simp at h, fun i s h => by simp at h, fun i j s u _ h => by simp at h, fun r h => nomatch h⟩ : StpsOk f w n T (· ∈ ([] : List Nat)) [])
  rw [List.nil_append] at z
  exact z
/-- what a look gives -/
theorem rel_some (D : Dom f) (hf : 0 ≤ f) (hf2 : f ≤ 13) (t : TabOk f w n T) {lot : List Nat} (hn : lot.Nodup) (hl : ∀ r, r ∈ lot → r < n) (hx : x < n) (hxl : x ∉ lot) {kvs : List (Nat × Int)} (h : relOf f n T (baseOf f n T lot) x = some kvs) :
    ∃ (d : Int) (c : Nat → Int), ¬ f ∣ d ∧ (∀ r, r ∉ (kvs.map (·.1)).filter (fun o => o ≠ x) → c r = 0) ∧ (∀ r, r ∈ (kvs.map (·.1)).filter (fun o => o ≠ x) → ¬ f ∣ c r) ∧ ∀ k, k < w → f ∣ d * vec T x k - S n (fun r => c r * vec T r k) := by
  have L := leftOf_ok D hf hf2 t hx hxl (baseOf_ok D hf hf2 t hn hl)
  generalize hlo : leftOf f n T (baseOf f n T lot) x = np at L
  unfold relOf at h
  rw [hlo] at h
  split at h
  · cases h
  · rename_i hany
    have hk := Option.some.inj h
    have nz : ∀ y, y ∈ np.1 → y = 0 := fun y hy => Classical.byContradiction fun z => hany (List.any_eq_true.mpr ⟨y, hy, by simpa using z⟩)
    have nd : (np.2.map (·.1)).Nodup := L.mad.srt.imp fun h => Nat.ne_of_lt h
    have mk : ∀ r, r ∈ kvs.map (·.1) ↔ pf np.2 r ≠ 0 := fun r => by
      rw [← hk]
      constructor
      · intro h
        obtain ⟨z, hz, rfl⟩ := List.mem_map.mp h
        obtain ⟨h1, h2⟩ := List.mem_filter.mp hz
        rw [pf_of nd h1]
        simpa using h2
      · exact fun h => List.mem_map.mpr ⟨_, List.mem_filter.mpr ⟨pf_mem h, by simpa using h⟩, rfl⟩
    refine ⟨pf np.2 x, fun r => if r = x then 0 else - pf np.2 r, L.unit, fun r hr => ?_, fun r hr => ?_, fun k hk => ?_⟩
    · show (if r = x then 0 else - pf np.2 r) = 0
      by_cases q : r = x
      · exact if_pos q
      · rw [if_neg q]
        have : pf np.2 r = 0 := Classical.byContradiction fun z => hr (List.mem_filter.mpr ⟨(mk r).mpr z, by simpa using q⟩)
        rw [this]; rfl
    · obtain ⟨h1, h2⟩ := List.mem_filter.mp hr
      have q : r ≠ x := by simpa using h2
      show ¬ f ∣ (if r = x then 0 else - pf np.2 r)
      rw [if_neg q, Int.dvd_neg]
      have h3 := (mk r).mp h1
      exact fun z => h3 (L.mad.redp _ (pf_mem h3) z)
    · have z := L.mad.eq k hk
      have e0 : np.1.getD k 0 = 0 := nz _ (getD_mem0 (by rw [L.mad.len]; exact hk))
      rw [e0, Int.zero_sub, Int.dvd_neg] at z
      have e : S n (fun r => (if r = x then 0 else - pf np.2 r) * vec T r k) = pf np.2 x * vec T x k - S n (fun r => pf np.2 r * vec T r k) := by
        have e1 : S n (fun r => (if r = x then 0 else - pf np.2 r) * vec T r k) = S n (fun r => if r = x then 0 else - (pf np.2 r * vec T r k)) := S_congr n fun r _ => by
          by_cases h : r = x
          · rw [if_pos h, if_pos h, Int.zero_mul]
          · rw [if_neg h, if_neg h, Int.neg_mul]
        rw [e1, S_at n hx 0 fun r => - (pf np.2 r * vec T r k), S_neg]
        omega
      rw [e]
      refine (congrArg (f ∣ ·) ?_).mp z
      omega
theorem rel_keys (D : Dom f) (hf : 0 ≤ f) (hf2 : f ≤ 13) (t : TabOk f w n T) {lot : List Nat} (hn : lot.Nodup) (hl : ∀ r, r ∈ lot → r < n) (hx : x < n) (hxl : x ∉ lot) {kvs : List (Nat × Int)} (h : relOf f n T (baseOf f n T lot) x = some kvs) :
    (kvs.map (·.1)).Pairwise (· < ·) ∧ ∀ r, r ∈ kvs.map (·.1) → r = x ∨ r ∈ lot := by
  have L := leftOf_ok D hf hf2 t hx hxl (baseOf_ok D hf hf2 t hn hl)
  unfold relOf at h
  split at h
  · cases h
  · rw [← Option.some.inj h]
    refine ⟨List.Pairwise.sublist (List.Sublist.map _ List.filter_sublist) L.mad.srt, fun r hr => ?_⟩
    obtain ⟨z, hz, rfl⟩ := List.mem_map.mp hr
    exact (L.mad.keys _ (List.mem_map.mpr ⟨z, (List.mem_filter.mp hz).1, rfl⟩)).1
theorem rel_none (D : Dom f) (hf : 0 ≤ f) (hf2 : f ≤ 13) (t : TabOk f w n T) {lot : List Nat} (hn : lot.Nodup) (hl : ∀ r, r ∈ lot → r < n) (hx : x < n) (hxl : x ∉ lot) (h : relOf f n T (baseOf f n T lot) x = none) :
    ¬ Span f w n (vec T) (fun r => lot.contains r) (vec T x) := by
  have so := baseOf_ok D hf hf2 t hn hl
  have L := leftOf_ok D hf hf2 t hx hxl so
  intro hsp
  generalize hst : baseOf f n T lot = steps at so L h
  generalize hlo : leftOf f n T steps x = np at L
  unfold relOf at h
  rw [hlo] at h
  split at h
  · rename_i hany
    obtain ⟨y, hy, hne⟩ := List.any_eq_true.mp hany
    have hne : y ≠ 0 := by simpa using hne
    obtain ⟨k, hk, rfl⟩ := List.getElem_of_mem hy
    -- the numbers are in the span of the steps
    have rowsp : ∀ r, r < n → lot.contains r = true → Span f w steps.length (kn steps) (fun _ => true) (vec T r) := fun r hr hm => so.span r (List.contains_iff_mem.mp hm) hr
    have xsp : Span f w steps.length (kn steps) (fun _ => true) (vec T x) := Span.trans D hsp rowsp
    have nsp : Span f w steps.length (kn steps) (fun _ => true) (fun k => np.1.getD k 0) := by
      refine Span.unit D D.one (v := fun k => S n (fun r => pf np.2 r * vec T r k)) (Span.sum (K := vec T) (m := n) (c := pf np.2) D fun r hr hc => ?_) fun k hk => by rw [Int.one_mul]; exact L.mad.eq k hk
      obtain ⟨h3, h4⟩ := L.mad.keys r (List.mem_map.mpr ⟨_, pf_mem hc, rfl⟩)
      rcases h3 with rfl | h3
      · exact xsp
      · exact rowsp r hr (List.contains_iff_mem.mpr h3)
    have kw : k < w := by rw [← L.mad.len]; exact hk
    have z := echelon D (lead := fun i => ((steps[i]?.map (·.lead)).getD 0)) (fun i hi => by rw [List.getElem?_eq_getElem hi]; exact (so.lead i _ (List.getElem?_eq_getElem hi)).1)
      (fun i hi => by
        rw [kn_of (List.getElem?_eq_getElem hi), List.getElem?_eq_getElem hi]
        exact (so.lead i _ (List.getElem?_eq_getElem hi)).2)
      (fun i j hij hj => by
        rw [kn_of (List.getElem?_eq_getElem hj), List.getElem?_eq_getElem (Nat.lt_trans hij hj)]
        exact so.zero i j _ _ hij (List.getElem?_eq_getElem (Nat.lt_trans hij hj)) (List.getElem?_eq_getElem hj)) nsp
      (fun i hi => by
        rw [List.getElem?_eq_getElem hi]
        exact L.zero i _ hi (List.getElem?_eq_getElem hi)) k kw
    have e : np.1.getD k 0 = np.1[k] := by rw [List.getD_eq_getElem?_getD, List.getElem?_eq_getElem hk]; rfl
    rw [e] at z
    exact hne (L.mad.red _ (List.getElem_mem hk) z)
  · cases h
end
end KP
end
section
/-! The law's own rank, by clearing columns: it is the size of a free part that makes all rows. Plain Lean. -/
namespace KP
def mdl (f : Int) (l : List Int) : List Int := if 0 < f then l.map (· % f) else l
/-- a row cleared by the head at a place -/
def clr (f : Int) (p : Nat) (head row : List Int) : List Int := mdl f (List.zipWith (fun x y => head.getD p 0 * x - row.getD p 0 * y) row head)
def rankStep (f : Int) (st : List (List Int) × Nat) (p : Nat) : List (List Int) × Nat :=
  match st.1.filter fun row => row.getD p 0 ≠ 0 with
  | [] => st
  | head :: _ => ((st.1.erase head).map (clr f p head), st.2 + 1)
/-- the width of the first row -/
def wid (rows : List (List Int)) : Nat := match rows with
  | [] => 0
  | r :: _ => r.length
def lawRank (f : Int) (rows : List (List Int)) : Nat := ((List.range (wid (rows.map (mdl f)))).foldl (rankStep f) (rows.map (mdl f), 0)).2

/-! ### rows with their names -/
def tagV (l : List (Nat × List Int)) (r k : Nat) : Int := ((l.lookup r).getD []).getD k 0
theorem lookup_of {β : Type} {l : List (Nat × β)} (hn : (l.map (·.1)).Nodup) {z : Nat × β} (h : z ∈ l) : l.lookup z.1 = some z.2 := by
  induction l with
  | nil => cases h
  | cons a l ih =>
    obtain ⟨n1, n2⟩ := List.nodup_cons.mp hn
    obtain ⟨a1, a2⟩ := a
    rw [List.lookup_cons]
    rcases List.mem_cons.mp h with rfl | h
    · rw [beq_self_eq_true]
    · have : (z.1 == a1) = false := by
        rw [beq_eq_false_iff_ne]
        exact fun q => n1 (List.mem_map.mpr ⟨z, h, q⟩)
      rw [this]
      exact ih n2 h
theorem tagV_of {l : List (Nat × List Int)} (hn : (l.map (·.1)).Nodup) {z : Nat × List Int} (h : z ∈ l) (k : Nat) : tagV l z.1 k = z.2.getD k 0 := by
  unfold tagV; rw [lookup_of hn h]; rfl
/-- the first one of a list of rows, with its name, and the others -/
theorem erase_split : ∀ {l : List (Nat × List Int)} {h : List Int}, h ∈ l.map (·.2) → ∃ a b t, l = a ++ (t, h) :: b ∧ (l.map (·.2)).erase h = (a ++ b).map (·.2)
  | [], _, hm => nomatch hm
  | z :: l, h, hm => by
    obtain ⟨t, v⟩ := z
    by_cases q : v = h
    · subst q
      exact ⟨[], l, t, rfl, by rw [List.map_cons, List.erase_cons_head]; rfl⟩
    · have hm' : h ∈ l.map (·.2) := (List.mem_cons.mp hm).elim (fun z => absurd z.symm q) id
      obtain ⟨a, b, t', e1, e2⟩ := erase_split hm'
      refine ⟨(t, v) :: a, b, t', by rw [e1]; rfl, ?_⟩
      rw [List.map_cons, List.erase_cons_tail (by simpa using q), e2]; rfl
section
variable {f : Int} {w n : Nat}
theorem mdl_get (l : List Int) (k : Nat) : f ∣ (mdl f l).getD k 0 - l.getD k 0 := by
  unfold mdl
  split
  · rw [getD_map0 _ (Int.zero_emod f)]
    have : f ∣ l.getD k 0 - l.getD k 0 % f := Int.dvd_self_sub_emod
    have e : l.getD k 0 % f - l.getD k 0 = - (l.getD k 0 - l.getD k 0 % f) := by omega
    rw [e]; exact Int.dvd_neg.mpr this
  · rw [Int.sub_self]; exact Int.dvd_zero f
theorem mdl_len (l : List Int) : (mdl f l).length = l.length := by
  unfold mdl
  split
  · exact List.length_map ..
  · rfl
theorem mdl_red (hf : 0 ≤ f) (l : List Int) : ∀ x, x ∈ mdl f l → Red f x := by
  intro x hx
  unfold mdl at hx
  split at hx
  · rename_i h
    obtain ⟨y, _, rfl⟩ := List.mem_map.mp hx
    intro z
    have h1 := Int.emod_nonneg y (show f ≠ 0 by omega)
    have h2 := Int.emod_lt_of_pos y h
    rw [← Int.emod_eq_of_lt h1 h2]; exact Int.emod_eq_zero_of_dvd z
  · have f0 : f = 0 := by omega
    intro z
    rw [f0] at z
    exact Int.zero_dvd.mp z
/-- the rows as they stand -/
structure RkOk (f : Int) (w n p : Nat) (l : List (Nat × List Int)) : Prop where
  nd : (l.map (·.1)).Nodup
  lt : ∀ z, z ∈ l → z.1 < n
  len : ∀ z, z ∈ l → z.2.length = w
  red : ∀ z, z ∈ l → ∀ y, y ∈ z.2 → Red f y
  zero : ∀ z, z ∈ l → ∀ k, k < p → z.2.getD k 0 = 0
/-- a free part that makes all -/
def HasBase (f : Int) (w n : Nat) (l : List (Nat × List Int)) (m : Nat) : Prop :=
  ∃ A : Nat → Bool, (∀ r, A r = true → r ∈ l.map (·.1)) ∧ cnt n A = m ∧ Free f w n (tagV l) A ∧ ∀ r, r ∈ l.map (·.1) → Span f w n (tagV l) A (tagV l r)
theorem clr_get {p : Nat} {head row : List Int} (h1 : head.length = w) (h2 : row.length = w) {k : Nat} (hk : k < w) : f ∣ (clr f p head row).getD k 0 - (head.getD p 0 * row.getD k 0 - row.getD p 0 * head.getD k 0) := by
  have z := mdl_get (f := f) (List.zipWith (fun x y => head.getD p 0 * x - row.getD p 0 * y) row head) k
  rw [getD_zipW _ _ _ (by rw [h2]; exact hk) (by rw [h1]; exact hk)] at z
  exact z
theorem clr_len {p : Nat} {head row : List Int} (h1 : head.length = w) (h2 : row.length = w) : (clr f p head row).length = w := by
  unfold clr
  rw [mdl_len, List.length_zipWith, h1, h2, Nat.min_self]
theorem clr_ok (hf : 0 ≤ f) {p : Nat} (hp : p < w) {a b : List (Nat × List Int)} {t : Nat} {head : List Int} (R : RkOk f w n p (a ++ (t, head) :: b)) : RkOk f w n (p + 1) ((a ++ b).map fun z => (z.1, clr f p head z.2)) := by
  have hh : (t, head) ∈ a ++ (t, head) :: b := List.mem_append_right _ List.mem_cons_self
  have hs : ∀ z, z ∈ a ++ b → z ∈ a ++ (t, head) :: b := fun z hz => by
    rcases List.mem_append.mp hz with h | h
    · exact List.mem_append_left _ h
    · exact List.mem_append_right _ (List.mem_cons_of_mem _ h)
  have k1 : ((a ++ b).map fun z => (z.1, clr f p head z.2)).map (·.1) = (a ++ b).map (·.1) := by rw [List.map_map]; rfl
  refine ⟨?_, fun z hz => ?_, fun z hz => ?_, fun z hz => ?_, fun z hz k hk => ?_⟩
  · rw [k1]
    refine List.Nodup.sublist (List.Sublist.map _ ?_) R.nd
    exact List.Sublist.append (List.Sublist.refl _) (List.sublist_cons_self _ _)
  · obtain ⟨u, hu, rfl⟩ := List.mem_map.mp hz
    exact R.lt u (hs u hu)
  · obtain ⟨u, hu, rfl⟩ := List.mem_map.mp hz
    exact clr_len (R.len _ hh) (R.len u (hs u hu))
  · obtain ⟨u, hu, rfl⟩ := List.mem_map.mp hz
    exact mdl_red hf _
  · obtain ⟨u, hu, rfl⟩ := List.mem_map.mp hz
    have kw : k < w := by omega
    have hl := clr_len (f := f) (p := p) (R.len _ hh) (R.len u (hs u hu))
    have z1 := clr_get (f := f) (p := p) (R.len _ hh) (R.len u (hs u hu)) kw
    refine mdl_red hf _ _ (getD_mem0 (l := clr f p head u.2) (by rw [hl]; exact kw)) ?_
    have e : head.getD p 0 * u.2.getD k 0 - u.2.getD p 0 * head.getD k 0 = 0 := by
      by_cases q : k = p
      · subst q; rw [Int.mul_comm]; omega
      · have e1 : u.2.getD k 0 = 0 := R.zero u (hs u hu) k (by omega)
        have e2 : head.getD k 0 = 0 := R.zero _ hh k (by omega)
        rw [e1, e2, Int.mul_zero, Int.mul_zero]; rfl
    rw [e, Int.sub_zero] at z1
    exact z1
/-- a base of the cleared rows, with the head, is one of the rows -/
theorem base_step (D : Dom f) {p : Nat} (hp : p < w) {a b : List (Nat × List Int)} {t : Nat} {head : List Int} (R : RkOk f w n p (a ++ (t, head) :: b)) (hh0 : head.getD p 0 ≠ 0) {m : Nat}
    (h : HasBase f w n ((a ++ b).map fun z => (z.1, clr f p head z.2)) m) (R' : RkOk f w n (p + 1) ((a ++ b).map fun z => (z.1, clr f p head z.2))) : HasBase f w n (a ++ (t, head) :: b) (m + 1) := by
  obtain ⟨A, hA, hm, hF, hS⟩ := h
  generalize hL : a ++ (t, head) :: b = L at R
  have hh : (t, head) ∈ L := by rw [← hL]; exact List.mem_append_right _ List.mem_cons_self
  have hs : ∀ z, z ∈ a ++ b → z ∈ L := fun z hz => by
    rw [← hL]
    rcases List.mem_append.mp hz with h | h
    · exact List.mem_append_left _ h
    · exact List.mem_append_right _ (List.mem_cons_of_mem _ h)
  have k1 : ((a ++ b).map fun z => (z.1, clr f p head z.2)).map (·.1) = (a ++ b).map (·.1) := by rw [List.map_map]; rfl
  have hsplit : ∀ r, r ∈ L.map (·.1) → r = t ∨ r ∈ (a ++ b).map (·.1) := fun r hr => by
    rw [← hL, List.map_append, List.map_cons] at hr
    rw [List.map_append]
    rcases List.mem_append.mp hr with h | h
    · exact .inr (List.mem_append_left _ h)
    · rcases List.mem_cons.mp h with h | h
      · exact .inl h
      · exact .inr (List.mem_append_right _ h)
  have tn : t ∉ (a ++ b).map (·.1) := by
    have nd := R.nd
    rw [← hL, List.map_append, List.map_cons] at nd
    rw [List.map_append]
    obtain ⟨n1, n2, n3⟩ := List.nodup_append.mp nd
    obtain ⟨n4, n5⟩ := List.nodup_cons.mp n2
    intro hm
    rcases List.mem_append.mp hm with h | h
    · exact n3 t h t List.mem_cons_self rfl
    · exact n4 h
  rw [k1] at hA hS
  have At : A t = false := by
    cases e : A t with
    | false => rfl
    | true => exact absurd (hA t e) tn
  have tlt : t < n := R.lt _ hh
  have hl := R.len _ hh
  have hU : ∀ k, tagV L t k = head.getD k 0 := fun k => tagV_of R.nd hh k
  have hu : ¬ f ∣ tagV L t p := by
    rw [hU]
    exact fun z => hh0 (R.red _ hh _ (getD_mem0 (by rw [hl]; exact hp)) z)
  -- the cleared rows by the rows
  have hV : ∀ r, r ∈ (a ++ b).map (·.1) → ∀ k, k < w → f ∣ tagV ((a ++ b).map fun z => (z.1, clr f p head z.2)) r k - (tagV L t p * tagV L r k - tagV L r p * tagV L t k) := fun r hr k hk => by
    obtain ⟨z, hz, rfl⟩ := List.mem_map.mp hr
    rw [tagV_of R.nd (hs z hz), tagV_of R.nd (hs z hz), hU, hU, tagV_of R'.nd (z := (z.1, clr f p head z.2)) (List.mem_map.mpr ⟨z, hz, rfl⟩)]
    exact clr_get hl (R.len z (hs z hz)) hk
  refine ⟨fun r => A r || decide (r = t), fun r hr => ?_, by rw [cnt_ins n tlt At, hm], fun c h1 h2 => ?_, fun r hr => ?_⟩
  · simp only [Bool.or_eq_true, decide_eq_true_eq] at hr
    rcases hr with hr | rfl
    · obtain ⟨z, hz, rfl⟩ := List.mem_map.mp (hA r hr)
      exact List.mem_map.mpr ⟨z, hs z hz, rfl⟩
    · exact List.mem_map.mpr ⟨_, hh, rfl⟩
  · -- free
    have split : ∀ k, S n (fun r => c r * tagV L r k) = S n (fun r => (if r = t then 0 else c r) * tagV L r k) + c t * tagV L t k := fun k => by
      have e1 : S n (fun r => (if r = t then 0 else c r) * tagV L r k) = S n (fun r => if r = t then 0 else c r * tagV L r k) := S_congr n fun r _ => by
        by_cases q : r = t
        · rw [if_pos q, if_pos q, Int.zero_mul]
        · rw [if_neg q, if_neg q]
      rw [e1, S_at n tlt 0 fun r => c r * tagV L r k]; omega
    have hc0 : ∀ r, A r = false → (if r = t then 0 else c r) = 0 := fun r hr => by
      by_cases q : r = t
      · exact if_pos q
      · rw [if_neg q]; exact h1 r (by simp [hr, q])
    have key : ∀ k, k < w → f ∣ S n (fun r => (if r = t then 0 else c r) * tagV ((a ++ b).map fun z => (z.1, clr f p head z.2)) r k) := fun k hk => by
      have e2 : f ∣ S n (fun r => (if r = t then 0 else c r) * tagV ((a ++ b).map fun z => (z.1, clr f p head z.2)) r k) - S n (fun r => (if r = t then 0 else c r) * (tagV L t p * tagV L r k - tagV L r p * tagV L t k)) := by
        rw [← S_sub]
        refine S_dvd n fun r _ => ?_
        rw [← Int.mul_sub]
        cases e : A r with
        | true => exact Int.dvd_mul_of_dvd_right (hV r (hA r e) k hk)
        | false => rw [hc0 r e, Int.zero_mul]; exact Int.dvd_zero f
      have e3 : S n (fun r => (if r = t then 0 else c r) * (tagV L t p * tagV L r k - tagV L r p * tagV L t k))
          = tagV L t p * S n (fun r => (if r = t then 0 else c r) * tagV L r k) - tagV L t k * S n (fun r => (if r = t then 0 else c r) * tagV L r p) := by
        rw [← S_mul, ← S_mul, ← S_sub]
        refine S_congr n fun r _ => ?_
        rw [Int.mul_sub, ← Int.mul_assoc, ← Int.mul_assoc, Int.mul_comm _ (tagV L t p), Int.mul_assoc, Int.mul_comm _ (tagV L t k)]
      have e4 : tagV L t p * S n (fun r => (if r = t then 0 else c r) * tagV L r k) - tagV L t k * S n (fun r => (if r = t then 0 else c r) * tagV L r p)
          = tagV L t p * S n (fun r => c r * tagV L r k) - tagV L t k * S n (fun r => c r * tagV L r p) := by
        rw [split k, split p, Int.mul_add, Int.mul_add]
        have : tagV L t p * (c t * tagV L t k) = tagV L t k * (c t * tagV L t p) := by
          rw [Int.mul_comm, Int.mul_comm (c t), Int.mul_assoc, Int.mul_comm (c t)] <;> ac_rfl
        omega
      rw [e3, e4] at e2
      refine (Int.dvd_iff_dvd_of_dvd_sub e2).mpr (Int.dvd_sub (Int.dvd_mul_of_dvd_right (h2 k hk)) (Int.dvd_mul_of_dvd_right (h2 p hp)))
    have z := hF (fun r => if r = t then 0 else c r) hc0 key
    have ct : f ∣ c t := by
      have z2 := h2 p hp
      rw [split p] at z2
      have z3 : f ∣ S n (fun r => (if r = t then 0 else c r) * tagV L r p) := S_dvd n fun r hr => Int.dvd_mul_of_dvd_left (z r hr)
      have z4 : f ∣ c t * tagV L t p := (Int.dvd_iff_dvd_of_dvd_add (by rw [Int.add_comm]; exact z2)).mpr z3
      exact (D.dom _ _ z4).elim id fun q => absurd q hu
    intro r hr
    by_cases q : r = t
    · rw [q]; exact ct
    · have := z r hr
      rwa [if_neg q] at this
  · rcases hsplit r hr with rfl | hr'
    · exact Span.mem D tlt (by simp)
    · obtain ⟨d, c, hd, hc, hz⟩ := hS r hr'
      refine ⟨d * tagV L t p, fun q => if q = t then d * tagV L r p - S n (fun s => c s * tagV L s p) else c q * tagV L t p, fun z => (D.dom _ _ z).elim hd hu, fun q hq => ?_, fun k hk => ?_⟩
      · simp only [Bool.or_eq_false_iff, decide_eq_false_iff_not] at hq
        show (if q = t then _ else c q * tagV L t p) = 0
        rw [if_neg hq.2, hc q hq.1, Int.zero_mul]
      · have e1 : S n (fun q => (if q = t then d * tagV L r p - S n (fun s => c s * tagV L s p) else c q * tagV L t p) * tagV L q k)
            = S n (fun q => c q * tagV L t p * tagV L q k) + (d * tagV L r p - S n (fun s => c s * tagV L s p)) * tagV L t k := by
          have e2 : S n (fun q => (if q = t then d * tagV L r p - S n (fun s => c s * tagV L s p) else c q * tagV L t p) * tagV L q k)
              = S n (fun q => if q = t then (d * tagV L r p - S n (fun s => c s * tagV L s p)) * tagV L t k else c q * tagV L t p * tagV L q k) := S_congr n fun q _ => by
            by_cases h : q = t
            · subst h; rw [if_pos rfl, if_pos rfl]
            · rw [if_neg h, if_neg h]
          rw [e2, S_at n tlt _ fun q => c q * tagV L t p * tagV L q k, hc t At]
          simp only [Int.zero_mul]
          omega
        rw [e1]
        have z1 := hz k hk
        have z2 : f ∣ d * (tagV ((a ++ b).map fun z => (z.1, clr f p head z.2)) r k - (tagV L t p * tagV L r k - tagV L r p * tagV L t k)) := Int.dvd_mul_of_dvd_right (hV r hr' k hk)
        have z3 : f ∣ S n (fun q => c q * (tagV ((a ++ b).map fun z => (z.1, clr f p head z.2)) q k - (tagV L t p * tagV L q k - tagV L q p * tagV L t k))) := S_dvd n fun q _ => by
          cases e : A q with
          | true => exact Int.dvd_mul_of_dvd_right (hV q (hA q e) k hk)
          | false => rw [hc q e, Int.zero_mul]; exact Int.dvd_zero f
        have e5 : S n (fun q => c q * (tagV ((a ++ b).map fun z => (z.1, clr f p head z.2)) q k - (tagV L t p * tagV L q k - tagV L q p * tagV L t k)))
            = S n (fun q => c q * tagV ((a ++ b).map fun z => (z.1, clr f p head z.2)) q k) - (S n (fun q => c q * tagV L t p * tagV L q k) - tagV L t k * S n (fun s => c s * tagV L s p)) := by
          rw [← S_mul, ← S_sub, ← S_sub]
          refine S_congr n fun q _ => ?_
          rw [Int.mul_sub, Int.mul_sub, Int.mul_assoc, ← Int.mul_assoc (c q) (tagV L q p), Int.mul_comm (tagV L t k)]
        rw [e5] at z3
        have z4 := Int.dvd_add (Int.dvd_sub z1 z2) z3
        refine (congrArg (f ∣ ·) ?_).mp z4
        rw [Int.mul_sub, Int.mul_sub, Int.sub_mul, Int.mul_assoc d, Int.mul_assoc d, Int.mul_comm (tagV L t k)]
        omega
/-- column by column -/
theorem rank_fold (D : Dom f) (hf : 0 ≤ f) : ∀ (ps : List Nat) (p : Nat) (l : List (Nat × List Int)) (k : Nat), ps = List.range' p ps.length → p + ps.length = w → RkOk f w n p l →
    ∃ m, (ps.foldl (rankStep f) (l.map (·.2), k)).2 = k + m ∧ HasBase f w n l m
  | [], p, l, k, _, hw, R => ⟨0, rfl, fun _ => false, fun _ h => (nomatch h), cnt_zero n fun _ _ => rfl, Free.empty fun _ => rfl, fun r hr => Span.zero D fun k hk => by
      obtain ⟨z, hz, rfl⟩ := List.mem_map.mp hr
      rw [tagV_of R.nd hz, R.zero z hz k (by simp at hw; omega)]
      exact Int.dvd_zero f⟩
  | q :: ps, p, l, k, hps, hw, R => by
    rw [List.length_cons, List.range'_succ] at hps
    have hq : q = p := (List.cons.inj hps).1
    have hps' := (List.cons.inj hps).2
    subst hq
    have hw' : q + 1 + ps.length = w := by rw [List.length_cons] at hw; omega
    have hqw : q < w := by omega
    rw [List.foldl_cons]
    unfold rankStep
    cases hfl : (l.map (·.2)).filter fun row => row.getD q 0 ≠ 0 with
    | nil =>
      refine rank_fold D hf ps (q + 1) l k hps' hw' ⟨R.nd, R.lt, R.len, R.red, fun z hz j hj => ?_⟩
      by_cases e : j = q
      · subst e
        refine Classical.byContradiction fun hne => ?_
        have : z.2 ∈ (l.map (·.2)).filter fun row => row.getD j 0 ≠ 0 := List.mem_filter.mpr ⟨List.mem_map.mpr ⟨z, hz, rfl⟩, by simpa using hne⟩
        rw [hfl] at this; cases this
      · exact R.zero z hz j (by omega)
    | cons head rest =>
      have hm : head ∈ (l.map (·.2)).filter fun row => row.getD q 0 ≠ 0 := by rw [hfl]; exact List.mem_cons_self
      obtain ⟨h1, h2⟩ := List.mem_filter.mp hm
      obtain ⟨a, b, t, e1, e2⟩ := erase_split h1
      subst e1
      have R' := clr_ok hf hqw R
      have e3 : ((((a ++ (t, head) :: b).map (·.2)).erase head).map (clr f q head)) = ((a ++ b).map fun z => (z.1, clr f q head z.2)).map (·.2) := by
        rw [e2, List.map_map, List.map_map]; rfl
      show ∃ m, (ps.foldl (rankStep f) ((((a ++ (t, head) :: b).map (·.2)).erase head).map (clr f q head), k + 1)).2 = k + m ∧ _
      rw [e3]
      obtain ⟨m, hm1, hm2⟩ := rank_fold D hf ps (q + 1) _ (k + 1) hps' hw' R'
      exact ⟨m + 1, by omega, base_step D hqw R (by simpa using h2) hm2 R'⟩
/-- THE RANK of some rows of a table, as the law reckons it over the raw numbers T0 -/
theorem lawRank_ok (D : Dom f) (hf : 0 ≤ f) {T0 : List (List Int)} (hT : T0.length = n) (hw : ∀ l, l ∈ T0 → l.length = w) {lot : List Nat} (hn : lot.Nodup) (hl : ∀ r, r ∈ lot → r < n) :
    ∃ A : Nat → Bool, (∀ r, A r = true → r ∈ lot) ∧ cnt n A = lawRank f (lot.map fun r => T0.getD r []) ∧ Free f w n (vec (T0.map (mdl f))) A ∧ ∀ r, r ∈ lot → Span f w n (vec (T0.map (mdl f))) A (vec (T0.map (mdl f)) r) := by
  let l : List (Nat × List Int) := lot.map fun r => (r, mdl f (T0.getD r []))
  have k1 : l.map (·.1) = lot := by simp only [l, List.map_map]; exact (List.map_congr_left fun _ _ => rfl).trans (List.map_id _)
  have k2 : l.map (·.2) = (lot.map fun r => T0.getD r []).map (mdl f) := by simp only [l, List.map_map]; rfl
  have at_ : ∀ r, r < n → T0.getD r [] ∈ T0 := fun r hr => by
    rw [List.getD_eq_getElem?_getD, List.getElem?_eq_getElem (by rw [hT]; exact hr)]
    exact List.getElem_mem _
  have R : RkOk f w n 0 l := by
    refine ⟨by rw [k1]; exact hn, fun z hz => ?_, fun z hz => ?_, fun z hz => ?_, fun z hz k hk => absurd hk (Nat.not_lt_zero k)⟩
    · obtain ⟨r, hr, rfl⟩ := List.mem_map.mp hz
      exact hl r hr
    · obtain ⟨r, hr, rfl⟩ := List.mem_map.mp hz
      show (mdl f _).length = w
      rw [mdl_len]; exact hw _ (at_ r (hl r hr))
    · obtain ⟨r, hr, rfl⟩ := List.mem_map.mp hz
      exact mdl_red hf _
  have hT' : ∀ r, r ∈ lot → tagV l r = vec (T0.map (mdl f)) r := fun r hr => by
    funext k
    rw [tagV_of R.nd (z := (r, mdl f (T0.getD r []))) (List.mem_map.mpr ⟨r, hr, rfl⟩)]
    unfold vec
    rw [List.getD_eq_getElem?_getD, List.getD_eq_getElem?_getD (l := T0.map (mdl f)), List.getElem?_map, List.getD_eq_getElem?_getD (l := T0), List.getElem?_eq_getElem (show r < T0.length by rw [hT]; exact hl r hr)]
    rfl
  have fin : ∀ m, HasBase f w n l m → m = lawRank f (lot.map fun r => T0.getD r []) → ∃ A : Nat → Bool, (∀ r, A r = true → r ∈ lot) ∧ cnt n A = lawRank f (lot.map fun r => T0.getD r []) ∧ Free f w n (vec (T0.map (mdl f))) A ∧ ∀ r, r ∈ lot → Span f w n (vec (T0.map (mdl f))) A (vec (T0.map (mdl f)) r) := by
    rintro m ⟨A, h1, h2, h3, h4⟩ hm
    rw [k1] at h1 h4
    have sw : ∀ (c : Nat → Int) k, (∀ r, A r = false → c r = 0) → S n (fun r => c r * tagV l r k) = S n (fun r => c r * vec (T0.map (mdl f)) r k) := fun c k hc => S_congr n fun r _ => by
      cases e : A r with
      | true => rw [hT' r (h1 r e)]
      | false => rw [hc r e, Int.zero_mul, Int.zero_mul]
    refine ⟨A, h1, h2.trans hm, fun c hc hz => h3 c hc fun k hk => by rw [sw c k hc]; exact hz k hk, fun r hr => ?_⟩
    obtain ⟨d, c, g1, g2, g3⟩ := h4 r hr
    refine ⟨d, c, g1, g2, fun k hk => ?_⟩
    have := g3 k hk
    rw [sw c k g2, hT' r hr] at this
    exact this
  cases lot with
  | nil =>
    exact fin 0 ⟨fun _ => false, fun _ h => (nomatch h), cnt_zero n fun _ _ => rfl, Free.empty fun _ => rfl, fun r hr => nomatch hr⟩ rfl
  | cons r0 lot =>
    have hw0 : wid (((r0 :: lot).map fun r => T0.getD r []).map (mdl f)) = w := by
      show (mdl f (T0.getD r0 [])).length = w
      rw [mdl_len]; exact hw _ (at_ r0 (hl r0 List.mem_cons_self))
    obtain ⟨m, e1, e2⟩ := rank_fold (n := n) (w := w) D hf (List.range w) 0 l 0 (by rw [List.length_range, List.range_eq_range']) (by rw [List.length_range]; omega) R
    refine fin m e2 ?_
    unfold lawRank
    rw [hw0, ← k2, e1]; omega
end
end KP
end
section
/-! The law's ways, seats and changes as plain functions, and what they say. Plain Lean. -/
namespace KP
/-! ### sorted lists -/
def ins (a : Nat) : List Nat → List Nat
  | [] => [a]
  | b :: l => if a ≤ b then a :: b :: l else b :: ins a l
def srt : List Nat → List Nat
  | [] => []
  | a :: l => ins a (srt l)
theorem ins_perm (a : Nat) : ∀ l : List Nat, (ins a l).Perm (a :: l)
  | [] => List.Perm.refl _
  | b :: l => by
    unfold ins
    split
    · exact List.Perm.refl _
    · exact ((ins_perm a l).cons b).trans (List.Perm.swap a b l)
theorem srt_perm : ∀ l : List Nat, (srt l).Perm l
  | [] => List.Perm.refl _
  | a :: l => (ins_perm a (srt l)).trans ((srt_perm l).cons a)
theorem mem_srt {l : List Nat} {r : Nat} : r ∈ srt l ↔ r ∈ l := (srt_perm l).mem_iff
theorem ins_le (a : Nat) : ∀ l : List Nat, l.Pairwise (· ≤ ·) → (ins a l).Pairwise (· ≤ ·)
  | [], _ => List.pairwise_singleton _ _
  | b :: l, h => by
    obtain ⟨h1, h2⟩ := List.pairwise_cons.mp h
    unfold ins
    split
    · rename_i hab
      refine List.pairwise_cons.mpr ⟨fun c hc => ?_, h⟩
      rcases List.mem_cons.mp hc with rfl | hc
      · exact hab
      · exact Nat.le_trans hab (h1 c hc)
    · rename_i hab
      refine List.pairwise_cons.mpr ⟨fun c hc => ?_, ins_le a l h2⟩
      rcases List.mem_cons.mp ((ins_perm a l).mem_iff.mp hc) with rfl | hc
      · omega
      · exact h1 c hc
theorem srt_le : ∀ l : List Nat, (srt l).Pairwise (· ≤ ·)
  | [] => List.Pairwise.nil
  | a :: l => ins_le a _ (srt_le l)
theorem srt_nodup {l : List Nat} (h : l.Nodup) : (srt l).Nodup := (srt_perm l).nodup_iff.mpr h
theorem srt_lt {l : List Nat} (h : l.Nodup) : (srt l).Pairwise (· < ·) := by
  have h1 := srt_le l
  have h2 : (srt l).Pairwise (· ≠ ·) := srt_nodup h
  exact h1.and h2 |>.imp fun ⟨a, b⟩ => Nat.lt_of_le_of_ne a b
theorem sorted_uniq : ∀ {a b : List Nat}, a.Pairwise (· < ·) → b.Pairwise (· < ·) → (∀ r, r ∈ a ↔ r ∈ b) → a = b
  | [], [], _, _, _ => rfl
  | [], y :: b, _, _, h => nomatch (h y).mpr List.mem_cons_self
  | x :: a, [], _, _, h => nomatch (h x).mp List.mem_cons_self
  | x :: a, y :: b, ha, hb, h => by
    obtain ⟨a1, a2⟩ := List.pairwise_cons.mp ha
    obtain ⟨b1, b2⟩ := List.pairwise_cons.mp hb
    have e : x = y := by
      rcases List.mem_cons.mp ((h x).mp List.mem_cons_self) with q | q
      · exact q
      · rcases List.mem_cons.mp ((h y).mpr List.mem_cons_self) with q' | q'
        · exact q'.symm
        · have := b1 x q; have := a1 y q'; omega
    subst e
    congr 1
    refine sorted_uniq a2 b2 fun r => ⟨fun hr => ?_, fun hr => ?_⟩
    · rcases List.mem_cons.mp ((h r).mp (List.mem_cons_of_mem _ hr)) with q | q
      · have := a1 r hr; omega
      · exact q
    · rcases List.mem_cons.mp ((h r).mpr (List.mem_cons_of_mem _ hr)) with q | q
      · have := b1 r hr; omega
      · exact q
theorem srt_id {l : List Nat} (h : l.Pairwise (· < ·)) : srt l = l := sorted_uniq (srt_lt (h.imp fun h => Nat.ne_of_lt h)) h fun _ => mem_srt
/-- any sorted arrangement is this one -/
theorem srt_of_perm {l m : List Nat} (h : m.Perm l) (hs : m.Pairwise (· ≤ ·)) : m = srt l := by
  have h2 : m.Perm (srt l) := h.trans (srt_perm l).symm
  clear h
  generalize hs2 : srt l = k at h2
  have hk : k.Pairwise (· ≤ ·) := hs2 ▸ srt_le l
  clear hs2
  induction m generalizing k with
  | nil => exact (List.nil_perm.mp h2).symm
  | cons a m ih =>
    cases k with
    | nil => exact absurd h2.length_eq (by simp)
    | cons b k =>
      obtain ⟨m1, m2⟩ := List.pairwise_cons.mp hs
      obtain ⟨k1, k2⟩ := List.pairwise_cons.mp hk
      have e : a = b := by
        have h3 : a ∈ b :: k := h2.mem_iff.mp List.mem_cons_self
        have h4 : b ∈ a :: m := h2.mem_iff.mpr List.mem_cons_self
        rcases List.mem_cons.mp h3 with q | q
        · exact q
        · rcases List.mem_cons.mp h4 with q' | q'
          · exact q'.symm
          · have := k1 a q; have := m1 b q'; omega
      subst e
      rw [ih m2 k (List.Perm.cons_inv h2) k2]

/-! ### lots as data -/
/-- thing r in lot i -/
def memL (lots : List (List Nat)) (i r : Nat) : Bool := (lots.getD i []).contains r
theorem memL_iff {lots : List (List Nat)} {i r : Nat} : memL lots i r = true ↔ r ∈ lots.getD i [] := List.contains_iff_mem
theorem getD_lots {lots : List (List Nat)} {i : Nat} (h : i < lots.length) : lots.getD i [] ∈ lots := by
  rw [List.getD_eq_getElem?_getD, List.getElem?_eq_getElem h]
  exact List.getElem_mem _
theorem memL_lt {lots : List (List Nat)} {i r : Nat} (h : memL lots i r = true) : i < lots.length := Nat.lt_of_not_le fun hn => by
  have := memL_iff.mp h
  rw [List.getD_eq_getElem?_getD, List.getElem?_eq_none hn] at this
  cases this
def rankOf (f : Int) (T0 : List (List Int)) (lot : List Nat) : Nat := lawRank f (lot.map fun r => T0.getD r [])
section
variable {f : Int} {w n : Nat} {T0 : List (List Int)}
theorem cnt_list {lot : List Nat} (hn : lot.Nodup) (hl : ∀ r, r ∈ lot → r < n) : cnt n (fun r => lot.contains r) = lot.length := by
  induction lot with
  | nil => exact cnt_zero n fun r _ => rfl
  | cons a l ih =>
    obtain ⟨n1, n2⟩ := List.nodup_cons.mp hn
    rw [List.length_cons, ← ih n2 fun b hb => hl b (List.mem_cons_of_mem _ hb), ← cnt_ins n (p := fun r => l.contains r) (hl a List.mem_cons_self) (by simpa using n1)]
    refine cnt_congr n fun r _ => ?_
    rw [Bool.eq_iff_iff]
    simp only [List.contains_cons, Bool.or_eq_true, beq_iff_eq, decide_eq_true_eq]
    exact Or.comm
/-- the law's rank tells which lots are free -/
theorem rankOf_free (D : Dom f) (hf : 0 ≤ f) (hT : T0.length = n) (hw : ∀ l, l ∈ T0 → l.length = w) {lot : List Nat} (hn : lot.Nodup) (hl : ∀ r, r ∈ lot → r < n) :
    rankOf f T0 lot = lot.length ↔ Free f w n (vec (T0.map (mdl f))) (fun r => lot.contains r) := by
  obtain ⟨A, h1, h2, h3, h4⟩ := lawRank_ok D hf hT hw hn hl
  have hc := cnt_list hn hl
  have hA : ∀ r, A r = true → lot.contains r = true := fun r hr => List.contains_iff_mem.mpr (h1 r hr)
  constructor
  · intro h
    -- all rows of the lot are in A
    refine h3.sub fun r hr => Classical.byContradiction fun hne => ?_
    have hr' := List.contains_iff_mem.mp hr
    have e := cnt_ins n (p := A) (hl r hr') (by simpa using hne)
    have e2 : cnt n (fun q => A q || decide (q = r)) ≤ cnt n (fun r => lot.contains r) := cnt_mono n fun q _ hq => by
      simp only [Bool.or_eq_true, decide_eq_true_eq] at hq
      rcases hq with hq | rfl
      · exact hA q hq
      · exact hr
    have : rankOf f T0 lot = cnt n A := h2.symm
    omega
  · intro h
    have e1 : cnt n (fun r => lot.contains r) ≤ cnt n A := steinitz D h fun r _ hr => h4 r (List.contains_iff_mem.mp hr)
    have e2 : cnt n A ≤ cnt n (fun r => lot.contains r) := cnt_mono n fun r _ hr => hA r hr
    have : rankOf f T0 lot = cnt n A := h2.symm
    omega
/-- lots: each ascending and free, each two apart, with just these rows -/
structure IsWay (f : Int) (T0 : List (List Int)) (rows : List Nat) (count : Nat) (lots : List (List Nat)) : Prop where
  len : lots.length = count
  srt : ∀ lot, lot ∈ lots → lot.Pairwise (· < ·)
  free : ∀ lot, lot ∈ lots → rankOf f T0 lot = lot.length
  rows_ : ∀ r, r ∈ rows ↔ ∃ i, memL lots i r = true
  dis : ∀ i j r, memL lots i r = true → memL lots j r = true → i = j
theorem IsWay.parts (D : Dom f) (hf : 0 ≤ f) (hT : T0.length = n) (hw : ∀ l, l ∈ T0 → l.length = w) {rows : List Nat} {count : Nat} {lots : List (List Nat)} (hr : ∀ r, r ∈ rows → r < n) (W : IsWay f T0 rows count lots) :
    Parts f w n (vec (T0.map (mdl f))) count (memL lots) (fun r => rows.contains r) := by
  have inn : ∀ i r, memL lots i r = true → i < count ∧ r < n ∧ rows.contains r = true := fun i r h => by
    have h1 := (W.rows_ r).mpr ⟨i, h⟩
    exact ⟨W.len ▸ memL_lt h, hr r h1, List.contains_iff_mem.mpr h1⟩
  refine ⟨fun i hi => ?_, inn, fun r h => ?_, W.dis⟩
  · have hm := getD_lots (lots := lots) (i := i) (by rw [W.len]; exact hi)
    exact (rankOf_free D hf hT hw ((W.srt _ hm).imp fun h => Nat.ne_of_lt h) fun r h => (inn i r (memL_iff.mpr h)).2.1).mp (W.free _ hm)
  · obtain ⟨i, h⟩ := (W.rows_ r).mp (List.contains_iff_mem.mp h)
    exact ⟨i, (inn i r h).1, h⟩
theorem IsWay.of_parts (D : Dom f) (hf : 0 ≤ f) (hT : T0.length = n) (hw : ∀ l, l ∈ T0 → l.length = w) {rows : List Nat} {lots : List (List Nat)} {p : Nat → Bool} (hp : ∀ r, p r = true ↔ r ∈ rows)
    (hs : ∀ lot, lot ∈ lots → lot.Pairwise (· < ·)) (P : Parts f w n (vec (T0.map (mdl f))) lots.length (memL lots) p) : IsWay f T0 rows lots.length lots := by
  refine ⟨rfl, hs, fun lot hl => ?_, fun r => ⟨fun h => ?_, fun ⟨i, h⟩ => (hp r).mp (P.inn i r h).2.2⟩, P.dis⟩
  · obtain ⟨i, hi, rfl⟩ := List.getElem_of_mem hl
    have e : lots.getD i [] = lots[i] := by rw [List.getD_eq_getElem?_getD, List.getElem?_eq_getElem hi]; rfl
    have hF := P.free i hi
    have e2 : memL lots i = fun r => (lots[i]).contains r := by
      funext r
      unfold memL; rw [e]
    rw [e2] at hF
    refine (rankOf_free D hf hT hw ((hs _ hl).imp fun h => Nat.ne_of_lt h) fun r h => ?_).mpr hF
    exact (P.inn i r (memL_iff.mpr (by rw [e]; exact h))).2.1
  · obtain ⟨i, _, h⟩ := P.cov r ((hp r).mpr h)
    exact ⟨i, h⟩
end

/-! ### all ways -/
/-- row put into lot k -/
def putIn (lots : List (List Nat)) (k row : Nat) : List (List Nat) := lots.take k ++ [srt (lots.getD k [] ++ [row])] ++ lots.drop (k + 1)
def waysRow (f : Int) (T0 : List (List Int)) (count : Nat) (found : List (List (List Nat))) (row : Nat) : List (List (List Nat)) :=
  found.flatMap fun lots => ((List.range count).filter fun k => rankOf f T0 (srt (lots.getD k [] ++ [row])) = (srt (lots.getD k [] ++ [row])).length).map fun k => putIn lots k row
def allLots (f : Int) (T0 : List (List Int)) (rows : List Nat) (count : Nat) : List (List (List Nat)) := rows.foldl (waysRow f T0 count) [List.replicate count []]
theorem putIn_get {lots : List (List Nat)} {k row : Nat} (hk : k < lots.length) (i : Nat) : (putIn lots k row).getD i [] = if i = k then srt (lots.getD k [] ++ [row]) else lots.getD i [] := by
  unfold putIn
  simp only [List.getD_eq_getElem?_getD, List.append_assoc, List.singleton_append]
  have lt : (lots.take k).length = k := by rw [List.length_take]; omega
  by_cases h1 : i < k
  · rw [List.getElem?_append_left (by omega), List.getElem?_take, if_pos h1, if_neg (by omega)]
  · rw [List.getElem?_append_right (by omega), lt]
    by_cases h2 : i = k
    · subst h2; simp
    · have e : i - k = (i - k - 1) + 1 := by omega
      rw [e, List.getElem?_cons_succ, List.getElem?_drop, if_neg h2]
      have e2 : k + 1 + (i - k - 1) = i := by omega
      rw [e2]
theorem putIn_len {lots : List (List Nat)} {k row : Nat} (hk : k < lots.length) : (putIn lots k row).length = lots.length := by
  unfold putIn
  simp only [List.length_append, List.length_take, List.length_drop, List.length_singleton]
  omega
theorem putIn_memL {lots : List (List Nat)} {k row : Nat} (hk : k < lots.length) {i r : Nat} : memL (putIn lots k row) i r = true ↔ memL lots i r = true ∨ (i = k ∧ r = row) := by
  rw [memL_iff, memL_iff, putIn_get hk]
  by_cases h : i = k
  · subst h
    rw [if_pos rfl, mem_srt, List.mem_append, List.mem_singleton]
    constructor
    · rintro (h | h)
      · exact .inl h
      · exact .inr ⟨rfl, h⟩
    · rintro (h | ⟨_, h⟩)
      · exact .inl h
      · exact .inr h
  · rw [if_neg h]
    exact ⟨.inl, fun z => z.elim id fun z => absurd z.1 h⟩
theorem lots_ext {a b : List (List Nat)} (h : a.length = b.length) (e : ∀ i, i < a.length → a.getD i [] = b.getD i []) : a = b := by
  refine List.ext_getElem h fun i h1 h2 => ?_
  have := e i h1
  simp only [List.getD_eq_getElem?_getD, List.getElem?_eq_getElem h1, List.getElem?_eq_getElem h2] at this
  exact this
section
variable {f : Int} {w n : Nat} {T0 : List (List Int)} {count : Nat}
theorem mem_waysRow {found : List (List (List Nat))} {row : Nat} {z : List (List Nat)} : z ∈ waysRow f T0 count found row ↔ ∃ lots, lots ∈ found ∧ ∃ k, k < count ∧ rankOf f T0 (srt (lots.getD k [] ++ [row])) = (srt (lots.getD k [] ++ [row])).length ∧ z = putIn lots k row := by
  unfold waysRow
  rw [List.mem_flatMap]
  constructor
  · rintro ⟨lots, h1, h2⟩
    obtain ⟨k, h3, rfl⟩ := List.mem_map.mp h2
    obtain ⟨h4, h5⟩ := List.mem_filter.mp h3
    exact ⟨lots, h1, k, List.mem_range.mp h4, by simpa using h5, rfl⟩
  · rintro ⟨lots, h1, k, h2, h3, rfl⟩
    exact ⟨lots, h1, List.mem_map.mpr ⟨k, List.mem_filter.mpr ⟨List.mem_range.mpr h2, by simpa using h3⟩, rfl⟩⟩
/-- just the ways -/
theorem allLots_iff (D : Dom f) (hf : 0 ≤ f) (hT : T0.length = n) (hw : ∀ l, l ∈ T0 → l.length = w) {rows : List Nat} (hn : rows.Nodup) (hr : ∀ r, r ∈ rows → r < n) {z : List (List Nat)} : z ∈ allLots f T0 rows count ↔ IsWay f T0 rows count z := by
  have r0 : rankOf f T0 [] = 0 := rfl
  have gen : ∀ (l done : List Nat) (found : List (List (List Nat))), (done ++ l).Nodup → (∀ r, r ∈ done ++ l → r < n) → (∀ z, z ∈ found ↔ IsWay f T0 done count z) → ∀ z, z ∈ l.foldl (waysRow f T0 count) found ↔ IsWay f T0 (done ++ l) count z := by
    intro l
    induction l with
    | nil => intro done found _ _ h z; rw [List.append_nil]; exact h z
    | cons a l ih =>
      intro done found hn hr h z
      have hd : done ++ a :: l = (done ++ [a]) ++ l := by simp
      have ha : a ∉ done := fun hm => (List.nodup_append.mp hn).2.2 a hm a List.mem_cons_self rfl
      have hnd : done.Nodup := (List.nodup_append.mp hn).1
      have hra : ∀ r, r ∈ done ++ [a] → r < n := fun r h => hr r (by
        rcases List.mem_append.mp h with h | h
        · exact List.mem_append_left _ h
        · rw [List.mem_singleton.mp h]; exact List.mem_append_right _ List.mem_cons_self)
      rw [hd] at hn hr ⊢
      refine ih (done ++ [a]) _ hn hr (fun z => ?_) z
      rw [mem_waysRow]
      constructor
      · rintro ⟨lots, h1, k, h2, h3, rfl⟩
        have W := (h lots).mp h1
        have hk : k < lots.length := by rw [W.len]; exact h2
        have am : ∀ i, memL lots i a = false := fun i => by
          cases e : memL lots i a with
          | false => rfl
          | true => exact absurd ((W.rows_ a).mpr ⟨i, e⟩) ha
        have hat : ∀ lot, lot ∈ putIn lots k a → lot = srt (lots.getD k [] ++ [a]) ∨ lot ∈ lots := fun lot hl => by
          obtain ⟨i, hi, rfl⟩ := List.getElem_of_mem hl
          have e := putIn_get (row := a) hk i
          rw [List.getD_eq_getElem?_getD, List.getElem?_eq_getElem hi] at e
          have e' : (putIn lots k a)[i] = if i = k then srt (lots.getD k [] ++ [a]) else lots.getD i [] := e
          rw [e']
          split
          · exact .inl rfl
          · exact .inr (getD_lots (by rw [← putIn_len hk]; exact hi))
        have snd : (lots.getD k [] ++ [a]).Nodup := by
          refine List.nodup_append.mpr ⟨(W.srt _ (getD_lots hk)).imp fun h => Nat.ne_of_lt h, List.nodup_cons.mpr ⟨fun h => (nomatch h), List.nodup_nil⟩, fun b hb c hc q => ?_⟩
          rw [List.mem_singleton.mp hc] at q
          have := am k
          rw [← q, memL_iff.mpr hb] at this
          cases this
        refine ⟨by rw [putIn_len hk, W.len], fun lot hl => ?_, fun lot hl => ?_, fun r => ?_, fun i j r hi hj => ?_⟩
        · rcases hat lot hl with rfl | hl
          · exact srt_lt snd
          · exact W.srt lot hl
        · rcases hat lot hl with rfl | hl
          · exact h3
          · exact W.free lot hl
        · rw [List.mem_append, List.mem_singleton, W.rows_]
          constructor
          · rintro (⟨i, h⟩ | rfl)
            · exact ⟨i, (putIn_memL hk).mpr (.inl h)⟩
            · exact ⟨k, (putIn_memL hk).mpr (.inr ⟨rfl, rfl⟩)⟩
          · rintro ⟨i, h⟩
            rcases (putIn_memL hk).mp h with h | ⟨_, h⟩
            · exact .inl ⟨i, h⟩
            · exact .inr h
        · rcases (putIn_memL hk).mp hi with hi | ⟨hi, hi'⟩
          · rcases (putIn_memL hk).mp hj with hj | ⟨hj, hj'⟩
            · exact W.dis i j r hi hj
            · rw [hj', am i] at hi; cases hi
          · rcases (putIn_memL hk).mp hj with hj | ⟨hj, hj'⟩
            · rw [hi', am j] at hj; cases hj
            · rw [hi, hj]
      · intro W
        -- the lot of a, without it
        obtain ⟨k, hka⟩ := (W.rows_ a).mp (List.mem_append_right _ List.mem_cons_self)
        have hk : k < z.length := memL_lt hka
        have PZ := W.parts D hf hT hw hra
        let lots : List (List Nat) := z.map fun lot => lot.filter fun r => decide (r ≠ a)
        have lg : ∀ i, lots.getD i [] = (z.getD i []).filter fun r => decide (r ≠ a) := fun i => by
          simp only [lots, List.getD_eq_getElem?_getD, List.getElem?_map]
          cases z[i]? with
          | none => rfl
          | some _ => rfl
        have lm : ∀ i r, memL lots i r = true ↔ memL z i r = true ∧ r ≠ a := fun i r => by
          rw [memL_iff, memL_iff, lg, List.mem_filter, decide_eq_true_eq]
        have ll : lots.length = z.length := List.length_map ..
        have ss : ∀ lot, lot ∈ lots → lot.Pairwise (· < ·) := fun lot hl => by
          obtain ⟨l0, h0, rfl⟩ := List.mem_map.mp hl
          exact (W.srt l0 h0).filter _
        have W' : IsWay f T0 done count lots := by
          have := IsWay.of_parts (n := n) (w := w) D hf hT hw (rows := done) (lots := lots) (p := fun r => done.contains r) (fun r => List.contains_iff_mem) ss ⟨fun i hi => ?_, fun i r h => ?_, fun r h => ?_, fun i j r hi hj => W.dis i j r ((lm i r).mp hi).1 ((lm j r).mp hj).1⟩
          · rw [ll, W.len] at this; exact this
          · exact (PZ.free i (by rw [ll, W.len] at hi; exact hi)).sub fun r hr => ((lm i r).mp hr).1
          · obtain ⟨h1, h2⟩ := (lm i r).mp h
            obtain ⟨h3, h4, h5⟩ := PZ.inn i r h1
            refine ⟨by rw [ll, W.len]; exact h3, h4, ?_⟩
            have := List.contains_iff_mem.mp h5
            rcases List.mem_append.mp this with h6 | h6
            · exact List.contains_iff_mem.mpr h6
            · exact absurd (List.mem_singleton.mp h6) h2
          · have hm := List.contains_iff_mem.mp h
            obtain ⟨i, h1⟩ := (W.rows_ r).mp (List.mem_append_left _ hm)
            exact ⟨i, by rw [ll]; exact memL_lt h1, (lm i r).mpr ⟨h1, fun q => ha (q ▸ hm)⟩⟩
        have hk' : k < lots.length := by rw [ll]; exact hk
        have e : srt (lots.getD k [] ++ [a]) = z.getD k [] := by
          refine sorted_uniq (srt_lt ?_) (W.srt _ (getD_lots hk)) fun r => ?_
          · refine List.nodup_append.mpr ⟨(ss _ (getD_lots hk')).imp fun h => Nat.ne_of_lt h, List.nodup_cons.mpr ⟨fun h => (nomatch h), List.nodup_nil⟩, fun b hb c hc q => ?_⟩
            rw [List.mem_singleton.mp hc] at q
            exact ((lm k b).mp (memL_iff.mpr hb)).2 q
          · rw [mem_srt, List.mem_append, List.mem_singleton, ← memL_iff, ← memL_iff, lm]
            constructor
            · rintro (⟨h, _⟩ | rfl)
              · exact h
              · exact hka
            · intro h
              by_cases q : r = a
              · exact .inr q
              · exact .inl ⟨h, q⟩
        refine ⟨lots, (h lots).mpr W', k, by rw [← W.len]; exact hk, by rw [e]; exact W.free _ (getD_lots hk), ?_⟩
        refine lots_ext (by rw [putIn_len hk', ll]) fun i hi => ?_
        rw [putIn_get hk']
        by_cases q : i = k
        · subst q; rw [if_pos rfl, e]
        · rw [if_neg q, lg]
          symm
          refine List.filter_eq_self.mpr fun r hrm => decide_eq_true fun hra => ?_
          exact q (W.dis i k r (memL_iff.mpr hrm) (by rw [hra]; exact hka))
  refine gen rows [] [List.replicate count []] (by simpa using hn) (by simpa using hr) (fun z => ?_) z
  have rg : ∀ i, (List.replicate count ([] : List Nat)).getD i [] = [] := fun i => by
    rw [List.getD_eq_getElem?_getD, List.getElem?_replicate]
    split <;> rfl
  rw [List.mem_singleton]
  constructor
  · rintro rfl
    refine ⟨List.length_replicate, fun lot hl => ?_, fun lot hl => ?_, fun r => ⟨fun h => (nomatch h), fun ⟨i, h⟩ => ?_⟩, fun i j r h => ?_⟩
    · rw [(List.mem_replicate.mp hl).2]; exact List.Pairwise.nil
    · rw [(List.mem_replicate.mp hl).2]; exact r0
    · rw [memL_iff, rg] at h; cases h
    · rw [memL_iff, rg] at h; cases h
  · intro W
    refine lots_ext (by rw [W.len, List.length_replicate]) fun i hi => ?_
    rw [rg]
    refine List.eq_nil_iff_forall_not_mem.mpr fun r hr => ?_
    exact nomatch (W.rows_ r).mpr ⟨i, memL_iff.mpr hr⟩
end
end KP
end
section
/-! What the program does with a row that comes, against what the law looks at. Plain Lean. -/
namespace KP
/-! ### seats and changes, as the law tells them -/
def seatsFrom : Nat → List (List Nat) → List (Nat × Nat)
  | _, [] => []
  | k, lot :: ls => (lot.map fun r => (r, k)) ++ seatsFrom (k + 1) ls
def seats (lots : List (List Nat)) : List (Nat × Nat) := seatsFrom 0 lots
def seat (lots : List (List Nat)) (r : Nat) : Option Nat := (seats lots).lookup r
def changed (before behind : List (List Nat)) : List (Nat × Nat) :=
  ((srt ((seats behind).map (·.1))).filter fun r => decide (seat before r ≠ seat behind r)).map fun r => (r, (seat behind r).getD 0)
theorem mem_seatsFrom {r k : Nat} : ∀ {lots : List (List Nat)} {j : Nat}, (r, k) ∈ seatsFrom j lots ↔ j ≤ k ∧ r ∈ lots.getD (k - j) []
  | [], j => by simp [seatsFrom]
  | lot :: ls, j => by
    unfold seatsFrom
    rw [List.mem_append, mem_seatsFrom (lots := ls)]
    constructor
    · rintro (h | ⟨h1, h2⟩)
      · obtain ⟨q, hq, e⟩ := List.mem_map.mp h
        cases e
        refine ⟨Nat.le_refl _, ?_⟩
        rw [Nat.sub_self]; exact hq
      · have e : k - j = (k - (j + 1)) + 1 := by omega
        exact ⟨by omega, by rw [e]; exact h2⟩
    · rintro ⟨h1, h2⟩
      by_cases q : k = j
      · subst q
        rw [Nat.sub_self] at h2
        exact .inl (List.mem_map.mpr ⟨r, h2, rfl⟩)
      · have e : k - j = (k - (j + 1)) + 1 := by omega
        rw [e] at h2
        exact .inr ⟨by omega, h2⟩
theorem mem_seats {lots : List (List Nat)} {r k : Nat} : (r, k) ∈ seats lots ↔ memL lots k r = true := by
  unfold seats
  rw [mem_seatsFrom, memL_iff, Nat.sub_zero]
  exact ⟨fun h => h.2, fun h => ⟨Nat.zero_le _, h⟩⟩
theorem lookup_mem {β : Type} : ∀ {l : List (Nat × β)} {r : Nat} {v : β}, l.lookup r = some v → (r, v) ∈ l
  | [], _, _, h => by cases h
  | (a, b) :: l, r, v, h => by
    rw [List.lookup_cons] at h
    by_cases q : r = a
    · subst q
      rw [beq_self_eq_true] at h
      cases h; exact List.mem_cons_self
    · have e : (r == a) = false := by simpa using q
      rw [e] at h
      exact List.mem_cons_of_mem _ (lookup_mem h)
theorem lookup_none {β : Type} : ∀ {l : List (Nat × β)} {r : Nat}, l.lookup r = none ↔ r ∉ l.map (·.1)
  | [], _ => by simp
  | (a, b) :: l, r => by
    rw [List.lookup_cons]
    by_cases q : r = a
    · subst q; rw [beq_self_eq_true]; simp
    · have e : (r == a) = false := by simpa using q
      rw [e]
      have := lookup_none (l := l) (r := r)
      show List.lookup r l = none ↔ _
      rw [this]; simp [q]
/-- each thing in one lot at most -/
def Dis (lots : List (List Nat)) : Prop := ∀ i j r, memL lots i r = true → memL lots j r = true → i = j
theorem seat_iff {lots : List (List Nat)} (hd : Dis lots) {r k : Nat} : seat lots r = some k ↔ memL lots k r = true := by
  unfold seat
  constructor
  · exact fun h => mem_seats.mp (lookup_mem h)
  · intro h
    cases e : (seats lots).lookup r with
    | none => exact absurd (List.mem_map.mpr ⟨_, mem_seats.mpr h, rfl⟩) (lookup_none.mp e)
    | some v => rw [hd v k r (mem_seats.mp (lookup_mem e)) h]
theorem seat_none {lots : List (List Nat)} {r : Nat} : seat lots r = none ↔ ∀ i, memL lots i r = false := by
  unfold seat
  rw [lookup_none]
  constructor
  · intro h i
    cases e : memL lots i r with
    | false => rfl
    | true => exact absurd (List.mem_map.mpr ⟨_, mem_seats.mpr e, rfl⟩) h
  · intro h hm
    obtain ⟨z, hz, rfl⟩ := List.mem_map.mp hm
    have := mem_seats.mp (show (z.1, z.2) ∈ seats lots from hz)
    rw [h z.2] at this; cases this
theorem seats_nodup : ∀ {lots : List (List Nat)}, (∀ lot, lot ∈ lots → lot.Nodup) → Dis lots → ((seats lots).map (·.1)).Nodup := by
  intro lots hn hd
  have gen : ∀ (ls : List (List Nat)) (j : Nat), (∀ lot, lot ∈ ls → lot.Nodup) → (∀ a b r, r ∈ ls.getD a [] → r ∈ ls.getD b [] → a = b) → ((seatsFrom j ls).map (·.1)).Nodup := by
    intro ls
    induction ls with
    | nil => exact fun _ _ _ => List.nodup_nil
    | cons lot ls ih =>
      intro j hn hd
      unfold seatsFrom
      rw [List.map_append, List.map_map]
      refine List.nodup_append.mpr ⟨?_, ih (j + 1) (fun l hl => hn l (List.mem_cons_of_mem _ hl)) (fun a b r ha hb => Nat.succ.inj (hd (a + 1) (b + 1) r ha hb)), fun a ha b hb q => ?_⟩
      · have e : (Prod.fst ∘ fun r => (r, j)) = (id : Nat → Nat) := rfl
        rw [e, List.map_id]; exact hn lot List.mem_cons_self
      · subst q
        obtain ⟨z, hz, e1⟩ := List.mem_map.mp ha
        obtain ⟨u, hu, e2⟩ := List.mem_map.mp hb
        obtain ⟨u1, u2⟩ := u
        have h2 := (mem_seatsFrom.mp hu).2
        have e3 : z = u1 := e1.trans e2.symm
        have := hd 0 (u2 - (j + 1) + 1) u1 (by rw [← e3]; exact hz) h2
        omega
  exact gen lots 0 hn fun a b r ha hb => hd a b r (memL_iff.mpr ha) (memL_iff.mpr hb)
section
variable {f : Int} {w n count : Nat} {T0 : List (List Int)} {rows : List Nat}
theorem IsWay.nodup {lots : List (List Nat)} (W : IsWay f T0 rows count lots) : ∀ lot, lot ∈ lots → lot.Nodup := fun lot h => (W.srt lot h).imp fun h => Nat.ne_of_lt h
theorem IsWay.keys {lots : List (List Nat)} (W : IsWay f T0 rows count lots) (r : Nat) : r ∈ (seats lots).map (·.1) ↔ r ∈ rows := by
  rw [W.rows_]
  constructor
  · intro h
    obtain ⟨z, hz, rfl⟩ := List.mem_map.mp h
    exact ⟨z.2, mem_seats.mp (show (z.1, z.2) ∈ seats lots from hz)⟩
  · rintro ⟨i, h⟩
    exact List.mem_map.mpr ⟨_, mem_seats.mpr h, rfl⟩
/-- the rows that a change tells -/
theorem changed_keys {before behind : List (List Nat)} (W : IsWay f T0 rows count behind) : ((changed before behind).map (·.1)) = (srt ((seats behind).map (·.1))).filter fun r => decide (seat before r ≠ seat behind r) := by
  unfold changed
  rw [List.map_map]
  exact (List.map_congr_left fun _ _ => rfl).trans (List.map_id _)
theorem changed_len {before behind : List (List Nat)} (hr : ∀ r, r ∈ rows → r < n) (W : IsWay f T0 rows count behind) : (changed before behind).length = cnt n fun r => rows.contains r && decide (seat before r ≠ seat behind r) := by
  have h1 : (changed before behind).length = ((changed before behind).map (·.1)).length := (List.length_map ..).symm
  have hnd : ((srt ((seats behind).map (·.1))).filter fun r => decide (seat before r ≠ seat behind r)).Nodup := List.Nodup.sublist List.filter_sublist (srt_nodup (seats_nodup W.nodup W.dis))
  rw [h1, changed_keys W, ← cnt_list (n := n) hnd fun r h => ?_]
  · refine cnt_congr n fun r _ => ?_
    rw [Bool.eq_iff_iff, List.contains_iff_mem, List.mem_filter, mem_srt, W.keys]
    simp only [Bool.and_eq_true, List.contains_iff_mem]
  · have := (List.mem_filter.mp h).1
    rw [mem_srt, W.keys] at this
    exact hr r this
end

/-! ### the program's lots -/
def dropAll (lot ms : List Nat) : List Nat := ms.foldl (fun l m => l.erase m) lot
def putLots (K : List (List Nat)) (pl : List (Nat × Nat)) : List (List Nat) :=
  pl.foldl (fun ks z => ks.set z.2 (ks.getD z.2 [] ++ [z.1])) (K.map fun lot => dropAll lot (pl.map (·.1)))
theorem dropAll_ok : ∀ {ms lot : List Nat}, lot.Nodup → (dropAll lot ms).Nodup ∧ ∀ r, r ∈ dropAll lot ms ↔ r ∈ lot ∧ r ∉ ms
  | [], lot, h => ⟨h, fun r => by simp [dropAll]⟩
  | m :: ms, lot, h => by
    obtain ⟨h1, h2⟩ := dropAll_ok (ms := ms) (h.erase m)
    refine ⟨h1, fun r => ?_⟩
    show r ∈ dropAll (lot.erase m) ms ↔ _
    rw [h2, h.mem_erase_iff, List.mem_cons, not_or]
    constructor
    · rintro ⟨⟨a, b⟩, c⟩; exact ⟨b, a, c⟩
    · rintro ⟨a, b, c⟩; exact ⟨⟨b, a⟩, c⟩
theorem getD_set {K : List (List Nat)} {i : Nat} {v : List Nat} (h : i < K.length) (j : Nat) : (K.set i v).getD j [] = if j = i then v else K.getD j [] := by
  simp only [List.getD_eq_getElem?_getD]
  by_cases q : j = i
  · subst q; rw [if_pos rfl, List.getElem?_set_self h]; rfl
  · rw [if_neg q, List.getElem?_set_ne (Ne.symm q)]
theorem app_ok : ∀ (pl : List (Nat × Nat)) (K : List (List Nat)), (∀ z, z ∈ pl → z.2 < K.length) → (pl.map (·.1)).Nodup → (∀ lot, lot ∈ K → lot.Nodup) → (∀ z, z ∈ pl → ∀ i, memL K i z.1 = false) →
    (pl.foldl (fun ks z => ks.set z.2 (ks.getD z.2 [] ++ [z.1])) K).length = K.length ∧ (∀ lot, lot ∈ pl.foldl (fun ks z => ks.set z.2 (ks.getD z.2 [] ++ [z.1])) K → lot.Nodup) ∧
      ∀ i r, memL (pl.foldl (fun ks z => ks.set z.2 (ks.getD z.2 [] ++ [z.1])) K) i r = true ↔ memL K i r = true ∨ (r, i) ∈ pl
  | [], K, _, _, hK, _ => ⟨rfl, hK, fun i r => by simp⟩
  | z :: pl, K, hi, hn, hK, hm => by
    obtain ⟨n1, n2⟩ := List.nodup_cons.mp hn
    have hz := hi z List.mem_cons_self
    let K1 := K.set z.2 (K.getD z.2 [] ++ [z.1])
    have l1 : K1.length = K.length := List.length_set ..
    have m1 : ∀ i r, memL K1 i r = true ↔ memL K i r = true ∨ (r, i) = z := fun i r => by
      rw [memL_iff, memL_iff, getD_set hz]
      by_cases q : i = z.2
      · subst q
        rw [if_pos rfl, List.mem_append, List.mem_singleton]
        constructor
        · rintro (h | h)
          · exact .inl h
          · exact .inr (by rw [h])
        · rintro (h | h)
          · exact .inl h
          · exact .inr (by rw [← h])
      · rw [if_neg q]
        exact ⟨.inl, fun h => h.elim id fun h => absurd (by rw [← h]) q⟩
    have nd1 : ∀ lot, lot ∈ K1 → lot.Nodup := fun lot hl => by
      rcases List.mem_or_eq_of_mem_set hl with h | h
      · exact hK lot h
      · rw [h]
        refine List.nodup_append.mpr ⟨hK _ (getD_lots hz), List.nodup_cons.mpr ⟨fun h => (nomatch h), List.nodup_nil⟩, fun a ha b hb q => ?_⟩
        rw [List.mem_singleton.mp hb] at q
        have := hm z List.mem_cons_self z.2
        rw [← q, memL_iff.mpr ha] at this
        cases this
    obtain ⟨a, b, c⟩ := app_ok pl K1 (fun u hu => by rw [l1]; exact hi u (List.mem_cons_of_mem _ hu)) n2 nd1 fun u hu i => by
      cases e : memL K1 i u.1 with
      | false => rfl
      | true =>
        rcases (m1 i u.1).mp e with h | h
        · rw [hm u (List.mem_cons_of_mem _ hu) i] at h; cases h
        · exact absurd (List.mem_map.mpr ⟨u, hu, by rw [← h]⟩) n1
    refine ⟨a.trans l1, b, fun i r => ?_⟩
    show memL (pl.foldl _ K1) i r = true ↔ _
    rw [c, m1, List.mem_cons]
    exact or_assoc
theorem memL_map {K : List (List Nat)} {g : List Nat → List Nat} (hg : g [] = []) (i r : Nat) : memL (K.map g) i r = true ↔ r ∈ g (K.getD i []) := by
  rw [memL_iff]
  simp only [List.getD_eq_getElem?_getD, List.getElem?_map]
  cases K[i]? with
  | none =>
    show r ∈ [] ↔ r ∈ g []
    rw [hg]
  | some _ => rfl
theorem memL_srt (K : List (List Nat)) (i r : Nat) : memL (K.map srt) i r = memL K i r := by
  rw [Bool.eq_iff_iff, memL_map rfl, mem_srt, memL_iff]
theorem putLots_ok {K : List (List Nat)} {pl : List (Nat × Nat)} (hi : ∀ z, z ∈ pl → z.2 < K.length) (hn : (pl.map (·.1)).Nodup) (hK : ∀ lot, lot ∈ K → lot.Nodup) :
    (putLots K pl).length = K.length ∧ (∀ lot, lot ∈ putLots K pl → lot.Nodup) ∧ ∀ i r, memL (putLots K pl) i r = moved (memL K) pl i r := by
  have dn : dropAll [] (pl.map (·.1)) = [] := List.eq_nil_iff_forall_not_mem.mpr fun r hr => nomatch ((dropAll_ok (ms := pl.map (·.1)) List.nodup_nil).2 r).mp hr |>.1
  have hd : ∀ i, (K.getD i []).Nodup := fun i => by
    by_cases h : i < K.length
    · exact hK _ (getD_lots h)
    · rw [List.getD_eq_getElem?_getD, List.getElem?_eq_none (by omega)]; exact List.nodup_nil
  have dm : ∀ i r, memL (K.map fun lot => dropAll lot (pl.map (·.1))) i r = true ↔ memL K i r = true ∧ r ∉ pl.map (·.1) := fun i r => by
    rw [memL_map (g := fun lot => dropAll lot (pl.map (·.1))) dn, (dropAll_ok (hd i)).2, memL_iff]
  obtain ⟨a, b, c⟩ := app_ok pl (K.map fun lot => dropAll lot (pl.map (·.1))) (fun z hz => by rw [List.length_map]; exact hi z hz) hn (fun lot hl => by
      obtain ⟨l0, h0, rfl⟩ := List.mem_map.mp hl
      exact (dropAll_ok (hK l0 h0)).1) fun z hz i => by
    cases e : memL (K.map fun lot => dropAll lot (pl.map (·.1))) i z.1 with
    | false => rfl
    | true => exact absurd (List.mem_map.mpr ⟨z, hz, rfl⟩) ((dm i z.1).mp e).2
  refine ⟨by rw [← List.length_map (as := K) (f := fun lot => dropAll lot (pl.map (·.1)))]; exact a, b, fun i r => ?_⟩
  rw [Bool.eq_iff_iff, moved_iff]
  exact (c i r).trans (or_congr (dm i r) Iff.rfl)

/-! ### a row comes -/
/-- the raw table: so many rows of a width, small numbers -/
structure RawOk (w n : Nat) (T0 : List (List Int)) : Prop where
  len : T0.length = n
  wid : ∀ l, l ∈ T0 → l.length = w
  big : ∀ l, l ∈ T0 → ∀ y, y ∈ l → y.natAbs ≤ 2 ^ 8
theorem RawOk.tab {f : Int} {w n : Nat} {T0 : List (List Int)} (h : RawOk w n T0) (hf : 0 ≤ f) (hf2 : f ≤ 13) : TabOk f w n (T0.map (mdl f)) := by
  refine ⟨by rw [List.length_map]; exact h.len, fun l hl => ?_, fun l hl => ?_, fun l hl y hy => ?_⟩
  · obtain ⟨l0, h0, rfl⟩ := List.mem_map.mp hl
    rw [mdl_len]; exact h.wid l0 h0
  · obtain ⟨l0, h0, rfl⟩ := List.mem_map.mp hl
    exact mdl_red hf _
  · obtain ⟨l0, h0, rfl⟩ := List.mem_map.mp hl
    unfold mdl at hy
    split at hy
    · rename_i hp
      obtain ⟨z, _, rfl⟩ := List.mem_map.mp hy
      have h1 := Int.emod_nonneg z (show f ≠ 0 by omega)
      have h2 := Int.emod_lt_of_pos z hp
      have h3 : (2 : Nat) ^ 8 = 256 := by decide
      omega
    · exact h.big l0 h0 y hy
/-- the keeper's lots: as data K, whose sorted copies are a way -/
structure Kept (f : Int) (w n : Nat) (T0 : List (List Int)) (rows : List Nat) (count : Nat) (K : List (List Nat)) : Prop where
  nd : ∀ lot, lot ∈ K → lot.Nodup
  way : IsWay f T0 rows count (K.map srt)
  lt : ∀ r, r ∈ rows → r < n
section
variable {f : Int} {w n count : Nat} {T0 : List (List Int)} {rows : List Nat} {K : List (List Nat)} {x : Nat}
theorem Kept.len (k : Kept f w n T0 rows count K) : K.length = count := by
  have := k.way.len
  rw [List.length_map] at this; exact this
theorem Kept.dis (k : Kept f w n T0 rows count K) : Dis K := fun i j r h h' => k.way.dis i j r (by rw [memL_srt]; exact h) (by rw [memL_srt]; exact h')
theorem Kept.mem (k : Kept f w n T0 rows count K) (r : Nat) : r ∈ rows ↔ ∃ i, memL K i r = true := by
  rw [k.way.rows_]
  exact ⟨fun ⟨i, h⟩ => ⟨i, by rw [← memL_srt]; exact h⟩, fun ⟨i, h⟩ => ⟨i, by rw [memL_srt]; exact h⟩⟩
theorem Kept.parts (D : Dom f) (hf : 0 ≤ f) (t : RawOk w n T0) (k : Kept f w n T0 rows count K) : Parts f w n (vec (T0.map (mdl f))) count (memL K) (fun r => rows.contains r) := by
  have := k.way.parts D hf t.len t.wid k.lt
  have e : memL (K.map srt) = memL K := by funext i r; exact memL_srt K i r
  rw [e] at this; exact this
theorem Kept.lot_lt (k : Kept f w n T0 rows count K) {i r : Nat} (h : r ∈ K.getD i []) : r < n := k.lt r ((k.mem r).mpr ⟨i, memL_iff.mpr h⟩)
theorem Kept.lot_nd (k : Kept f w n T0 rows count K) (i : Nat) : (K.getD i []).Nodup := by
  by_cases h : i < K.length
  · exact k.nd _ (getD_lots h)
  · rw [List.getD_eq_getElem?_getD, List.getElem?_eq_none (by omega)]; exact List.nodup_nil
theorem Kept.steps (D : Dom f) (hf : 0 ≤ f) (hf2 : f ≤ 13) (t : RawOk w n T0) (k : Kept f w n T0 rows count K) : StepOk (stepOf f n (T0.map (mdl f)) K) n count ∧ StepIs f w n (vec (T0.map (mdl f))) (stepOf f n (T0.map (mdl f)) K) (memL K) count := by
  have tt := t.tab hf hf2
  have un : ∀ i t ks, stepOf f n (T0.map (mdl f)) K i t = some ks → t < n → (t ∈ K.getD i [] ∧ ks = []) ∨ (t ∉ K.getD i [] ∧ ∃ kvs, relOf f n (T0.map (mdl f)) (baseOf f n (T0.map (mdl f)) (K.getD i [])) t = some kvs ∧ ks = (kvs.map (·.1)).filter fun o => o ≠ t) := fun i t ks h _ => by
    unfold stepOf at h
    split at h
    · rename_i hc
      exact .inl ⟨List.contains_iff_mem.mp hc, (Option.some.inj h).symm⟩
    · rename_i hc
      obtain ⟨kvs, h1, h2⟩ := Option.map_eq_some_iff.mp h
      exact .inr ⟨fun hm => hc (List.contains_iff_mem.mpr hm), kvs, h1, h2.symm⟩
  refine ⟨⟨fun i t ks _ ht h => ?_, fun i t ks _ ht h o ho => ?_⟩, ⟨fun i t _ h => ?_, fun i t ks _ ht h o ho => ?_, fun i t ks _ ht hm h => ?_, fun i t _ ht h => ?_⟩⟩
  · rcases un i t ks h ht with ⟨_, rfl⟩ | ⟨h1, kvs, h2, rfl⟩
    · exact List.nodup_nil
    · exact List.Nodup.sublist List.filter_sublist ((rel_keys D hf hf2 tt (k.lot_nd i) (fun r hr => k.lot_lt hr) ht h1 h2).1.imp fun h => Nat.ne_of_lt h)
  · rcases un i t ks h ht with ⟨_, rfl⟩ | ⟨h1, kvs, h2, rfl⟩
    · cases ho
    · obtain ⟨h3, h4⟩ := List.mem_filter.mp ho
      rcases (rel_keys D hf hf2 tt (k.lot_nd i) (fun r hr => k.lot_lt hr) ht h1 h2).2 o h3 with h5 | h5
      · exact absurd h5 (by simpa using h4)
      · exact k.lot_lt h5
  · have h' : (K.getD i []).contains t = true := h
    unfold stepOf; rw [if_pos h']
  · rcases un i t ks h ht with ⟨_, rfl⟩ | ⟨h1, kvs, h2, rfl⟩
    · cases ho
    · obtain ⟨h3, h4⟩ := List.mem_filter.mp ho
      rcases (rel_keys D hf hf2 tt (k.lot_nd i) (fun r hr => k.lot_lt hr) ht h1 h2).2 o h3 with h5 | h5
      · exact absurd h5 (by simpa using h4)
      · exact memL_iff.mpr h5
  · rcases un i t ks h ht with ⟨h1, _⟩ | ⟨h1, kvs, h2, rfl⟩
    · rw [memL_iff.mpr h1] at hm; cases hm
    · exact rel_some D hf hf2 tt (k.lot_nd i) (fun r hr => k.lot_lt hr) ht h1 h2
  · unfold stepOf at h
    split at h
    · cases h
    · rename_i hc
      have hc' : t ∉ K.getD i [] := fun hm => hc (List.contains_iff_mem.mpr hm)
      refine ⟨?_, rel_none D hf hf2 tt (k.lot_nd i) (fun r hr => k.lot_lt hr) ht hc' (Option.map_eq_none_iff.mp h)⟩
      cases e : memL K i t with
      | false => rfl
      | true => exact absurd (memL_iff.mp e) hc'
/-- what is looked at: the search from x -/
def search (f : Int) (n : Nat) (T0 : List (List Int)) (K : List (List Nat)) (x : Nat) : Option (Rch × Option (Nat × Nat)) := bfs (stepOf f n (T0.map (mdl f)) K) K.length (n + 1) 0 [⟨x, none, 0⟩] [x]
/-- behind a row that came -/
structure Came (f : Int) (w n : Nat) (T0 : List (List Int)) (rows : List Nat) (count : Nat) (K : List (List Nat)) (x : Nat) (pl : List (Nat × Nat)) : Prop where
  nd : (pl.map (·.1)).Nodup
  lt : ∀ z, z ∈ pl → z.2 < count ∧ z.1 < n
  kept : Kept f w n T0 (srt (rows ++ [x])) count (putLots K pl)
  told : changed (K.map srt) ((putLots K pl).map srt) = (srt (pl.map (·.1))).map fun m => (m, (pl.lookup m).getD 0)
  least : ∀ way, way ∈ allLots f T0 (srt (rows ++ [x])) count → pl.length ≤ (changed (K.map srt) way).length
theorem rows_in (r : Nat) : r ∈ srt (rows ++ [x]) ↔ r ∈ rows ∨ r = x := by rw [mem_srt, List.mem_append, List.mem_singleton]
theorem came_ok (D : Dom f) (hf : 0 ≤ f) (hf2 : f ≤ 13) (t : RawOk w n T0) (k : Kept f w n T0 rows count K) (hr : rows.Nodup) (hx : x < n) (hxr : x ∉ rows) :
    (∃ R th i j pl rest, search f n T0 K x = some (R, some (th, i)) ∧ Path R x pl j ∧ pl = (th, i) :: rest ∧ RBase (stepOf f n (T0.map (mdl f)) K) n count x R ∧ Came f w n T0 rows count K x pl) ∨
    (∃ R, search f n T0 K x = some (R, none) ∧ RBase (stepOf f n (T0.map (mdl f)) K) n count x R ∧ allLots f T0 (srt (rows ++ [x])) count = [] ∧ (∀ r, r ∈ keysR R → r ∈ srt (rows ++ [x])) ∧ count * rankOf f T0 (srt (keysR R)) < R.length) := by
  obtain ⟨so, SI⟩ := k.steps D hf hf2 t
  have PL := k.parts D hf t
  have hpx : rows.contains x = false := by simpa using hxr
  have rnd : (srt (rows ++ [x])).Nodup := srt_nodup (List.nodup_append.mpr ⟨hr, List.nodup_cons.mpr ⟨fun h => (nomatch h), List.nodup_nil⟩, fun a ha b hb q => by rw [List.mem_singleton.mp hb] at q; exact hxr (q ▸ ha)⟩)
  have rlt : ∀ r, r ∈ srt (rows ++ [x]) → r < n := fun r h => ((rows_in r).mp h).elim (k.lt r) fun h => h ▸ hx
  have hp : ∀ r, (rows.contains r || decide (r = x)) = true ↔ r ∈ srt (rows ++ [x]) := fun r => by
    rw [rows_in]; simp only [Bool.or_eq_true, List.contains_iff_mem, decide_eq_true_eq]
  have way_parts : ∀ way, way ∈ allLots f T0 (srt (rows ++ [x])) count → Parts f w n (vec (T0.map (mdl f))) count (memL way) (fun r => rows.contains r || decide (r = x)) := fun way hw => by
    have W := (allLots_iff D hf t.len t.wid rnd rlt).mp hw
    have P := W.parts D hf t.len t.wid rlt
    have e : (fun r => (srt (rows ++ [x])).contains r) = fun r => rows.contains r || decide (r = x) := by
      funext r
      rw [Bool.eq_iff_iff, List.contains_iff_mem]
      exact (hp r).symm
    rw [e] at P; exact P
  have hb := bfs_from (count := count) so hx
  unfold search
  rw [k.len]
  have nox : ∀ i, memL K i x = false := fun i => by
    cases e : memL K i x with
    | false => rfl
    | true => exact absurd ((k.mem x).mpr ⟨i, e⟩) hxr
  rcases hb with ⟨R, th, i, j, h1, SK⟩ | ⟨R, h1, CL⟩
  · left
    obtain ⟨e, he, hth, hl⟩ := SK.at_
    obtain ⟨rest, hpath⟩ := path_ex SK.base j e i he hl
    rw [hth] at hpath
    obtain ⟨PA, hlt⟩ := augment D SI PL hx hpx SK hpath ⟨rest, rfl⟩
    generalize hpl : (th, i) :: rest = pl at *
    have nd := hpath.nodup SK.base
    obtain ⟨p1, p2, p3⟩ := putLots_ok (K := K) (pl := pl) (fun z hz => by rw [k.len]; exact (hlt z hz).1) nd k.nd
    have em : memL ((putLots K pl).map srt) = moved (memL K) pl := by
      funext a b
      rw [memL_srt, p3]
    have W : IsWay f T0 (srt (rows ++ [x])) count ((putLots K pl).map srt) := by
      have hlen : ((putLots K pl).map srt).length = count := by rw [List.length_map, p1, k.len]
      have := IsWay.of_parts (n := n) (w := w) (f := f) (T0 := T0) D hf t.len t.wid (rows := srt (rows ++ [x])) (lots := (putLots K pl).map srt) (p := fun r => rows.contains r || decide (r = x)) hp (fun lot hl => by
        obtain ⟨l0, h0, rfl⟩ := List.mem_map.mp hl
        exact srt_lt (p2 l0 h0)) (by rw [hlen, em]; exact PA)
      rw [hlen] at this; exact this
    have KP' : Kept f w n T0 (srt (rows ++ [x])) count (putLots K pl) := ⟨p2, W, rlt⟩
    have dK := k.way.dis
    -- seats
    have s1 : ∀ r i', seat (K.map srt) r = some i' ↔ memL K i' r = true := fun r i' => by rw [seat_iff dK, memL_srt]
    have s2 : ∀ r i', seat ((putLots K pl).map srt) r = some i' ↔ moved (memL K) pl i' r = true := fun r i' => by rw [seat_iff W.dis, em]
    have sm : ∀ z, z ∈ pl → seat ((putLots K pl).map srt) z.1 = some z.2 := fun z hz => (s2 _ _).mpr (moved_iff.mpr (.inr hz))
    have hch : ∀ r, r ∈ srt (rows ++ [x]) → (seat (K.map srt) r ≠ seat ((putLots K pl).map srt) r ↔ r ∈ pl.map (·.1)) := fun r hrr => by
      constructor
      · intro hne
        refine Classical.byContradiction fun hm => hne ?_
        rcases (rows_in r).mp hrr with h | h
        · obtain ⟨i', h'⟩ := (k.mem r).mp h
          rw [(s1 r i').mpr h', (s2 r i').mpr (moved_iff.mpr (.inl ⟨h', hm⟩))]
        · exact absurd (h ▸ hpath.has_x) hm
      · intro hm heq
        obtain ⟨z, hz, rfl⟩ := List.mem_map.mp hm
        rw [sm z hz] at heq
        have h2 := (s1 _ _).mp heq
        rw [(hlt z hz).2.1] at h2; cases h2
    have pin : ∀ m, m ∈ pl.map (·.1) → m ∈ srt (rows ++ [x]) := fun m hm => by
      obtain ⟨z, hz, rfl⟩ := List.mem_map.mp hm
      exact (W.rows_ _).mpr ⟨z.2, by rw [em]; exact moved_iff.mpr (.inr hz)⟩
    refine ⟨R, th, i, j, pl, rest, h1, hpath, hpl.symm, SK.base, nd, fun z hz => ⟨(hlt z hz).1, (hlt z hz).2.2⟩, KP', ?_, fun way hw => ?_⟩
    · unfold changed
      have e1 : ((srt ((seats ((putLots K pl).map srt)).map (·.1))).filter fun r => decide (seat (K.map srt) r ≠ seat ((putLots K pl).map srt) r)) = srt (pl.map (·.1)) := by
        refine sorted_uniq ((srt_lt (seats_nodup W.nodup W.dis)).filter _) (srt_lt nd) fun r => ?_
        rw [List.mem_filter, mem_srt, mem_srt, W.keys, decide_eq_true_eq]
        exact ⟨fun ⟨a, b⟩ => (hch r a).mp b, fun h => ⟨pin r h, (hch r (pin r h)).mpr h⟩⟩
      rw [e1]
      refine List.map_congr_left fun m hm => ?_
      rw [mem_srt] at hm
      obtain ⟨z, hz, rfl⟩ := List.mem_map.mp hm
      rw [sm z hz, lookup_of nd hz]
    · have WW := (allLots_iff D hf t.len t.wid rnd rlt).mp hw
      have PM := way_parts way hw
      rw [changed_len rlt WW, hpath.length]
      refine min_moves D SI PL hx hpx SK PM _ (fun r hpr hmv i' hM => ?_) ?_
      · -- an unmoved row stays
        have hr' : (srt (rows ++ [x])).contains r = true := List.contains_iff_mem.mpr ((rows_in r).mpr (.inl (List.contains_iff_mem.mp hpr)))
        rw [hr', Bool.true_and, decide_eq_false_iff_not, Classical.not_not] at hmv
        exact (s1 r i').mp (hmv.trans ((seat_iff WW.dis).mpr hM))
      · have hr' : (srt (rows ++ [x])).contains x = true := List.contains_iff_mem.mpr ((rows_in x).mpr (.inr rfl))
        rw [hr', Bool.true_and, decide_eq_true_eq]
        have h0 : seat (K.map srt) x = none := seat_none.mpr fun i' => by rw [memL_srt]; exact nox i'
        rw [h0]
        intro h
        obtain ⟨i', hi'⟩ := (WW.rows_ x).mp ((rows_in x).mpr (.inr rfl))
        rw [(seat_iff WW.dis).mpr hi'] at h
        cases h
  · right
    have hin : ∀ r, r ∈ keysR R → r ∈ srt (rows ++ [x]) := fun r hr => by
      obtain ⟨e, he, rfl⟩ := List.mem_map.mp hr
      rw [rows_in]
      cases hv : e.via with
      | none => exact .inr (CL.base.root e he hv).1
      | some z =>
        obtain ⟨q, i'⟩ := z
        obtain ⟨hk, e1, he1, hth1, _, ks, a, b⟩ := CL.base.pre e he q i' hv
        exact .inl (List.contains_iff_mem.mp (PL.inn i' _ (SI.sub i' q ks hk (hth1 ▸ CL.base.bd e1 he1) a _ b)).2.2)
    refine ⟨R, h1, CL.base, ?_, hin, ?_⟩
    · refine List.eq_nil_iff_forall_not_mem.mpr fun way hw => ?_
      exact closed_no_way D SI PL hx hpx CL (way_parts way hw)
    · obtain ⟨A, a1, a2, a3, a4⟩ := lawRank_ok (n := n) (w := w) D hf t.len t.wid (lot := srt (keysR R)) (srt_nodup CL.base.nd) fun r hr => rlt r (hin r (mem_srt.mp hr))
      have := closed_many D SI PL hx hpx CL a3 fun r hr => mem_srt.mp (a1 r hr)
      rw [a2] at this
      exact this
end
end KP
end
section
/-! A lot is closed: the law's stands, and that the program's lots are one of them. Plain Lean. -/
namespace KP
theorem snoc_nodup {l : List Nat} {x : Nat} (h : l.Nodup) (hx : x ∉ l) : (l ++ [x]).Nodup := List.nodup_append.mpr ⟨h, List.nodup_cons.mpr ⟨fun h => (nomatch h), List.nodup_nil⟩, fun a ha b hb q => by
  rw [List.mem_singleton.mp hb] at q
  exact hx (q ▸ ha)⟩
def minL : List Nat → Nat
  | [] => 0
  | a :: l => l.foldl min a
/-- the ways in which a row can come by the fewest moves -/
def nextLots (f : Int) (T0 : List (List Int)) (before : List (List Nat)) (row : Nat) : List (List (List Nat)) :=
  (allLots f T0 (srt ((seats before).map (·.1) ++ [row])) before.length).filter fun way =>
    (changed before way).length = minL ((allLots f T0 (srt ((seats before).map (·.1) ++ [row])) before.length).map fun way => (changed before way).length)
def lessStep (f : Int) (T0 : List (List Int)) (stands : List (List (List Nat))) (row : Nat) : List (List (List Nat)) :=
  stands.foldl (fun later lots => later ++ (nextLots f T0 lots row).filter fun way => !later.contains way) []
theorem foldl_min_le : ∀ (l : List Nat) (a : Nat), l.foldl min a ≤ a ∧ (∀ b, b ∈ l → l.foldl min a ≤ b) ∧ (l.foldl min a = a ∨ l.foldl min a ∈ l)
  | [], a => ⟨Nat.le_refl a, fun b hb => (nomatch hb), .inl rfl⟩
  | b :: l, a => by
    obtain ⟨h1, h2, h3⟩ := foldl_min_le l (min a b)
    refine ⟨Nat.le_trans h1 (Nat.min_le_left ..), fun c hc => ?_, ?_⟩
    · rcases List.mem_cons.mp hc with rfl | hc
      · exact Nat.le_trans h1 (Nat.min_le_right ..)
      · exact h2 c hc
    · show l.foldl min (min a b) = a ∨ l.foldl min (min a b) ∈ b :: l
      rcases h3 with h3 | h3
      · rw [h3]
        rcases Nat.le_total a b with h | h
        · exact .inl (Nat.min_eq_left h)
        · exact .inr (by rw [Nat.min_eq_right h]; exact List.mem_cons_self)
      · exact .inr (List.mem_cons_of_mem _ h3)
/-- the least of some numbers, by what it is -/
theorem minL_eq {l : List Nat} {m : Nat} (h : m ∈ l) (hl : ∀ b, b ∈ l → m ≤ b) : minL l = m := by
  cases l with
  | nil => cases h
  | cons a l =>
    obtain ⟨h1, h2, h3⟩ := foldl_min_le l a
    show l.foldl min a = m
    have e1 : m ≤ l.foldl min a := by
      rcases h3 with h3 | h3
      · rw [h3]; exact hl a List.mem_cons_self
      · exact hl _ (List.mem_cons_of_mem _ h3)
    have e2 : l.foldl min a ≤ m := by
      rcases List.mem_cons.mp h with rfl | h
      · exact h1
      · exact h2 m h
    omega
theorem mem_lessStep {f : Int} {T0 : List (List Int)} {row : Nat} {z : List (List Nat)} : ∀ {stands : List (List (List Nat))}, z ∈ lessStep f T0 stands row ↔ ∃ lots, lots ∈ stands ∧ z ∈ nextLots f T0 lots row := by
  intro stands
  have gen : ∀ (stands acc : List (List (List Nat))), z ∈ stands.foldl (fun later lots => later ++ (nextLots f T0 lots row).filter fun way => !later.contains way) acc ↔ z ∈ acc ∨ ∃ lots, lots ∈ stands ∧ z ∈ nextLots f T0 lots row := by
    intro stands
    induction stands with
    | nil => exact fun acc => ⟨.inl, fun h => h.elim id fun ⟨_, h, _⟩ => nomatch h⟩
    | cons a l ih =>
      intro acc
      rw [List.foldl_cons, ih, List.mem_append, List.mem_filter]
      simp only [Bool.not_eq_true', List.contains_eq_mem, decide_eq_false_iff_not]
      constructor
      · rintro ((h | ⟨h, _⟩) | ⟨lots, h1, h2⟩)
        · exact .inl h
        · exact .inr ⟨a, List.mem_cons_self, h⟩
        · exact .inr ⟨lots, List.mem_cons_of_mem _ h1, h2⟩
      · rintro (h | ⟨lots, h1, h2⟩)
        · exact .inl (.inl h)
        · rcases List.mem_cons.mp h1 with rfl | h1
          · by_cases q : z ∈ acc
            · exact .inl (.inl q)
            · exact .inl (.inr ⟨h2, q⟩)
          · exact .inr ⟨lots, h1, h2⟩
  rw [lessStep, gen]
  exact ⟨fun h => h.elim (fun h => nomatch h) id, .inr⟩
section
variable {f : Int} {w n count : Nat} {T0 : List (List Int)} {rows : List Nat} {K : List (List Nat)} {x : Nat}
/-- the rows of lots, sorted with a further one -/
theorem way_rows_srt {lots : List (List Nat)} (W : IsWay f T0 rows count lots) (hr : rows.Nodup) (hx : x ∉ rows) : srt ((seats lots).map (·.1) ++ [x]) = srt (rows ++ [x]) := by
  have nd1 : ((seats lots).map (·.1) ++ [x]).Nodup := List.nodup_append.mpr ⟨seats_nodup W.nodup W.dis, List.nodup_cons.mpr ⟨fun h => (nomatch h), List.nodup_nil⟩, fun a ha b hb q => by
    rw [List.mem_singleton.mp hb] at q
    exact hx (q ▸ (W.keys a).mp ha)⟩
  have nd2 : (rows ++ [x]).Nodup := List.nodup_append.mpr ⟨hr, List.nodup_cons.mpr ⟨fun h => (nomatch h), List.nodup_nil⟩, fun a ha b hb q => by
    rw [List.mem_singleton.mp hb] at q
    exact hx (q ▸ ha)⟩
  refine sorted_uniq (srt_lt nd1) (srt_lt nd2) fun r => ?_
  rw [mem_srt, mem_srt, List.mem_append, List.mem_append, W.keys]
theorem way_rows_all {lots : List (List Nat)} (W : IsWay f T0 rows count lots) (hr : rows.Nodup) : srt ((seats lots).map (·.1)) = srt rows := by
  refine sorted_uniq (srt_lt (seats_nodup W.nodup W.dis)) (srt_lt hr) fun r => ?_
  rw [mem_srt, mem_srt, W.keys]
/-- all ways by the fewest moves are ways -/
theorem nextLots_way (D : Dom f) (hf : 0 ≤ f) (t : RawOk w n T0) {lots : List (List Nat)} (W : IsWay f T0 rows count lots) (hr : rows.Nodup) (hl : ∀ r, r ∈ rows → r < n) (hx : x < n) (hxr : x ∉ rows) {way : List (List Nat)} (h : way ∈ nextLots f T0 lots x) :
    IsWay f T0 (srt (rows ++ [x])) count way := by
  have h1 := (List.mem_filter.mp h).1
  rw [way_rows_srt W hr hxr, W.len] at h1
  refine (allLots_iff D hf t.len t.wid (srt_nodup (snoc_nodup hr hxr)) fun r h => ((rows_in r).mp h).elim (hl r) fun h => h ▸ hx).mp h1
/-- the program's lots behind a row that came are one of them -/
theorem came_next (D : Dom f) (hf : 0 ≤ f) (t : RawOk w n T0) (k : Kept f w n T0 rows count K) (hr : rows.Nodup) (hx : x < n) (hxr : x ∉ rows) {pl : List (Nat × Nat)} (C : Came f w n T0 rows count K x pl) :
    (putLots K pl).map srt ∈ nextLots f T0 (K.map srt) x := by
  have e1 := way_rows_srt k.way hr hxr
  have rnd : (srt (rows ++ [x])).Nodup := srt_nodup (List.nodup_append.mpr ⟨hr, List.nodup_cons.mpr ⟨fun h => (nomatch h), List.nodup_nil⟩, fun a ha b hb q => by rw [List.mem_singleton.mp hb] at q; exact hxr (q ▸ ha)⟩)
  have hw : (putLots K pl).map srt ∈ allLots f T0 (srt (rows ++ [x])) count := (allLots_iff D hf t.len t.wid rnd C.kept.lt).mpr C.kept.way
  have hlen : (changed (K.map srt) ((putLots K pl).map srt)).length = pl.length := by
    rw [C.told, List.length_map, (srt_perm _).length_eq, List.length_map]
  refine List.mem_filter.mpr ⟨?_, decide_eq_true ?_⟩
  · rw [e1, k.way.len]; exact hw
  · rw [e1, k.way.len]
    refine (minL_eq (l := (allLots f T0 (srt (rows ++ [x])) count).map fun way => (changed (K.map srt) way).length) (List.mem_map.mpr ⟨_, hw, rfl⟩) fun b hb => ?_).symm
    obtain ⟨way, h, rfl⟩ := List.mem_map.mp hb
    rw [hlen]; exact C.least way h
/-- no way for some rows: none for more -/
theorem no_more (D : Dom f) (hf : 0 ≤ f) (t : RawOk w n T0) {less more : List Nat} (hn1 : less.Nodup) (hn2 : more.Nodup) (hl : ∀ r, r ∈ more → r < n) (hs : ∀ r, r ∈ less → r ∈ more) (h : allLots f T0 less count = []) : allLots f T0 more count = [] := by
  refine List.eq_nil_iff_forall_not_mem.mpr fun z hz => ?_
  have W := (allLots_iff D hf t.len t.wid hn2 hl).mp hz
  have PZ := W.parts D hf t.len t.wid hl
  let lots : List (List Nat) := z.map fun lot => lot.filter fun r => less.contains r
  have lg : ∀ i, lots.getD i [] = (z.getD i []).filter fun r => less.contains r := fun i => by
    simp only [lots, List.getD_eq_getElem?_getD, List.getElem?_map]
    cases z[i]? with
    | none => rfl
    | some _ => rfl
  have lm : ∀ i r, memL lots i r = true ↔ memL z i r = true ∧ r ∈ less := fun i r => by
    rw [memL_iff, memL_iff, lg, List.mem_filter, List.contains_iff_mem]
  have ll : lots.length = count := (List.length_map ..).trans W.len
  have W' := IsWay.of_parts (n := n) (w := w) D hf t.len t.wid (rows := less) (lots := lots) (p := fun r => less.contains r) (fun r => List.contains_iff_mem) (fun lot hl => by
      obtain ⟨l0, h0, rfl⟩ := List.mem_map.mp hl
      exact (W.srt l0 h0).filter _) ⟨fun i hi => (PZ.free i (by rw [ll] at hi; exact hi)).sub fun r hr => ((lm i r).mp hr).1, fun i r h => by
      obtain ⟨h1, h2⟩ := (lm i r).mp h
      obtain ⟨h3, h4, _⟩ := PZ.inn i r h1
      exact ⟨by rw [ll]; exact h3, h4, List.contains_iff_mem.mpr h2⟩, fun r h => by
      have h2 := List.contains_iff_mem.mp h
      obtain ⟨i, h1⟩ := (W.rows_ r).mp (hs r h2)
      exact ⟨i, by rw [ll, ← W.len]; exact memL_lt h1, (lm i r).mpr ⟨h1, h2⟩⟩, fun i j r hi hj => W.dis i j r ((lm i r).mp hi).1 ((lm j r).mp hj).1⟩
  rw [ll] at W'
  have := (allLots_iff D hf t.len t.wid hn1 fun r hr => hl r (hs r hr)).mpr W'
  rw [h] at this
  cases this
end
end KP
end
section
set_option Elab.async false
set_option linter.all false
set_option maxRecDepth 100000
/-! Where the defs stand in the row's text; the facts that the head tells. Printed by mk_text.py. -/
namespace KW
open PySem PySem.Spec PyProof.Rows L2
def top (i : Nat) : Stmt := PySem.Challenge.pw_freelots_k13_whole_keepers.main.body.getD i (.Pass ⟨0, 0, 0, 0⟩)
abbrev s_is_list : Stmt := top 14
abbrev s_is_integer : Stmt := top 15
abbrev s_is_below : Stmt := top 16
abbrev s_is_count : Stmt := top 17
abbrev s_greatest_divisor : Stmt := top 18
abbrev s_leaned : Stmt := top 19
abbrev s_is_row : Stmt := top 23
abbrev s_width_of : Stmt := top 24
abbrev s_check_count : Stmt := top 28
abbrev s_l_source : Stmt := top 32
abbrev s_l_draw : Stmt := top 33
abbrev s_l_pick : Stmt := top 34
abbrev s_l_field : Stmt := top 35
abbrev s_l_rows : Stmt := top 36
abbrev s_l_made : Stmt := top 37
abbrev s_l_rank : Stmt := top 38
abbrev s_l_rank_of : Stmt := top 39
abbrev s_l_is_lot : Stmt := top 40
abbrev s_l_is_many : Stmt := top 41
abbrev s_l_tried : Stmt := top 42
abbrev s_l_all_lots : Stmt := top 43
abbrev s_l_seats : Stmt := top 44
abbrev s_l_changed : Stmt := top 45
abbrev s_l_are_right : Stmt := top 46
abbrev s_l_is_shown : Stmt := top 47
abbrev s_l_come_right : Stmt := top 48
abbrev s_l_next_lots : Stmt := top 49
abbrev s_l_less_right : Stmt := top 50
abbrev s_l_deed : Stmt := top 51
abbrev s_law : Stmt := top 52
abbrev s_Places_DinitD : Stmt := inClass (top 21) 0
abbrev s_Places_steps_to : Stmt := inClass (top 21) 1
abbrev s_Places_reached_from : Stmt := inClass (top 21) 2
abbrev s_Places_put : Stmt := inClass (top 21) 3
abbrev s_Places_told : Stmt := inClass (top 21) 4
abbrev s_Base_DinitD : Stmt := inClass (top 25) 0
abbrev s_Base_left_of : Stmt := inClass (top 25) 1
abbrev s_Base_relation : Stmt := inClass (top 25) 2
abbrev s_Base_add : Stmt := inClass (top 25) 3
abbrev s_Rows_DinitD : Stmt := inClass (top 26) 0
abbrev s_Rows_field : Stmt := inClass (top 26) 1
abbrev s_Rows_width : Stmt := inClass (top 26) 2
abbrev s_Rows_DlenD : Stmt := inClass (top 26) 3
abbrev s_Rows_DeqD : Stmt := inClass (top 26) 4
abbrev s_Rows_row_at : Stmt := inClass (top 26) 5
abbrev s_Rows_base_of : Stmt := inClass (top 26) 6
abbrev s_Keeper_DinitD : Stmt := inClass (top 30) 0
abbrev s_Keeper_table : Stmt := inClass (top 30) 1
abbrev s_Keeper_lots : Stmt := inClass (top 30) 2
abbrev s_Keeper_note : Stmt := inClass (top 30) 3
abbrev s_Keeper_places : Stmt := inClass (top 30) 4
abbrev s_Keeper_come : Stmt := inClass (top 30) 5
abbrev s_Keeper_go : Stmt := inClass (top 30) 6
abbrev s_Keeper_more : Stmt := inClass (top 30) 7
abbrev s_Keeper_less : Stmt := inClass (top 30) 8
abbrev s_Keeper_undo : Stmt := inClass (top 30) 9
abbrev s_Keeper_again : Stmt := inClass (top 30) 10
def d_is_list : He.DefD := ⟨("is_list", none), "is_list", "is_list", defArgs s_is_list, defBody s_is_list, defScope s_is_list, [], []⟩
def d_is_integer : He.DefD := ⟨("is_integer", none), "is_integer", "is_integer", defArgs s_is_integer, defBody s_is_integer, defScope s_is_integer, [], []⟩
def d_is_below : He.DefD := ⟨("is_below", none), "is_below", "is_below", defArgs s_is_below, defBody s_is_below, defScope s_is_below, [], []⟩
def d_is_count : He.DefD := ⟨("is_count", none), "is_count", "is_count", defArgs s_is_count, defBody s_is_count, defScope s_is_count, [], []⟩
def d_greatest_divisor : He.DefD := ⟨("greatest_divisor", none), "greatest_divisor", "greatest_divisor", defArgs s_greatest_divisor, defBody s_greatest_divisor, defScope s_greatest_divisor, [], []⟩
def d_leaned : He.DefD := ⟨("leaned", none), "leaned", "leaned", defArgs s_leaned, defBody s_leaned, defScope s_leaned, [], []⟩
def d_is_row : He.DefD := ⟨("is_row", none), "is_row", "is_row", defArgs s_is_row, defBody s_is_row, defScope s_is_row, [], []⟩
def d_width_of : He.DefD := ⟨("width_of", none), "width_of", "width_of", defArgs s_width_of, defBody s_width_of, defScope s_width_of, [], []⟩
def d_check_count : He.DefD := ⟨("check_count", none), "check_count", "check_count", defArgs s_check_count, defBody s_check_count, defScope s_check_count, [], []⟩
def d_l_source : He.DefD := ⟨("_law_source", none), "_law_source", "_law_source", defArgs s_l_source, defBody s_l_source, defScope s_l_source, [], []⟩
def d_l_draw : He.DefD := ⟨("_law_draw", none), "_law_draw", "_law_draw", defArgs s_l_draw, defBody s_l_draw, defScope s_l_draw, [], []⟩
def d_l_pick : He.DefD := ⟨("_law_pick", none), "_law_pick", "_law_pick", defArgs s_l_pick, defBody s_l_pick, defScope s_l_pick, [], []⟩
def d_l_field : He.DefD := ⟨("_law_field", none), "_law_field", "_law_field", defArgs s_l_field, defBody s_l_field, defScope s_l_field, [], []⟩
def d_l_rows : He.DefD := ⟨("_law_rows", none), "_law_rows", "_law_rows", defArgs s_l_rows, defBody s_l_rows, defScope s_l_rows, [], []⟩
def d_l_made : He.DefD := ⟨("_law_made", none), "_law_made", "_law_made", defArgs s_l_made, defBody s_l_made, defScope s_l_made, [], []⟩
def d_l_rank : He.DefD := ⟨("_law_rank", none), "_law_rank", "_law_rank", defArgs s_l_rank, defBody s_l_rank, defScope s_l_rank, [], []⟩
def d_l_rank_of : He.DefD := ⟨("_law_rank_of", none), "_law_rank_of", "_law_rank_of", defArgs s_l_rank_of, defBody s_l_rank_of, defScope s_l_rank_of, [], []⟩
def d_l_is_lot : He.DefD := ⟨("_law_is_lot", none), "_law_is_lot", "_law_is_lot", defArgs s_l_is_lot, defBody s_l_is_lot, defScope s_l_is_lot, [], []⟩
def d_l_is_many : He.DefD := ⟨("_law_is_many", none), "_law_is_many", "_law_is_many", defArgs s_l_is_many, defBody s_l_is_many, defScope s_l_is_many, [], []⟩
def d_l_tried : He.DefD := ⟨("_law_tried", none), "_law_tried", "_law_tried", defArgs s_l_tried, defBody s_l_tried, defScope s_l_tried, [], []⟩
def d_l_all_lots : He.DefD := ⟨("_law_all_lots", none), "_law_all_lots", "_law_all_lots", defArgs s_l_all_lots, defBody s_l_all_lots, defScope s_l_all_lots, [], []⟩
def d_l_seats : He.DefD := ⟨("_law_seats", none), "_law_seats", "_law_seats", defArgs s_l_seats, defBody s_l_seats, defScope s_l_seats, [], []⟩
def d_l_changed : He.DefD := ⟨("_law_changed", none), "_law_changed", "_law_changed", defArgs s_l_changed, defBody s_l_changed, defScope s_l_changed, [], []⟩
def d_l_are_right : He.DefD := ⟨("_law_are_right", none), "_law_are_right", "_law_are_right", defArgs s_l_are_right, defBody s_l_are_right, defScope s_l_are_right, [], []⟩
def d_l_is_shown : He.DefD := ⟨("_law_is_shown", none), "_law_is_shown", "_law_is_shown", defArgs s_l_is_shown, defBody s_l_is_shown, defScope s_l_is_shown, [], []⟩
def d_l_come_right : He.DefD := ⟨("_law_come_right", none), "_law_come_right", "_law_come_right", defArgs s_l_come_right, defBody s_l_come_right, defScope s_l_come_right, [], []⟩
def d_l_next_lots : He.DefD := ⟨("_law_next_lots", none), "_law_next_lots", "_law_next_lots", defArgs s_l_next_lots, defBody s_l_next_lots, defScope s_l_next_lots, [], []⟩
def d_l_less_right : He.DefD := ⟨("_law_less_right", none), "_law_less_right", "_law_less_right", defArgs s_l_less_right, defBody s_l_less_right, defScope s_l_less_right, [], []⟩
def d_l_deed : He.DefD := ⟨("_law_deed", none), "_law_deed", "_law_deed", defArgs s_l_deed, defBody s_l_deed, defScope s_l_deed, [], []⟩
def d_law : He.DefD := ⟨("law", none), "law", "law", defArgs s_law, defBody s_law, defScope s_law, [], []⟩
def d_Places_DinitD : He.DefD := ⟨("Places", some "__init__"), "__init__", "Places.__init__", defArgs s_Places_DinitD, defBody s_Places_DinitD, defScope s_Places_DinitD, [], []⟩
def d_Places_steps_to : He.DefD := ⟨("Places", some "steps_to"), "steps_to", "Places.steps_to", defArgs s_Places_steps_to, defBody s_Places_steps_to, defScope s_Places_steps_to, [], []⟩
def d_Places_reached_from : He.DefD := ⟨("Places", some "reached_from"), "reached_from", "Places.reached_from", defArgs s_Places_reached_from, defBody s_Places_reached_from, defScope s_Places_reached_from, [], []⟩
def d_Places_put : He.DefD := ⟨("Places", some "put"), "put", "Places.put", defArgs s_Places_put, defBody s_Places_put, defScope s_Places_put, [], []⟩
def d_Places_told : He.DefD := ⟨("Places", some "told"), "told", "Places.told", defArgs s_Places_told, defBody s_Places_told, defScope s_Places_told, [], []⟩
def d_Base_DinitD : He.DefD := ⟨("Base", some "__init__"), "__init__", "Base.__init__", defArgs s_Base_DinitD, defBody s_Base_DinitD, defScope s_Base_DinitD, [], []⟩
def d_Base_left_of : He.DefD := ⟨("Base", some "left_of"), "left_of", "Base.left_of", defArgs s_Base_left_of, defBody s_Base_left_of, defScope s_Base_left_of, [], []⟩
def d_Base_relation : He.DefD := ⟨("Base", some "relation"), "relation", "Base.relation", defArgs s_Base_relation, defBody s_Base_relation, defScope s_Base_relation, [], []⟩
def d_Base_add : He.DefD := ⟨("Base", some "add"), "add", "Base.add", defArgs s_Base_add, defBody s_Base_add, defScope s_Base_add, [], []⟩
def d_Rows_DinitD : He.DefD := ⟨("Rows", some "__init__"), "__init__", "Rows.__init__", defArgs s_Rows_DinitD, defBody s_Rows_DinitD, defScope s_Rows_DinitD, [.int 0], []⟩
def d_Rows_DlenD : He.DefD := ⟨("Rows", some "__len__"), "__len__", "Rows.__len__", defArgs s_Rows_DlenD, defBody s_Rows_DlenD, defScope s_Rows_DlenD, [], []⟩
def d_Rows_DeqD : He.DefD := ⟨("Rows", some "__eq__"), "__eq__", "Rows.__eq__", defArgs s_Rows_DeqD, defBody s_Rows_DeqD, defScope s_Rows_DeqD, [], []⟩
def d_Rows_row_at : He.DefD := ⟨("Rows", some "row_at"), "row_at", "Rows.row_at", defArgs s_Rows_row_at, defBody s_Rows_row_at, defScope s_Rows_row_at, [], []⟩
def d_Rows_base_of : He.DefD := ⟨("Rows", some "base_of"), "base_of", "Rows.base_of", defArgs s_Rows_base_of, defBody s_Rows_base_of, defScope s_Rows_base_of, [], []⟩
def d_Keeper_DinitD : He.DefD := ⟨("Keeper", some "__init__"), "__init__", "Keeper.__init__", defArgs s_Keeper_DinitD, defBody s_Keeper_DinitD, defScope s_Keeper_DinitD, [], []⟩
def d_Keeper_lots : He.DefD := ⟨("Keeper", some "lots"), "lots", "Keeper.lots", defArgs s_Keeper_lots, defBody s_Keeper_lots, defScope s_Keeper_lots, [], []⟩
def d_Keeper_note : He.DefD := ⟨("Keeper", some "note"), "note", "Keeper.note", defArgs s_Keeper_note, defBody s_Keeper_note, defScope s_Keeper_note, [], []⟩
def d_Keeper_places : He.DefD := ⟨("Keeper", some "places"), "places", "Keeper.places", defArgs s_Keeper_places, defBody s_Keeper_places, defScope s_Keeper_places, [], []⟩
def d_Keeper_come : He.DefD := ⟨("Keeper", some "come"), "come", "Keeper.come", defArgs s_Keeper_come, defBody s_Keeper_come, defScope s_Keeper_come, [], []⟩
def d_Keeper_go : He.DefD := ⟨("Keeper", some "go"), "go", "Keeper.go", defArgs s_Keeper_go, defBody s_Keeper_go, defScope s_Keeper_go, [], []⟩
def d_Keeper_more : He.DefD := ⟨("Keeper", some "more"), "more", "Keeper.more", defArgs s_Keeper_more, defBody s_Keeper_more, defScope s_Keeper_more, [], []⟩
def d_Keeper_less : He.DefD := ⟨("Keeper", some "less"), "less", "Keeper.less", defArgs s_Keeper_less, defBody s_Keeper_less, defScope s_Keeper_less, [], []⟩
def d_Keeper_undo : He.DefD := ⟨("Keeper", some "undo"), "undo", "Keeper.undo", defArgs s_Keeper_undo, defBody s_Keeper_undo, defScope s_Keeper_undo, [], []⟩
def d_Keeper_again : He.DefD := ⟨("Keeper", some "again"), "again", "Keeper.again", defArgs s_Keeper_again, defBody s_Keeper_again, defScope s_Keeper_again, [], []⟩
def fnA : List He.DefD := [d_is_list, d_is_integer, d_is_below, d_is_count, d_greatest_divisor, d_leaned, d_is_row, d_width_of, d_check_count, d_l_source, d_l_draw, d_l_pick, d_l_field, d_l_rows, d_l_made, d_l_rank, d_l_rank_of, d_l_is_lot, d_l_is_many, d_l_tried, d_l_all_lots, d_l_seats, d_l_changed, d_l_are_right, d_l_is_shown, d_l_come_right, d_l_next_lots, d_l_less_right, d_l_deed, d_law]
def fnB : List He.DefD := [d_Places_DinitD, d_Places_steps_to, d_Places_reached_from, d_Places_put, d_Places_told, d_Base_DinitD, d_Base_left_of, d_Base_relation, d_Base_add, d_Rows_DinitD, d_Rows_DlenD, d_Rows_DeqD, d_Rows_row_at, d_Rows_base_of, d_Keeper_DinitD, d_Keeper_lots, d_Keeper_note, d_Keeper_places, d_Keeper_come, d_Keeper_go, d_Keeper_more, d_Keeper_less, d_Keeper_undo, d_Keeper_again]
def fn : List He.DefD := fnA ++ fnB
def fa0 : List He.Fa := [.glo "is_list", .glo "is_integer", .glo "is_below", .glo "is_count", .glo "greatest_divisor", .glo "leaned", .glo "is_row", .glo "width_of", .glo "check_count", .glo "_law_source", .glo "_law_draw", .glo "_law_pick", .glo "_law_field", .glo "_law_rows", .glo "_law_made", .glo "_law_rank", .glo "_law_rank_of", .glo "_law_is_lot", .glo "_law_is_many", .glo "_law_tried", .glo "_law_all_lots", .glo "_law_seats", .glo "_law_changed", .glo "_law_are_right", .glo "_law_is_shown", .glo "_law_come_right", .glo "_law_next_lots", .glo "_law_less_right", .glo "_law_deed", .glo "law"]
def fa1 : List He.Fa := [.glo "Places", .glo "Base", .glo "Rows", .glo "Keeper", .glo "BadCount", .glo "TooMany", .glo "NoRow", .glo "NoDeed", .glo "FIELDS", .free "isinstance", .free "list", .free "tuple", .free "int", .free "bool", .free "abs", .free "len", .free "zip", .free "range", .free "sorted", .free "all", .free "any", .free "set", .free "dict", .free "enumerate", .free "repr", .free "sum", .free "min", .free "super", .int "MOST_LOTS" 60, .int "MOST_ROWS" 60]
def fa2 : List He.Fa := [.int "MOST_WIDTH" 12, .cls "Places", .mkr "Places", .noat "Places" "tables", .noat "Places" "sizes", .noat "Places" "kept", .meth "Places" "steps_to", .meth "Places" "reached_from", .meth "Places" "put", .meth "Places" "told", .cls "Base", .mkr "Base", .noat "Base" "own_table", .noat "Base" "steps", .meth "Base" "left_of", .meth "Base" "relation", .meth "Base" "add", .cls "Rows", .mkr "Rows", .noat "Rows" "own_field", .noat "Rows" "own_width", .noat "Rows" "own_rows", .meth "Rows" "row_at", .meth "Rows" "base_of", .cls "Keeper", .mkr "Keeper", .noat "Keeper" "own_table", .noat "Keeper" "moments", .noat "Keeper" "at", .meth "Keeper" "lots"]
def fa3 : List He.Fa := [.meth "Keeper" "note", .meth "Keeper" "places", .meth "Keeper" "come", .meth "Keeper" "go", .meth "Keeper" "more", .meth "Keeper" "less", .meth "Keeper" "undo", .meth "Keeper" "again", .exm "BadCount" "NoRow" false, .exm "BadCount" "BadCount" true, .exm "BadCount" "TooMany" false, .exm "BadCount" "NoDeed" false, .keep "BadCount", .exm "TooMany" "NoRow" false, .exm "TooMany" "BadCount" false, .exm "TooMany" "TooMany" true, .exm "TooMany" "NoDeed" false, .keep "TooMany", .exm "NoRow" "NoRow" true, .exm "NoRow" "BadCount" false, .exm "NoRow" "TooMany" false, .exm "NoRow" "NoDeed" false, .keep "NoRow", .exm "NoDeed" "NoRow" false, .exm "NoDeed" "BadCount" false, .exm "NoDeed" "TooMany" false, .exm "NoDeed" "NoDeed" true, .keep "NoDeed"]
def fa : List He.Fa := fa0 ++ (fa1 ++ (fa2 ++ (fa3)))
/-- what is told of the written part -/
structure Txt (K : PySem.W.Frag) (mg : Str → Option Value) : Prop where
  d : He.SaysD fa fn K
  ns : ∀ (x : Str) (v : Value), PySem.W.nsIn K mainGlobals x = some (some v) → mg x = some v
  nsn : ∀ (x : Str), PySem.W.nsIn K mainGlobals x = some none → mg x = none
section
variable {K : PySem.W.Frag} {mg : Str → Option Value}
theorem Txt.int (T : Txt K mg) {x : Str} {i : Int} (c : (He.Fa.int x i).ok K = true) : ∃ t, mg x = some (.int i t) := by
  have c2 : (match PySem.W.nsIn K mainGlobals x with
    | some (some (.int j _)) => decide (j = i)
    | _ => false) = true := c
  cases e : PySem.W.nsIn K mainGlobals x with
  | none => rw [e] at c2; cases c2
  | some o =>
    rw [e] at c2
    cases o with
    | none => cases c2
    | some v =>
      cases v with
      | int j t =>
        have ej : j = i := of_decide_eq_true c2
        rw [ej] at e
        exact ⟨t, T.ns _ _ e⟩
      | _ => cases c2
theorem Txt.g_is_list (T : Txt K mg) : mg "is_list" = some (.ref (He.ga K "is_list")) := T.ns _ _ (He.eqO_ok (T.d.fact 0 (f := .glo "is_list") rfl))
theorem Txt.g_is_integer (T : Txt K mg) : mg "is_integer" = some (.ref (He.ga K "is_integer")) := T.ns _ _ (He.eqO_ok (T.d.fact 1 (f := .glo "is_integer") rfl))
theorem Txt.g_is_below (T : Txt K mg) : mg "is_below" = some (.ref (He.ga K "is_below")) := T.ns _ _ (He.eqO_ok (T.d.fact 2 (f := .glo "is_below") rfl))
theorem Txt.g_is_count (T : Txt K mg) : mg "is_count" = some (.ref (He.ga K "is_count")) := T.ns _ _ (He.eqO_ok (T.d.fact 3 (f := .glo "is_count") rfl))
theorem Txt.g_greatest_divisor (T : Txt K mg) : mg "greatest_divisor" = some (.ref (He.ga K "greatest_divisor")) := T.ns _ _ (He.eqO_ok (T.d.fact 4 (f := .glo "greatest_divisor") rfl))
theorem Txt.g_leaned (T : Txt K mg) : mg "leaned" = some (.ref (He.ga K "leaned")) := T.ns _ _ (He.eqO_ok (T.d.fact 5 (f := .glo "leaned") rfl))
theorem Txt.g_is_row (T : Txt K mg) : mg "is_row" = some (.ref (He.ga K "is_row")) := T.ns _ _ (He.eqO_ok (T.d.fact 6 (f := .glo "is_row") rfl))
theorem Txt.g_width_of (T : Txt K mg) : mg "width_of" = some (.ref (He.ga K "width_of")) := T.ns _ _ (He.eqO_ok (T.d.fact 7 (f := .glo "width_of") rfl))
theorem Txt.g_check_count (T : Txt K mg) : mg "check_count" = some (.ref (He.ga K "check_count")) := T.ns _ _ (He.eqO_ok (T.d.fact 8 (f := .glo "check_count") rfl))
theorem Txt.g_l_source (T : Txt K mg) : mg "_law_source" = some (.ref (He.ga K "_law_source")) := T.ns _ _ (He.eqO_ok (T.d.fact 9 (f := .glo "_law_source") rfl))
theorem Txt.g_l_draw (T : Txt K mg) : mg "_law_draw" = some (.ref (He.ga K "_law_draw")) := T.ns _ _ (He.eqO_ok (T.d.fact 10 (f := .glo "_law_draw") rfl))
theorem Txt.g_l_pick (T : Txt K mg) : mg "_law_pick" = some (.ref (He.ga K "_law_pick")) := T.ns _ _ (He.eqO_ok (T.d.fact 11 (f := .glo "_law_pick") rfl))
theorem Txt.g_l_field (T : Txt K mg) : mg "_law_field" = some (.ref (He.ga K "_law_field")) := T.ns _ _ (He.eqO_ok (T.d.fact 12 (f := .glo "_law_field") rfl))
theorem Txt.g_l_rows (T : Txt K mg) : mg "_law_rows" = some (.ref (He.ga K "_law_rows")) := T.ns _ _ (He.eqO_ok (T.d.fact 13 (f := .glo "_law_rows") rfl))
theorem Txt.g_l_made (T : Txt K mg) : mg "_law_made" = some (.ref (He.ga K "_law_made")) := T.ns _ _ (He.eqO_ok (T.d.fact 14 (f := .glo "_law_made") rfl))
theorem Txt.g_l_rank (T : Txt K mg) : mg "_law_rank" = some (.ref (He.ga K "_law_rank")) := T.ns _ _ (He.eqO_ok (T.d.fact 15 (f := .glo "_law_rank") rfl))
theorem Txt.g_l_rank_of (T : Txt K mg) : mg "_law_rank_of" = some (.ref (He.ga K "_law_rank_of")) := T.ns _ _ (He.eqO_ok (T.d.fact 16 (f := .glo "_law_rank_of") rfl))
theorem Txt.g_l_is_lot (T : Txt K mg) : mg "_law_is_lot" = some (.ref (He.ga K "_law_is_lot")) := T.ns _ _ (He.eqO_ok (T.d.fact 17 (f := .glo "_law_is_lot") rfl))
theorem Txt.g_l_is_many (T : Txt K mg) : mg "_law_is_many" = some (.ref (He.ga K "_law_is_many")) := T.ns _ _ (He.eqO_ok (T.d.fact 18 (f := .glo "_law_is_many") rfl))
theorem Txt.g_l_tried (T : Txt K mg) : mg "_law_tried" = some (.ref (He.ga K "_law_tried")) := T.ns _ _ (He.eqO_ok (T.d.fact 19 (f := .glo "_law_tried") rfl))
theorem Txt.g_l_all_lots (T : Txt K mg) : mg "_law_all_lots" = some (.ref (He.ga K "_law_all_lots")) := T.ns _ _ (He.eqO_ok (T.d.fact 20 (f := .glo "_law_all_lots") rfl))
theorem Txt.g_l_seats (T : Txt K mg) : mg "_law_seats" = some (.ref (He.ga K "_law_seats")) := T.ns _ _ (He.eqO_ok (T.d.fact 21 (f := .glo "_law_seats") rfl))
theorem Txt.g_l_changed (T : Txt K mg) : mg "_law_changed" = some (.ref (He.ga K "_law_changed")) := T.ns _ _ (He.eqO_ok (T.d.fact 22 (f := .glo "_law_changed") rfl))
theorem Txt.g_l_are_right (T : Txt K mg) : mg "_law_are_right" = some (.ref (He.ga K "_law_are_right")) := T.ns _ _ (He.eqO_ok (T.d.fact 23 (f := .glo "_law_are_right") rfl))
theorem Txt.g_l_is_shown (T : Txt K mg) : mg "_law_is_shown" = some (.ref (He.ga K "_law_is_shown")) := T.ns _ _ (He.eqO_ok (T.d.fact 24 (f := .glo "_law_is_shown") rfl))
theorem Txt.g_l_come_right (T : Txt K mg) : mg "_law_come_right" = some (.ref (He.ga K "_law_come_right")) := T.ns _ _ (He.eqO_ok (T.d.fact 25 (f := .glo "_law_come_right") rfl))
theorem Txt.g_l_next_lots (T : Txt K mg) : mg "_law_next_lots" = some (.ref (He.ga K "_law_next_lots")) := T.ns _ _ (He.eqO_ok (T.d.fact 26 (f := .glo "_law_next_lots") rfl))
theorem Txt.g_l_less_right (T : Txt K mg) : mg "_law_less_right" = some (.ref (He.ga K "_law_less_right")) := T.ns _ _ (He.eqO_ok (T.d.fact 27 (f := .glo "_law_less_right") rfl))
theorem Txt.g_l_deed (T : Txt K mg) : mg "_law_deed" = some (.ref (He.ga K "_law_deed")) := T.ns _ _ (He.eqO_ok (T.d.fact 28 (f := .glo "_law_deed") rfl))
theorem Txt.g_law (T : Txt K mg) : mg "law" = some (.ref (He.ga K "law")) := T.ns _ _ (He.eqO_ok (T.d.fact 29 (f := .glo "law") rfl))
theorem Txt.g_Places (T : Txt K mg) : mg "Places" = some (.ref (He.ga K "Places")) := T.ns _ _ (He.eqO_ok (T.d.fact 30 (f := .glo "Places") rfl))
theorem Txt.g_Base (T : Txt K mg) : mg "Base" = some (.ref (He.ga K "Base")) := T.ns _ _ (He.eqO_ok (T.d.fact 31 (f := .glo "Base") rfl))
theorem Txt.g_Rows (T : Txt K mg) : mg "Rows" = some (.ref (He.ga K "Rows")) := T.ns _ _ (He.eqO_ok (T.d.fact 32 (f := .glo "Rows") rfl))
theorem Txt.g_Keeper (T : Txt K mg) : mg "Keeper" = some (.ref (He.ga K "Keeper")) := T.ns _ _ (He.eqO_ok (T.d.fact 33 (f := .glo "Keeper") rfl))
theorem Txt.g_BadCount (T : Txt K mg) : mg "BadCount" = some (.ref (He.ga K "BadCount")) := T.ns _ _ (He.eqO_ok (T.d.fact 34 (f := .glo "BadCount") rfl))
theorem Txt.g_TooMany (T : Txt K mg) : mg "TooMany" = some (.ref (He.ga K "TooMany")) := T.ns _ _ (He.eqO_ok (T.d.fact 35 (f := .glo "TooMany") rfl))
theorem Txt.g_NoRow (T : Txt K mg) : mg "NoRow" = some (.ref (He.ga K "NoRow")) := T.ns _ _ (He.eqO_ok (T.d.fact 36 (f := .glo "NoRow") rfl))
theorem Txt.g_NoDeed (T : Txt K mg) : mg "NoDeed" = some (.ref (He.ga K "NoDeed")) := T.ns _ _ (He.eqO_ok (T.d.fact 37 (f := .glo "NoDeed") rfl))
theorem Txt.g_FIELDS (T : Txt K mg) : mg "FIELDS" = some (.ref (He.ga K "FIELDS")) := T.ns _ _ (He.eqO_ok (T.d.fact 38 (f := .glo "FIELDS") rfl))
theorem Txt.f_isinstance (T : Txt K mg) : mg "isinstance" = none := T.nsn _ (He.eqO_ok (T.d.fact 39 (f := .free "isinstance") rfl))
theorem Txt.f_list (T : Txt K mg) : mg "list" = none := T.nsn _ (He.eqO_ok (T.d.fact 40 (f := .free "list") rfl))
theorem Txt.f_tuple (T : Txt K mg) : mg "tuple" = none := T.nsn _ (He.eqO_ok (T.d.fact 41 (f := .free "tuple") rfl))
theorem Txt.f_int (T : Txt K mg) : mg "int" = none := T.nsn _ (He.eqO_ok (T.d.fact 42 (f := .free "int") rfl))
theorem Txt.f_bool (T : Txt K mg) : mg "bool" = none := T.nsn _ (He.eqO_ok (T.d.fact 43 (f := .free "bool") rfl))
theorem Txt.f_abs (T : Txt K mg) : mg "abs" = none := T.nsn _ (He.eqO_ok (T.d.fact 44 (f := .free "abs") rfl))
theorem Txt.f_len (T : Txt K mg) : mg "len" = none := T.nsn _ (He.eqO_ok (T.d.fact 45 (f := .free "len") rfl))
theorem Txt.f_zip (T : Txt K mg) : mg "zip" = none := T.nsn _ (He.eqO_ok (T.d.fact 46 (f := .free "zip") rfl))
theorem Txt.f_range (T : Txt K mg) : mg "range" = none := T.nsn _ (He.eqO_ok (T.d.fact 47 (f := .free "range") rfl))
theorem Txt.f_sorted (T : Txt K mg) : mg "sorted" = none := T.nsn _ (He.eqO_ok (T.d.fact 48 (f := .free "sorted") rfl))
theorem Txt.f_all (T : Txt K mg) : mg "all" = none := T.nsn _ (He.eqO_ok (T.d.fact 49 (f := .free "all") rfl))
theorem Txt.f_any (T : Txt K mg) : mg "any" = none := T.nsn _ (He.eqO_ok (T.d.fact 50 (f := .free "any") rfl))
theorem Txt.f_set (T : Txt K mg) : mg "set" = none := T.nsn _ (He.eqO_ok (T.d.fact 51 (f := .free "set") rfl))
theorem Txt.f_dict (T : Txt K mg) : mg "dict" = none := T.nsn _ (He.eqO_ok (T.d.fact 52 (f := .free "dict") rfl))
theorem Txt.f_enumerate (T : Txt K mg) : mg "enumerate" = none := T.nsn _ (He.eqO_ok (T.d.fact 53 (f := .free "enumerate") rfl))
theorem Txt.f_repr (T : Txt K mg) : mg "repr" = none := T.nsn _ (He.eqO_ok (T.d.fact 54 (f := .free "repr") rfl))
theorem Txt.f_sum (T : Txt K mg) : mg "sum" = none := T.nsn _ (He.eqO_ok (T.d.fact 55 (f := .free "sum") rfl))
theorem Txt.f_min (T : Txt K mg) : mg "min" = none := T.nsn _ (He.eqO_ok (T.d.fact 56 (f := .free "min") rfl))
theorem Txt.f_super (T : Txt K mg) : mg "super" = none := T.nsn _ (He.eqO_ok (T.d.fact 57 (f := .free "super") rfl))
theorem Txt.i_MOST_LOTS (T : Txt K mg) : ∃ t, mg "MOST_LOTS" = some (.int 60 t) := T.int (T.d.fact 58 (f := .int "MOST_LOTS" 60) rfl)
theorem Txt.i_MOST_ROWS (T : Txt K mg) : ∃ t, mg "MOST_ROWS" = some (.int 60 t) := T.int (T.d.fact 59 (f := .int "MOST_ROWS" 60) rfl)
theorem Txt.i_MOST_WIDTH (T : Txt K mg) : ∃ t, mg "MOST_WIDTH" = some (.int 12 t) := T.int (T.d.fact 60 (f := .int "MOST_WIDTH" 12) rfl)
theorem Txt.c_Places (T : Txt K mg) : Cls K (He.ga K "Places") := He.cls_ok (T.d.fact 61 (f := .cls "Places") rfl)
theorem Txt.mk_Places (T : Txt K mg) : Mk K (He.ga K "Places") (He.ma K (He.ga K "Places") "__init__") := He.mkr_ok (T.d.fact 62 (f := .mkr "Places") rfl)
theorem Txt.n_Places_tables (T : Txt K mg) : NoAttr K (He.ga K "Places") "tables" := He.noat_ok (T.d.fact 63 (f := .noat "Places" "tables") rfl)
theorem Txt.n_Places_sizes (T : Txt K mg) : NoAttr K (He.ga K "Places") "sizes" := He.noat_ok (T.d.fact 64 (f := .noat "Places" "sizes") rfl)
theorem Txt.n_Places_kept (T : Txt K mg) : NoAttr K (He.ga K "Places") "kept" := He.noat_ok (T.d.fact 65 (f := .noat "Places" "kept") rfl)
theorem Txt.m_Places_steps_to (T : Txt K mg) : Meth K (He.ga K "Places") "steps_to" (He.ma K (He.ga K "Places") "steps_to") := He.meth_ok (T.d.fact 66 (f := .meth "Places" "steps_to") rfl)
theorem Txt.m_Places_reached_from (T : Txt K mg) : Meth K (He.ga K "Places") "reached_from" (He.ma K (He.ga K "Places") "reached_from") := He.meth_ok (T.d.fact 67 (f := .meth "Places" "reached_from") rfl)
theorem Txt.m_Places_put (T : Txt K mg) : Meth K (He.ga K "Places") "put" (He.ma K (He.ga K "Places") "put") := He.meth_ok (T.d.fact 68 (f := .meth "Places" "put") rfl)
theorem Txt.m_Places_told (T : Txt K mg) : Meth K (He.ga K "Places") "told" (He.ma K (He.ga K "Places") "told") := He.meth_ok (T.d.fact 69 (f := .meth "Places" "told") rfl)
theorem Txt.c_Base (T : Txt K mg) : Cls K (He.ga K "Base") := He.cls_ok (T.d.fact 70 (f := .cls "Base") rfl)
theorem Txt.mk_Base (T : Txt K mg) : Mk K (He.ga K "Base") (He.ma K (He.ga K "Base") "__init__") := He.mkr_ok (T.d.fact 71 (f := .mkr "Base") rfl)
theorem Txt.n_Base_own_table (T : Txt K mg) : NoAttr K (He.ga K "Base") "own_table" := He.noat_ok (T.d.fact 72 (f := .noat "Base" "own_table") rfl)
theorem Txt.n_Base_steps (T : Txt K mg) : NoAttr K (He.ga K "Base") "steps" := He.noat_ok (T.d.fact 73 (f := .noat "Base" "steps") rfl)
theorem Txt.m_Base_left_of (T : Txt K mg) : Meth K (He.ga K "Base") "left_of" (He.ma K (He.ga K "Base") "left_of") := He.meth_ok (T.d.fact 74 (f := .meth "Base" "left_of") rfl)
theorem Txt.m_Base_relation (T : Txt K mg) : Meth K (He.ga K "Base") "relation" (He.ma K (He.ga K "Base") "relation") := He.meth_ok (T.d.fact 75 (f := .meth "Base" "relation") rfl)
theorem Txt.m_Base_add (T : Txt K mg) : Meth K (He.ga K "Base") "add" (He.ma K (He.ga K "Base") "add") := He.meth_ok (T.d.fact 76 (f := .meth "Base" "add") rfl)
theorem Txt.c_Rows (T : Txt K mg) : Cls K (He.ga K "Rows") := He.cls_ok (T.d.fact 77 (f := .cls "Rows") rfl)
theorem Txt.mk_Rows (T : Txt K mg) : Mk K (He.ga K "Rows") (He.ma K (He.ga K "Rows") "__init__") := He.mkr_ok (T.d.fact 78 (f := .mkr "Rows") rfl)
theorem Txt.n_Rows_own_field (T : Txt K mg) : NoAttr K (He.ga K "Rows") "own_field" := He.noat_ok (T.d.fact 79 (f := .noat "Rows" "own_field") rfl)
theorem Txt.n_Rows_own_width (T : Txt K mg) : NoAttr K (He.ga K "Rows") "own_width" := He.noat_ok (T.d.fact 80 (f := .noat "Rows" "own_width") rfl)
theorem Txt.n_Rows_own_rows (T : Txt K mg) : NoAttr K (He.ga K "Rows") "own_rows" := He.noat_ok (T.d.fact 81 (f := .noat "Rows" "own_rows") rfl)
theorem Txt.m_Rows_row_at (T : Txt K mg) : Meth K (He.ga K "Rows") "row_at" (He.ma K (He.ga K "Rows") "row_at") := He.meth_ok (T.d.fact 82 (f := .meth "Rows" "row_at") rfl)
theorem Txt.m_Rows_base_of (T : Txt K mg) : Meth K (He.ga K "Rows") "base_of" (He.ma K (He.ga K "Rows") "base_of") := He.meth_ok (T.d.fact 83 (f := .meth "Rows" "base_of") rfl)
theorem Txt.c_Keeper (T : Txt K mg) : Cls K (He.ga K "Keeper") := He.cls_ok (T.d.fact 84 (f := .cls "Keeper") rfl)
theorem Txt.mk_Keeper (T : Txt K mg) : Mk K (He.ga K "Keeper") (He.ma K (He.ga K "Keeper") "__init__") := He.mkr_ok (T.d.fact 85 (f := .mkr "Keeper") rfl)
theorem Txt.n_Keeper_own_table (T : Txt K mg) : NoAttr K (He.ga K "Keeper") "own_table" := He.noat_ok (T.d.fact 86 (f := .noat "Keeper" "own_table") rfl)
theorem Txt.n_Keeper_moments (T : Txt K mg) : NoAttr K (He.ga K "Keeper") "moments" := He.noat_ok (T.d.fact 87 (f := .noat "Keeper" "moments") rfl)
theorem Txt.n_Keeper_at (T : Txt K mg) : NoAttr K (He.ga K "Keeper") "at" := He.noat_ok (T.d.fact 88 (f := .noat "Keeper" "at") rfl)
theorem Txt.m_Keeper_lots (T : Txt K mg) : Meth K (He.ga K "Keeper") "lots" (He.ma K (He.ga K "Keeper") "lots") := He.meth_ok (T.d.fact 89 (f := .meth "Keeper" "lots") rfl)
theorem Txt.m_Keeper_note (T : Txt K mg) : Meth K (He.ga K "Keeper") "note" (He.ma K (He.ga K "Keeper") "note") := He.meth_ok (T.d.fact 90 (f := .meth "Keeper" "note") rfl)
theorem Txt.m_Keeper_places (T : Txt K mg) : Meth K (He.ga K "Keeper") "places" (He.ma K (He.ga K "Keeper") "places") := He.meth_ok (T.d.fact 91 (f := .meth "Keeper" "places") rfl)
theorem Txt.m_Keeper_come (T : Txt K mg) : Meth K (He.ga K "Keeper") "come" (He.ma K (He.ga K "Keeper") "come") := He.meth_ok (T.d.fact 92 (f := .meth "Keeper" "come") rfl)
theorem Txt.m_Keeper_go (T : Txt K mg) : Meth K (He.ga K "Keeper") "go" (He.ma K (He.ga K "Keeper") "go") := He.meth_ok (T.d.fact 93 (f := .meth "Keeper" "go") rfl)
theorem Txt.m_Keeper_more (T : Txt K mg) : Meth K (He.ga K "Keeper") "more" (He.ma K (He.ga K "Keeper") "more") := He.meth_ok (T.d.fact 94 (f := .meth "Keeper" "more") rfl)
theorem Txt.m_Keeper_less (T : Txt K mg) : Meth K (He.ga K "Keeper") "less" (He.ma K (He.ga K "Keeper") "less") := He.meth_ok (T.d.fact 95 (f := .meth "Keeper" "less") rfl)
theorem Txt.m_Keeper_undo (T : Txt K mg) : Meth K (He.ga K "Keeper") "undo" (He.ma K (He.ga K "Keeper") "undo") := He.meth_ok (T.d.fact 96 (f := .meth "Keeper" "undo") rfl)
theorem Txt.m_Keeper_again (T : Txt K mg) : Meth K (He.ga K "Keeper") "again" (He.ma K (He.ga K "Keeper") "again") := He.meth_ok (T.d.fact 97 (f := .meth "Keeper" "again") rfl)
theorem Txt.x_BadCount_NoRow (T : Txt K mg) : PySem.W.exmOne K (.ref (He.ga K "BadCount")) (.ref (He.ga K "NoRow")) = some false := He.exm_ok (T.d.fact 98 (f := .exm "BadCount" "NoRow" false) rfl)
theorem Txt.x_BadCount_BadCount (T : Txt K mg) : PySem.W.exmOne K (.ref (He.ga K "BadCount")) (.ref (He.ga K "BadCount")) = some true := He.exm_ok (T.d.fact 99 (f := .exm "BadCount" "BadCount" true) rfl)
theorem Txt.x_BadCount_TooMany (T : Txt K mg) : PySem.W.exmOne K (.ref (He.ga K "BadCount")) (.ref (He.ga K "TooMany")) = some false := He.exm_ok (T.d.fact 100 (f := .exm "BadCount" "TooMany" false) rfl)
theorem Txt.x_BadCount_NoDeed (T : Txt K mg) : PySem.W.exmOne K (.ref (He.ga K "BadCount")) (.ref (He.ga K "NoDeed")) = some false := He.exm_ok (T.d.fact 101 (f := .exm "BadCount" "NoDeed" false) rfl)
theorem Txt.k_BadCount (T : Txt K mg) : PySem.W.keepIn K (.ref (He.ga K "BadCount")) = true := He.keep_ok (T.d.fact 102 (f := .keep "BadCount") rfl)
theorem Txt.x_TooMany_NoRow (T : Txt K mg) : PySem.W.exmOne K (.ref (He.ga K "TooMany")) (.ref (He.ga K "NoRow")) = some false := He.exm_ok (T.d.fact 103 (f := .exm "TooMany" "NoRow" false) rfl)
theorem Txt.x_TooMany_BadCount (T : Txt K mg) : PySem.W.exmOne K (.ref (He.ga K "TooMany")) (.ref (He.ga K "BadCount")) = some false := He.exm_ok (T.d.fact 104 (f := .exm "TooMany" "BadCount" false) rfl)
theorem Txt.x_TooMany_TooMany (T : Txt K mg) : PySem.W.exmOne K (.ref (He.ga K "TooMany")) (.ref (He.ga K "TooMany")) = some true := He.exm_ok (T.d.fact 105 (f := .exm "TooMany" "TooMany" true) rfl)
theorem Txt.x_TooMany_NoDeed (T : Txt K mg) : PySem.W.exmOne K (.ref (He.ga K "TooMany")) (.ref (He.ga K "NoDeed")) = some false := He.exm_ok (T.d.fact 106 (f := .exm "TooMany" "NoDeed" false) rfl)
theorem Txt.k_TooMany (T : Txt K mg) : PySem.W.keepIn K (.ref (He.ga K "TooMany")) = true := He.keep_ok (T.d.fact 107 (f := .keep "TooMany") rfl)
theorem Txt.x_NoRow_NoRow (T : Txt K mg) : PySem.W.exmOne K (.ref (He.ga K "NoRow")) (.ref (He.ga K "NoRow")) = some true := He.exm_ok (T.d.fact 108 (f := .exm "NoRow" "NoRow" true) rfl)
theorem Txt.x_NoRow_BadCount (T : Txt K mg) : PySem.W.exmOne K (.ref (He.ga K "NoRow")) (.ref (He.ga K "BadCount")) = some false := He.exm_ok (T.d.fact 109 (f := .exm "NoRow" "BadCount" false) rfl)
theorem Txt.x_NoRow_TooMany (T : Txt K mg) : PySem.W.exmOne K (.ref (He.ga K "NoRow")) (.ref (He.ga K "TooMany")) = some false := He.exm_ok (T.d.fact 110 (f := .exm "NoRow" "TooMany" false) rfl)
theorem Txt.x_NoRow_NoDeed (T : Txt K mg) : PySem.W.exmOne K (.ref (He.ga K "NoRow")) (.ref (He.ga K "NoDeed")) = some false := He.exm_ok (T.d.fact 111 (f := .exm "NoRow" "NoDeed" false) rfl)
theorem Txt.k_NoRow (T : Txt K mg) : PySem.W.keepIn K (.ref (He.ga K "NoRow")) = true := He.keep_ok (T.d.fact 112 (f := .keep "NoRow") rfl)
theorem Txt.x_NoDeed_NoRow (T : Txt K mg) : PySem.W.exmOne K (.ref (He.ga K "NoDeed")) (.ref (He.ga K "NoRow")) = some false := He.exm_ok (T.d.fact 113 (f := .exm "NoDeed" "NoRow" false) rfl)
theorem Txt.x_NoDeed_BadCount (T : Txt K mg) : PySem.W.exmOne K (.ref (He.ga K "NoDeed")) (.ref (He.ga K "BadCount")) = some false := He.exm_ok (T.d.fact 114 (f := .exm "NoDeed" "BadCount" false) rfl)
theorem Txt.x_NoDeed_TooMany (T : Txt K mg) : PySem.W.exmOne K (.ref (He.ga K "NoDeed")) (.ref (He.ga K "TooMany")) = some false := He.exm_ok (T.d.fact 115 (f := .exm "NoDeed" "TooMany" false) rfl)
theorem Txt.x_NoDeed_NoDeed (T : Txt K mg) : PySem.W.exmOne K (.ref (He.ga K "NoDeed")) (.ref (He.ga K "NoDeed")) = some true := He.exm_ok (T.d.fact 116 (f := .exm "NoDeed" "NoDeed" true) rfl)
theorem Txt.k_NoDeed (T : Txt K mg) : PySem.W.keepIn K (.ref (He.ga K "NoDeed")) = true := He.keep_ok (T.d.fact 117 (f := .keep "NoDeed") rfl)
theorem Txt.fn_is_list (T : Txt K mg) : ∃ fd, FunD K "is_list" "is_list" (defArgs s_is_list) (defBody s_is_list) (defScope s_is_list) [] [] (He.fAd K ("is_list", none)) fd := T.d.def_ 0 (d := d_is_list) rfl
theorem Txt.fn_is_integer (T : Txt K mg) : ∃ fd, FunD K "is_integer" "is_integer" (defArgs s_is_integer) (defBody s_is_integer) (defScope s_is_integer) [] [] (He.fAd K ("is_integer", none)) fd := T.d.def_ 1 (d := d_is_integer) rfl
theorem Txt.fn_is_below (T : Txt K mg) : ∃ fd, FunD K "is_below" "is_below" (defArgs s_is_below) (defBody s_is_below) (defScope s_is_below) [] [] (He.fAd K ("is_below", none)) fd := T.d.def_ 2 (d := d_is_below) rfl
theorem Txt.fn_is_count (T : Txt K mg) : ∃ fd, FunD K "is_count" "is_count" (defArgs s_is_count) (defBody s_is_count) (defScope s_is_count) [] [] (He.fAd K ("is_count", none)) fd := T.d.def_ 3 (d := d_is_count) rfl
theorem Txt.fn_greatest_divisor (T : Txt K mg) : ∃ fd, FunD K "greatest_divisor" "greatest_divisor" (defArgs s_greatest_divisor) (defBody s_greatest_divisor) (defScope s_greatest_divisor) [] [] (He.fAd K ("greatest_divisor", none)) fd := T.d.def_ 4 (d := d_greatest_divisor) rfl
theorem Txt.fn_leaned (T : Txt K mg) : ∃ fd, FunD K "leaned" "leaned" (defArgs s_leaned) (defBody s_leaned) (defScope s_leaned) [] [] (He.fAd K ("leaned", none)) fd := T.d.def_ 5 (d := d_leaned) rfl
theorem Txt.fn_is_row (T : Txt K mg) : ∃ fd, FunD K "is_row" "is_row" (defArgs s_is_row) (defBody s_is_row) (defScope s_is_row) [] [] (He.fAd K ("is_row", none)) fd := T.d.def_ 6 (d := d_is_row) rfl
theorem Txt.fn_width_of (T : Txt K mg) : ∃ fd, FunD K "width_of" "width_of" (defArgs s_width_of) (defBody s_width_of) (defScope s_width_of) [] [] (He.fAd K ("width_of", none)) fd := T.d.def_ 7 (d := d_width_of) rfl
theorem Txt.fn_check_count (T : Txt K mg) : ∃ fd, FunD K "check_count" "check_count" (defArgs s_check_count) (defBody s_check_count) (defScope s_check_count) [] [] (He.fAd K ("check_count", none)) fd := T.d.def_ 8 (d := d_check_count) rfl
theorem Txt.fn_l_source (T : Txt K mg) : ∃ fd, FunD K "_law_source" "_law_source" (defArgs s_l_source) (defBody s_l_source) (defScope s_l_source) [] [] (He.fAd K ("_law_source", none)) fd := T.d.def_ 9 (d := d_l_source) rfl
theorem Txt.fn_l_draw (T : Txt K mg) : ∃ fd, FunD K "_law_draw" "_law_draw" (defArgs s_l_draw) (defBody s_l_draw) (defScope s_l_draw) [] [] (He.fAd K ("_law_draw", none)) fd := T.d.def_ 10 (d := d_l_draw) rfl
theorem Txt.fn_l_pick (T : Txt K mg) : ∃ fd, FunD K "_law_pick" "_law_pick" (defArgs s_l_pick) (defBody s_l_pick) (defScope s_l_pick) [] [] (He.fAd K ("_law_pick", none)) fd := T.d.def_ 11 (d := d_l_pick) rfl
theorem Txt.fn_l_field (T : Txt K mg) : ∃ fd, FunD K "_law_field" "_law_field" (defArgs s_l_field) (defBody s_l_field) (defScope s_l_field) [] [] (He.fAd K ("_law_field", none)) fd := T.d.def_ 12 (d := d_l_field) rfl
theorem Txt.fn_l_rows (T : Txt K mg) : ∃ fd, FunD K "_law_rows" "_law_rows" (defArgs s_l_rows) (defBody s_l_rows) (defScope s_l_rows) [] [] (He.fAd K ("_law_rows", none)) fd := T.d.def_ 13 (d := d_l_rows) rfl
theorem Txt.fn_l_made (T : Txt K mg) : ∃ fd, FunD K "_law_made" "_law_made" (defArgs s_l_made) (defBody s_l_made) (defScope s_l_made) [] [] (He.fAd K ("_law_made", none)) fd := T.d.def_ 14 (d := d_l_made) rfl
theorem Txt.fn_l_rank (T : Txt K mg) : ∃ fd, FunD K "_law_rank" "_law_rank" (defArgs s_l_rank) (defBody s_l_rank) (defScope s_l_rank) [] [] (He.fAd K ("_law_rank", none)) fd := T.d.def_ 15 (d := d_l_rank) rfl
theorem Txt.fn_l_rank_of (T : Txt K mg) : ∃ fd, FunD K "_law_rank_of" "_law_rank_of" (defArgs s_l_rank_of) (defBody s_l_rank_of) (defScope s_l_rank_of) [] [] (He.fAd K ("_law_rank_of", none)) fd := T.d.def_ 16 (d := d_l_rank_of) rfl
theorem Txt.fn_l_is_lot (T : Txt K mg) : ∃ fd, FunD K "_law_is_lot" "_law_is_lot" (defArgs s_l_is_lot) (defBody s_l_is_lot) (defScope s_l_is_lot) [] [] (He.fAd K ("_law_is_lot", none)) fd := T.d.def_ 17 (d := d_l_is_lot) rfl
theorem Txt.fn_l_is_many (T : Txt K mg) : ∃ fd, FunD K "_law_is_many" "_law_is_many" (defArgs s_l_is_many) (defBody s_l_is_many) (defScope s_l_is_many) [] [] (He.fAd K ("_law_is_many", none)) fd := T.d.def_ 18 (d := d_l_is_many) rfl
theorem Txt.fn_l_tried (T : Txt K mg) : ∃ fd, FunD K "_law_tried" "_law_tried" (defArgs s_l_tried) (defBody s_l_tried) (defScope s_l_tried) [] [] (He.fAd K ("_law_tried", none)) fd := T.d.def_ 19 (d := d_l_tried) rfl
theorem Txt.fn_l_all_lots (T : Txt K mg) : ∃ fd, FunD K "_law_all_lots" "_law_all_lots" (defArgs s_l_all_lots) (defBody s_l_all_lots) (defScope s_l_all_lots) [] [] (He.fAd K ("_law_all_lots", none)) fd := T.d.def_ 20 (d := d_l_all_lots) rfl
theorem Txt.fn_l_seats (T : Txt K mg) : ∃ fd, FunD K "_law_seats" "_law_seats" (defArgs s_l_seats) (defBody s_l_seats) (defScope s_l_seats) [] [] (He.fAd K ("_law_seats", none)) fd := T.d.def_ 21 (d := d_l_seats) rfl
theorem Txt.fn_l_changed (T : Txt K mg) : ∃ fd, FunD K "_law_changed" "_law_changed" (defArgs s_l_changed) (defBody s_l_changed) (defScope s_l_changed) [] [] (He.fAd K ("_law_changed", none)) fd := T.d.def_ 22 (d := d_l_changed) rfl
theorem Txt.fn_l_are_right (T : Txt K mg) : ∃ fd, FunD K "_law_are_right" "_law_are_right" (defArgs s_l_are_right) (defBody s_l_are_right) (defScope s_l_are_right) [] [] (He.fAd K ("_law_are_right", none)) fd := T.d.def_ 23 (d := d_l_are_right) rfl
theorem Txt.fn_l_is_shown (T : Txt K mg) : ∃ fd, FunD K "_law_is_shown" "_law_is_shown" (defArgs s_l_is_shown) (defBody s_l_is_shown) (defScope s_l_is_shown) [] [] (He.fAd K ("_law_is_shown", none)) fd := T.d.def_ 24 (d := d_l_is_shown) rfl
theorem Txt.fn_l_come_right (T : Txt K mg) : ∃ fd, FunD K "_law_come_right" "_law_come_right" (defArgs s_l_come_right) (defBody s_l_come_right) (defScope s_l_come_right) [] [] (He.fAd K ("_law_come_right", none)) fd := T.d.def_ 25 (d := d_l_come_right) rfl
theorem Txt.fn_l_next_lots (T : Txt K mg) : ∃ fd, FunD K "_law_next_lots" "_law_next_lots" (defArgs s_l_next_lots) (defBody s_l_next_lots) (defScope s_l_next_lots) [] [] (He.fAd K ("_law_next_lots", none)) fd := T.d.def_ 26 (d := d_l_next_lots) rfl
theorem Txt.fn_l_less_right (T : Txt K mg) : ∃ fd, FunD K "_law_less_right" "_law_less_right" (defArgs s_l_less_right) (defBody s_l_less_right) (defScope s_l_less_right) [] [] (He.fAd K ("_law_less_right", none)) fd := T.d.def_ 27 (d := d_l_less_right) rfl
theorem Txt.fn_l_deed (T : Txt K mg) : ∃ fd, FunD K "_law_deed" "_law_deed" (defArgs s_l_deed) (defBody s_l_deed) (defScope s_l_deed) [] [] (He.fAd K ("_law_deed", none)) fd := T.d.def_ 28 (d := d_l_deed) rfl
theorem Txt.fn_law (T : Txt K mg) : ∃ fd, FunD K "law" "law" (defArgs s_law) (defBody s_law) (defScope s_law) [] [] (He.fAd K ("law", none)) fd := T.d.def_ 29 (d := d_law) rfl
theorem Txt.fn_Places_DinitD (T : Txt K mg) : ∃ fd, FunD K "__init__" "Places.__init__" (defArgs s_Places_DinitD) (defBody s_Places_DinitD) (defScope s_Places_DinitD) [] [] (He.fAd K ("Places", some "__init__")) fd := T.d.def_ 30 (d := d_Places_DinitD) rfl
theorem Txt.fn_Places_steps_to (T : Txt K mg) : ∃ fd, FunD K "steps_to" "Places.steps_to" (defArgs s_Places_steps_to) (defBody s_Places_steps_to) (defScope s_Places_steps_to) [] [] (He.fAd K ("Places", some "steps_to")) fd := T.d.def_ 31 (d := d_Places_steps_to) rfl
theorem Txt.fn_Places_reached_from (T : Txt K mg) : ∃ fd, FunD K "reached_from" "Places.reached_from" (defArgs s_Places_reached_from) (defBody s_Places_reached_from) (defScope s_Places_reached_from) [] [] (He.fAd K ("Places", some "reached_from")) fd := T.d.def_ 32 (d := d_Places_reached_from) rfl
theorem Txt.fn_Places_put (T : Txt K mg) : ∃ fd, FunD K "put" "Places.put" (defArgs s_Places_put) (defBody s_Places_put) (defScope s_Places_put) [] [] (He.fAd K ("Places", some "put")) fd := T.d.def_ 33 (d := d_Places_put) rfl
theorem Txt.fn_Places_told (T : Txt K mg) : ∃ fd, FunD K "told" "Places.told" (defArgs s_Places_told) (defBody s_Places_told) (defScope s_Places_told) [] [] (He.fAd K ("Places", some "told")) fd := T.d.def_ 34 (d := d_Places_told) rfl
theorem Txt.fn_Base_DinitD (T : Txt K mg) : ∃ fd, FunD K "__init__" "Base.__init__" (defArgs s_Base_DinitD) (defBody s_Base_DinitD) (defScope s_Base_DinitD) [] [] (He.fAd K ("Base", some "__init__")) fd := T.d.def_ 35 (d := d_Base_DinitD) rfl
theorem Txt.fn_Base_left_of (T : Txt K mg) : ∃ fd, FunD K "left_of" "Base.left_of" (defArgs s_Base_left_of) (defBody s_Base_left_of) (defScope s_Base_left_of) [] [] (He.fAd K ("Base", some "left_of")) fd := T.d.def_ 36 (d := d_Base_left_of) rfl
theorem Txt.fn_Base_relation (T : Txt K mg) : ∃ fd, FunD K "relation" "Base.relation" (defArgs s_Base_relation) (defBody s_Base_relation) (defScope s_Base_relation) [] [] (He.fAd K ("Base", some "relation")) fd := T.d.def_ 37 (d := d_Base_relation) rfl
theorem Txt.fn_Base_add (T : Txt K mg) : ∃ fd, FunD K "add" "Base.add" (defArgs s_Base_add) (defBody s_Base_add) (defScope s_Base_add) [] [] (He.fAd K ("Base", some "add")) fd := T.d.def_ 38 (d := d_Base_add) rfl
theorem Txt.fn_Rows_DinitD (T : Txt K mg) : ∃ fd, FunD K "__init__" "Rows.__init__" (defArgs s_Rows_DinitD) (defBody s_Rows_DinitD) (defScope s_Rows_DinitD) [.int 0] [] (He.fAd K ("Rows", some "__init__")) fd := T.d.def_ 39 (d := d_Rows_DinitD) rfl
theorem Txt.fn_Rows_DlenD (T : Txt K mg) : ∃ fd, FunD K "__len__" "Rows.__len__" (defArgs s_Rows_DlenD) (defBody s_Rows_DlenD) (defScope s_Rows_DlenD) [] [] (He.fAd K ("Rows", some "__len__")) fd := T.d.def_ 40 (d := d_Rows_DlenD) rfl
theorem Txt.fn_Rows_DeqD (T : Txt K mg) : ∃ fd, FunD K "__eq__" "Rows.__eq__" (defArgs s_Rows_DeqD) (defBody s_Rows_DeqD) (defScope s_Rows_DeqD) [] [] (He.fAd K ("Rows", some "__eq__")) fd := T.d.def_ 41 (d := d_Rows_DeqD) rfl
theorem Txt.fn_Rows_row_at (T : Txt K mg) : ∃ fd, FunD K "row_at" "Rows.row_at" (defArgs s_Rows_row_at) (defBody s_Rows_row_at) (defScope s_Rows_row_at) [] [] (He.fAd K ("Rows", some "row_at")) fd := T.d.def_ 42 (d := d_Rows_row_at) rfl
theorem Txt.fn_Rows_base_of (T : Txt K mg) : ∃ fd, FunD K "base_of" "Rows.base_of" (defArgs s_Rows_base_of) (defBody s_Rows_base_of) (defScope s_Rows_base_of) [] [] (He.fAd K ("Rows", some "base_of")) fd := T.d.def_ 43 (d := d_Rows_base_of) rfl
theorem Txt.fn_Keeper_DinitD (T : Txt K mg) : ∃ fd, FunD K "__init__" "Keeper.__init__" (defArgs s_Keeper_DinitD) (defBody s_Keeper_DinitD) (defScope s_Keeper_DinitD) [] [] (He.fAd K ("Keeper", some "__init__")) fd := T.d.def_ 44 (d := d_Keeper_DinitD) rfl
theorem Txt.fn_Keeper_lots (T : Txt K mg) : ∃ fd, FunD K "lots" "Keeper.lots" (defArgs s_Keeper_lots) (defBody s_Keeper_lots) (defScope s_Keeper_lots) [] [] (He.fAd K ("Keeper", some "lots")) fd := T.d.def_ 45 (d := d_Keeper_lots) rfl
theorem Txt.fn_Keeper_note (T : Txt K mg) : ∃ fd, FunD K "note" "Keeper.note" (defArgs s_Keeper_note) (defBody s_Keeper_note) (defScope s_Keeper_note) [] [] (He.fAd K ("Keeper", some "note")) fd := T.d.def_ 46 (d := d_Keeper_note) rfl
theorem Txt.fn_Keeper_places (T : Txt K mg) : ∃ fd, FunD K "places" "Keeper.places" (defArgs s_Keeper_places) (defBody s_Keeper_places) (defScope s_Keeper_places) [] [] (He.fAd K ("Keeper", some "places")) fd := T.d.def_ 47 (d := d_Keeper_places) rfl
theorem Txt.fn_Keeper_come (T : Txt K mg) : ∃ fd, FunD K "come" "Keeper.come" (defArgs s_Keeper_come) (defBody s_Keeper_come) (defScope s_Keeper_come) [] [] (He.fAd K ("Keeper", some "come")) fd := T.d.def_ 48 (d := d_Keeper_come) rfl
theorem Txt.fn_Keeper_go (T : Txt K mg) : ∃ fd, FunD K "go" "Keeper.go" (defArgs s_Keeper_go) (defBody s_Keeper_go) (defScope s_Keeper_go) [] [] (He.fAd K ("Keeper", some "go")) fd := T.d.def_ 49 (d := d_Keeper_go) rfl
theorem Txt.fn_Keeper_more (T : Txt K mg) : ∃ fd, FunD K "more" "Keeper.more" (defArgs s_Keeper_more) (defBody s_Keeper_more) (defScope s_Keeper_more) [] [] (He.fAd K ("Keeper", some "more")) fd := T.d.def_ 50 (d := d_Keeper_more) rfl
theorem Txt.fn_Keeper_less (T : Txt K mg) : ∃ fd, FunD K "less" "Keeper.less" (defArgs s_Keeper_less) (defBody s_Keeper_less) (defScope s_Keeper_less) [] [] (He.fAd K ("Keeper", some "less")) fd := T.d.def_ 51 (d := d_Keeper_less) rfl
theorem Txt.fn_Keeper_undo (T : Txt K mg) : ∃ fd, FunD K "undo" "Keeper.undo" (defArgs s_Keeper_undo) (defBody s_Keeper_undo) (defScope s_Keeper_undo) [] [] (He.fAd K ("Keeper", some "undo")) fd := T.d.def_ 52 (d := d_Keeper_undo) rfl
theorem Txt.fn_Keeper_again (T : Txt K mg) : ∃ fd, FunD K "again" "Keeper.again" (defArgs s_Keeper_again) (defBody s_Keeper_again) (defScope s_Keeper_again) [] [] (He.fAd K ("Keeper", some "again")) fd := T.d.def_ 53 (d := d_Keeper_again) rfl
end
end KW
end
section
set_option Elab.async false
set_option linter.all false
set_option maxRecDepth 100000
set_option maxHeartbeats 4000000
/-! Short words for the walks: promises by names, data on the heap. -/
namespace KW
open PySem PySem.Spec PyProof.Rows L2
section
variable {P : Program} {w : World} {K : PySem.W.Frag} {mg : Str → Option Value} {base : Heap}
/-- a def of the module, by its body -/
theorem mkCal {x : Str} {st : Stmt} {fd : FuncData} {N ps : List Str} {k : Nat} {sp : Sp} (F : FunD K x x (defArgs st) (defBody st) (defScope st) [] [] (He.fAd K (x, none)) fd) (g : mg x = some (.ref (He.ga K x)))
    (hb : ∀ (kV doc pm : Value) (an : Option Addr) (cdv ct : Value) (us : List Value), us.length = ps.length → bindArgs (PySem.W.fnOf x x (defArgs st) (defBody st) (defScope st) .none kV doc pm an cdv ct) ⟨us, []⟩ = pure (ps.zip us))
    (S : FnScope N ps (defScope st)) (len : ∀ vs H Q E, sp vs H Q E → vs.length = ps.length)
    (hbody : ∀ (cdv : Value) (A : Around) (outer : List Env) (s : Shared) (H : Hp) (vs : List V) (Q : VK) (E : XK), Room k (A.deeper (envOfC x (defScope st) s.heap.objs.size (He.fAd K (x, none)) cdv)) → sp vs H Q E →
      ∃ t, PSs (cxOf C8.CX0 P w K mg base N x (defScope st) (He.fAd K (x, none)) cdv A outer s H E).nox (defBody st) t ∧ t { nx := fun _ H' => Q .non H', rt := Q } (start N vs) H) : C8.Cal P w K mg base (k + 1) x sp [] :=
  ⟨He.fAd K (x, none), fd, ps, [], F.ok (CX := C8.CX0) S len (fun cdv A outer s H vs Q E hr h => let ⟨t, a, b⟩ := hbody cdv A outer s H vs Q E hr h; ⟨t, a.nox, b⟩), g, F.kp, F.bindsN hb, .nil⟩
/-- a method -/
theorem mkMet {C m qual : Str} {st : Stmt} {fd : FuncData} {N ps : List Str} {k : Nat} {sp : Sp} (F : FunD K m qual (defArgs st) (defBody st) (defScope st) [] [] (He.fAd K (C, some m)) fd) (c : Cls K (He.ga K C)) (me : Meth K (He.ga K C) m (He.ma K (He.ga K C) m))
    (hb : ∀ (kV doc pm : Value) (an : Option Addr) (cdv ct : Value) (us : List Value), us.length = ps.length → bindArgs (PySem.W.fnOf m qual (defArgs st) (defBody st) (defScope st) .none kV doc pm an cdv ct) ⟨us, []⟩ = pure (ps.zip us))
    (S : FnScope N ps (defScope st)) (len : ∀ vs H Q E, sp vs H Q E → vs.length = ps.length)
    (hbody : ∀ (cdv : Value) (A : Around) (outer : List Env) (s : Shared) (H : Hp) (vs : List V) (Q : VK) (E : XK), Room k (A.deeper (envOfC qual (defScope st) s.heap.objs.size (He.fAd K (C, some m)) cdv)) → sp vs H Q E →
      ∃ t, PSs (cxOf C8.CX0 P w K mg base N qual (defScope st) (He.fAd K (C, some m)) cdv A outer s H E).nox (defBody st) t ∧ t { nx := fun _ H' => Q .non H', rt := Q } (start N vs) H) : C8.Met P w K mg base (k + 1) (He.ga K C) m sp [] :=
  ⟨He.fAd K (C, some m), fd, ps, [], c, me, F.ok (CX := C8.CX0) S len (fun cdv A outer s H vs Q E hr h => let ⟨t, a, b⟩ := hbody cdv A outer s H vs Q E hr h; ⟨t, a.nox, b⟩), F.bindsN hb, .nil⟩
/-- a class, by its __init__ -/
theorem mkMak {C qual : Str} {st : Stmt} {fd : FuncData} {N ps : List Str} {k : Nat} {sp : Sp} (F : FunD K "__init__" qual (defArgs st) (defBody st) (defScope st) [] [] (He.fAd K (C, some "__init__")) fd) (M : Mk K (He.ga K C) (He.ma K (He.ga K C) "__init__")) (g : mg C = some (.ref (He.ga K C)))
    (hb : ∀ (kV doc pm : Value) (an : Option Addr) (cdv ct : Value) (us : List Value), us.length = ps.length → bindArgs (PySem.W.fnOf "__init__" qual (defArgs st) (defBody st) (defScope st) .none kV doc pm an cdv ct) ⟨us, []⟩ = pure (ps.zip us))
    (S : FnScope N ps (defScope st)) (len : ∀ vs H Q E, sp vs H Q E → vs.length = ps.length)
    (hbody : ∀ (cdv : Value) (A : Around) (outer : List Env) (s : Shared) (H : Hp) (vs : List V) (Q : VK) (E : XK), Room k (A.deeper (envOfC qual (defScope st) s.heap.objs.size (He.fAd K (C, some "__init__")) cdv)) → sp vs H Q E →
      ∃ t, PSs (cxOf C8.CX0 P w K mg base N qual (defScope st) (He.fAd K (C, some "__init__")) cdv A outer s H E).nox (defBody st) t ∧ t { nx := fun _ H' => Q .non H', rt := Q } (start N vs) H) : C8.Mak P w K mg base (k + 1) C (He.ga K C) sp [] :=
  ⟨He.fAd K (C, some "__init__"), fd, ps, [], M, F.ok (CX := C8.CX0) S len (fun cdv A outer s H vs Q E hr h => let ⟨t, a, b⟩ := hbody cdv A outer s H vs Q E hr h; ⟨t, a.nox, b⟩), g, F.bindsN hb, .nil⟩
theorem Cal.mono {j k : Nat} {x : Str} {sp : Sp} {dvs : List V} (c : C8.Cal P w K mg base j x sp dvs) (h : j ≤ k) : C8.Cal P w K mg base k x sp dvs :=
  let ⟨f, fd, ps, ds, F, a, b, c', d⟩ := c.ex
  ⟨f, fd, ps, ds, F.mono h, a, b, c', d⟩
end
/-! ### data on the heap -/
/-- rows as values -/
abbrev nV (l : List Nat) : List V := l.map fun (r : Nat) => V.int (r : Int)
/-- whole numbers as values -/
abbrev iV (l : List Int) : List V := l.map V.int
abbrev rV (l : List Addr) : List V := l.map V.ref
theorem nV_len (l : List Nat) : (nV l).length = l.length := List.length_map ..
theorem iV_snoc (l : List Int) (z : Int) : iV (l ++ [z]) = iV l ++ [V.int z] := List.map_append ..
theorem nV_snoc (l : List Nat) (z : Nat) : nV (l ++ [z]) = nV l ++ [V.int (z : Int)] := List.map_append ..
theorem rV_snoc (l : List Addr) (z : Addr) : rV (l ++ [z]) = rV l ++ [V.ref z] := List.map_append ..
theorem _root_.L2.Same.upd {H : Hp} {p : Addr} {o : HO} (h : H p = none) : Same H (L2.upd H p o) := fun b u e => by rw [upd_ne (ne_of_none e h)]; exact e
theorem _root_.L2.Same.upd' {H H1 : Hp} {p : Addr} {o : HO} (s : Same H H1) (h : H1 p = none) : Same H (L2.upd H1 p o) := s.trans (Same.upd h)
theorem _root_.L2.Same.tup {K : PySem.W.Frag} {H H' : Hp} {a : Addr} {xs : List V} (e : Same H H') (h : SqT K H a xs) : SqT K H' a xs := by
  rcases h with (h | ⟨o, h⟩) | h
  · exact .inl (.inl (e _ _ h))
  · exact .inl (.inr ⟨o, e _ _ h⟩)
  · exact .inr h
theorem sz {n : Nat} (h : n ≤ 1000000) : n ≤ sizeLine := by rw [sizeLine_eq]; omega
theorem szl {n : Nat} (h : n ≤ 1000000) : n < sizeLine := by rw [sizeLine_eq]; omega
theorem _root_.L2.Same.updN {H H1 : Hp} {p : Addr} {o : HO} (s : Same H H1) (h : H p = none) : Same H (L2.upd H1 p o) := fun b u e => by rw [upd_ne (ne_of_none e h)]; exact s b u e
theorem _root_.L2.Same.ne {H H' : Hp} {a b : Addr} {o : HO} (h : H a = some o) (h' : H b = none) : a ≠ b := ne_of_none h h'
/-! ### what is walked, as long as some things stay -/
structure JOk (J : It) (H0 : Hp) (n : Nat) (Y : Nat → V → Hp → Prop) : Prop where
  go : ∀ i H', i < n → Same H0 H' → J.go i H'
  stop : ∀ H', Same H0 H' → J.stop n H'
  yld : ∀ i x H' H'', i < n → Same H0 H' → J.yld i H' x H'' → Same H' H'' ∧ Y i x H''
/-- the heap at some places alone -/
def sub (as : List Addr) (H : Hp) : Hp := fun b => if b ∈ as then H b else none
theorem sub_same {as : List Addr} {H H' : Hp} (h : ∀ a, a ∈ as → H' a = H a) : Same (sub as H) H' := fun b o e => by
  unfold sub at e
  split at e
  · rename_i hb; rw [h b hb]; exact e
  · cases e
theorem sub_at {as : List Addr} {H : Hp} {a : Addr} {o : HO} (h : H a = some o) (ha : a ∈ as) : sub as H a = some o := by
  unfold sub; rw [if_pos ha]; exact h
theorem sqL_inj {K : PySem.W.Frag} {H : Hp} {a : Addr} {xs ys : List V} (h : H a = some (.lst xs)) (q : SqL K H a ys) (hk : K.lookup a = none) : xs = ys := by
  rcases q with (q | ⟨o, q⟩) | ⟨o, _, _, q, _⟩
  · rw [h] at q; cases q; rfl
  · rw [h] at q; cases q
  · rw [hk] at q; cases q
theorem jo_list {K : PySem.W.Frag} {H : Hp} {a : Addr} {xs : List V} (h : SqL K H a xs) : JOk (Itl K a) H xs.length (fun i x _ => xs[i]? = some x) where
  go := fun i H' hi s => ⟨xs, xs[i], s.seq h, List.getElem?_eq_getElem hi⟩
  stop := fun H' s => ⟨xs, s.seq h, Nat.le_refl _⟩
  yld := fun i x H' H'' hi s y => ⟨y.1 ▸ Same.refl _, y.2 xs (s.seq h)⟩
theorem jo_tup {K : PySem.W.Frag} {H : Hp} {a : Addr} {xs : List V} (h : SqT K H a xs) : JOk (Itt K a) H xs.length (fun i x _ => xs[i]? = some x) where
  go := fun i H' hi s => ⟨xs, xs[i], s.tup h, List.getElem?_eq_getElem hi⟩
  stop := fun H' s => ⟨xs, s.tup h, Nat.le_refl _⟩
  yld := fun i x H' H'' hi s y => ⟨y.1 ▸ Same.refl _, y.2 xs (s.tup h)⟩
theorem jo_range {H : Hp} (lo : Int) (n : Nat) : JOk (Itr lo n) H n (fun i x _ => x = .int (lo + i)) where
  go := fun i H' hi s => hi
  stop := fun H' s => Nat.le_refl _
  yld := fun i x H' H'' hi s y => ⟨y.1 ▸ Same.refl _, y.2⟩
theorem jo_enum {K : PySem.W.Frag} {H : Hp} {a : Addr} {xs : List V} (h : SqL K H a xs) : JOk (Ite K a) H xs.length (fun i v H'' => ∃ T x, v = .ref T ∧ H'' T = some (.tup [.int (i : Nat), x]) ∧ xs[i]? = some x) where
  go := fun i H' hi s => ⟨xs, xs[i], s.seq h, List.getElem?_eq_getElem hi⟩
  stop := fun H' s => ⟨xs, s.seq h, Nat.le_refl _⟩
  yld := fun i x H' H'' hi s y => by
    obtain ⟨T, z, rfl, hT, rfl, hz⟩ := y
    exact ⟨Same.upd hT, T, z, rfl, upd_same, hz xs (s.seq h)⟩
theorem jo_zip {K : PySem.W.Frag} {H : Hp} {a b : Addr} {xs ys : List V} (h : SqL K H a xs) (h2 : SqL K H b ys) (hl : xs.length = ys.length) :
    JOk (Itz K a b) H xs.length (fun i v H'' => ∃ T x y, v = .ref T ∧ H'' T = some (.tup [x, y]) ∧ xs[i]? = some x ∧ ys[i]? = some y) where
  go := fun i H' hi s => ⟨xs, ys, xs[i], ys[i]'(hl ▸ hi), s.seq h, s.seq h2, List.getElem?_eq_getElem hi, List.getElem?_eq_getElem (hl ▸ hi)⟩
  stop := fun H' s => ⟨xs, ys, s.seq h, s.seq h2, .inl (Nat.le_refl _)⟩
  yld := fun i x H' H'' hi s y => by
    obtain ⟨T, z, u, rfl, hT, rfl, hz, hu⟩ := y
    exact ⟨Same.upd hT, T, z, u, rfl, upd_same, hz xs (s.seq h), hu ys (s.seq h2)⟩
theorem jo_keys {H : Hp} {d : Addr} {o : Obj} {kvs : List (Key × V)} (h : H d = some (.frz o (.dK kvs))) : JOk (Itk d o kvs) H kvs.length (fun i x _ => ∃ k v, kvs[i]? = some (k, v) ∧ x = kV k) where
  go := fun i H' hi s => ⟨s _ _ h, hi⟩
  stop := fun H' s => ⟨s _ _ h, Nat.le_refl _⟩
  yld := fun i x H' H'' hi s y => ⟨y.1 ▸ Same.refl _, y.2⟩
theorem jo_items {H : Hp} {d : Addr} {o : Obj} {kvs : List (Key × V)} (h : H d = some (.frz o (.dK kvs))) : JOk (Iti d o kvs) H kvs.length (fun i v H'' => ∃ T k x, v = .ref T ∧ H'' T = some (.tup [kV k, x]) ∧ kvs[i]? = some (k, x)) where
  go := fun i H' hi s => ⟨s _ _ h, hi⟩
  stop := fun H' s => ⟨s _ _ h, Nat.le_refl _⟩
  yld := fun i x H' H'' hi s y => by
    obtain ⟨T, k, v, e, rfl, hT, rfl⟩ := y
    exact ⟨Same.upd hT, T, k, v, rfl, upd_same, e⟩
/-- a for loop -/
theorem for_it {J : It} {g : TG} {tb : TS} {D : Ends} {σ : L2.St} {H H0 : Hp} {n : Nat} {Y : Nat → V → Hp → Prop} (jo : JOk J H0 n Y) (Pv : Nat → L2.St → Hp → Prop) (h0 : Pv 0 σ H) (hk : ∀ i σ H, i ≤ n → Pv i σ H → Same H0 H)
    (hs : ∀ i x σ H H', i < n → Pv i σ H → Same H H' → Y i x H' → g x σ H' fun σ2 H2 => tb { D with nx := Pv (i + 1), ct := Pv (i + 1), bk := D.nx } σ2 H2) (hd : ∀ σ H, Pv n σ H → D.nx σ H) :
    ∃ W : Nat → Nat → L2.St → Hp → Prop, (∃ m, W 0 m σ H) ∧ ∀ i m σ H, W i m σ H →
      (J.stop i H ∧ D.nx σ H) ∨ (J.go i H ∧ ∃ N : L2.St → Hp → Prop, (∀ σ' H', N σ' H' → ∃ m', m' < m ∧ W (i + 1) m' σ' H') ∧ ∀ x H', J.yld i H x H' → g x σ H' fun σ2 H2 => tb { D with nx := N, ct := N, bk := D.nx } σ2 H2) := by
  refine ⟨fun i m σ H => m = n - i ∧ i ≤ n ∧ Pv i σ H, ⟨n, by simp, Nat.zero_le _, h0⟩, ?_⟩
  rintro i m σ H ⟨rfl, hi, p⟩
  have q := hk i σ H hi p
  by_cases hlt : i < n
  · refine .inr ⟨jo.go i H hlt q, Pv (i + 1), fun σ' H' p' => ⟨n - (i + 1), by omega, rfl, hlt, p'⟩, fun x H' y => ?_⟩
    obtain ⟨s, y⟩ := jo.yld i x H H' hlt q y
    exact hs i x σ H H' hlt p s y
  · have e : i = n := by omega
    subst e
    exact .inl ⟨jo.stop H q, hd σ H p⟩
/-- a list comprehension that changes nothing of what stands: out i, what is made behind i turns -/
theorem lc_it {J : It} {g : TG} {tt : TT} {te : TE} {vs : List Nat} {σ : L2.St} {H H0 H1 : Hp} {D : Addr} {Qd : Hp → Prop} {n : Nat} {Y : Nat → V → Hp → Prop} (jo : JOk J H0 n Y) (hS0 : Same H0 H) (hS : Same H H1) (hD : H1 D = none) (out : Nat → List V) (h0 : out 0 = [])
    (hz : ∀ i, i ≤ n → (out i).length ≤ 1000000)
    (hs : ∀ i x H' (Nx : V → Hp → Prop) (Sk : Hp → Prop), i < n → Same H H' → Y i x H' → (∀ y H4, Same H' H4 → out (i + 1) = out i ++ [y] → Nx y H4) → (∀ H3, Same H' H3 → out (i + 1) = out i → Sk H3) →
      g x (wipe σ vs) H' fun σ2 H2 => wipe σ2 vs = wipe σ vs ∧ tt σ2 H2 fun b H3 => if b = true then te σ2 H3 Nx else Sk H3)
    (hd : ∀ H', Same H H' → H' D = some (.lst (out n)) → Qd H') :
    ∃ W : Nat → Nat → Hp → Prop, (∃ m, W 0 m (upd H1 D (.lst []))) ∧ ∀ i m H, W i m H →
      (J.stop i H ∧ Qd H) ∨ (J.go i H ∧ ∃ Nx : Hp → Prop, (∀ H', Nx H' → ∃ m', m' < m ∧ W (i + 1) m' H') ∧ ∀ x H', J.yld i H x H' → g x (wipe σ vs) H' fun σ2 H2 => wipe σ2 vs = wipe σ vs ∧ tt σ2 H2 fun b H3 =>
        if b = true then te σ2 H3 fun y H4 => ∃ acc, H4 D = some (.lst acc) ∧ acc.length < sizeLine ∧ Nx (upd H4 D (.lst (acc ++ [y]))) else Nx H3) := by
  have hHD : H D = none := by
    cases e : H D with
    | none => rfl
    | some o => rw [hS _ _ e] at hD; cases hD
  refine ⟨fun i m H' => m = n - i ∧ i ≤ n ∧ Same H H' ∧ H' D = some (.lst (out i)), ⟨n, by simp, Nat.zero_le _, hS.upd' hD, by rw [upd_same, h0]⟩, ?_⟩
  rintro i m H' ⟨rfl, hi, s, d⟩
  by_cases hlt : i < n
  · refine .inr ⟨jo.go i H' hlt (hS0.trans s), fun H'' => Same H H'' ∧ H'' D = some (.lst (out (i + 1))), fun H'' p' => ⟨n - (i + 1), by omega, rfl, hlt, p'⟩, fun x H'' y => ?_⟩
    obtain ⟨s2, y⟩ := jo.yld i x H' H'' hlt (hS0.trans s) y
    refine hs i x H'' _ _ hlt (s.trans s2) y (fun y H4 s3 e => ⟨out i, s3 _ _ (s2 _ _ d), szl (hz i hi), ((s.trans s2).trans s3).updN hHD, by rw [upd_same, e]⟩) fun H3 s3 e => ⟨(s.trans s2).trans s3, by rw [e]; exact s3 _ _ (s2 _ _ d)⟩
  · have e : i = n := by omega
    subst e
    exact .inl ⟨jo.stop H' (hS0.trans s), hd H' s d⟩
/-- the heap without one place -/
def but (D : Addr) (H : Hp) : Hp := fun b => if b = D then none else H b
theorem but_same {D : Addr} {H : Hp} : Same (but D H) H := fun b o e => by
  unfold but at e
  split at e
  · cases e
  · exact e
theorem but_mono {D : Addr} {H H' : Hp} (s : Same H H') : Same (but D H) (but D H') := fun b o e => by
  unfold but at e ⊢
  split at e
  · cases e
  · rename_i h; rw [if_neg h]; exact s _ _ e
theorem but_at {D p : Addr} {H : Hp} {o : HO} (h : H p = some o) (hp : p ≠ D) : but D H p = some o := by unfold but; rw [if_neg hp]; exact h
theorem but_upd {D : Addr} {H : Hp} {o : HO} : but D (L2.upd H D o) = but D H := funext fun b => by
  unfold but
  split
  · rfl
  · rename_i h; exact upd_ne h
theorem but_none {D : Addr} {H H' : Hp} (hD : H D = none) (s : Same H H') : Same H (but D H') := fun b o e => but_at (s _ _ e) (ne_of_none e hD)
/-- a list comprehension that makes things: Pv i xs G, what is told of the first i of them -/
theorem lc_ex {J : It} {g : TG} {tt : TT} {te : TE} {vs : List Nat} {σ : L2.St} {H H0 H1 : Hp} {D : Addr} {Qd : Hp → Prop} {n : Nat} {Y : Nat → V → Hp → Prop} (jo : JOk J H0 n Y) (hS0 : Same H0 H) (hS : Same H H1) (hD : H1 D = none) (Pv : Nat → List V → Hp → Prop) (mono : ∀ i xs G G', Same G G' → Pv i xs G → Pv i xs G')
    (h0 : Pv 0 [] H) (hz : ∀ i xs G, i ≤ n → Pv i xs G → xs.length ≤ 1000000)
    (hs : ∀ i x xs H' (Nx : V → Hp → Prop) (Sk : Hp → Prop), i < n → Same H H' → Y i x H' → H' D = some (.lst xs) → Pv i xs (but D H') → (∀ y H4, Same H' H4 → Pv (i + 1) (xs ++ [y]) (but D H4) → Nx y H4) → (∀ H3, Same H' H3 → Pv (i + 1) xs (but D H3) → Sk H3) →
      g x (wipe σ vs) H' fun σ2 H2 => wipe σ2 vs = wipe σ vs ∧ tt σ2 H2 fun b H3 => if b = true then te σ2 H3 Nx else Sk H3)
    (hd : ∀ H' xs, Same H H' → H' D = some (.lst xs) → Pv n xs (but D H') → Qd H') :
    ∃ W : Nat → Nat → Hp → Prop, (∃ m, W 0 m (upd H1 D (.lst []))) ∧ ∀ i m H, W i m H →
      (J.stop i H ∧ Qd H) ∨ (J.go i H ∧ ∃ Nx : Hp → Prop, (∀ H', Nx H' → ∃ m', m' < m ∧ W (i + 1) m' H') ∧ ∀ x H', J.yld i H x H' → g x (wipe σ vs) H' fun σ2 H2 => wipe σ2 vs = wipe σ vs ∧ tt σ2 H2 fun b H3 =>
        if b = true then te σ2 H3 fun y H4 => ∃ acc, H4 D = some (.lst acc) ∧ acc.length < sizeLine ∧ Nx (upd H4 D (.lst (acc ++ [y]))) else Nx H3) := by
  have hHD : H D = none := by
    cases e : H D with
    | none => rfl
    | some o => rw [hS _ _ e] at hD; cases hD
  refine ⟨fun i m H' => m = n - i ∧ i ≤ n ∧ Same H H' ∧ ∃ xs, H' D = some (.lst xs) ∧ Pv i xs (but D H'), ⟨n, by simp, Nat.zero_le _, hS.upd' hD, [], upd_same, mono _ _ _ _ (but_none hHD (hS.upd' hD)) h0⟩, ?_⟩
  rintro i m H' ⟨rfl, hi, s, xs, d, pv⟩
  by_cases hlt : i < n
  · refine .inr ⟨jo.go i H' hlt (hS0.trans s), fun H'' => Same H H'' ∧ ∃ xs, H'' D = some (.lst xs) ∧ Pv (i + 1) xs (but D H''), fun H'' p' => ⟨n - (i + 1), by omega, rfl, hlt, p'⟩, fun x H'' y => ?_⟩
    obtain ⟨s2, y⟩ := jo.yld i x H' H'' hlt (hS0.trans s) y
    have pv2 := mono _ _ _ _ (but_mono (D := D) s2) pv
    refine hs i x xs H'' _ _ hlt (s.trans s2) y (s2 _ _ d) pv2 (fun y H4 s3 e => ⟨xs, s3 _ _ (s2 _ _ d), szl (hz i xs _ hi pv), ((s.trans s2).trans s3).updN hHD, _, upd_same, by rw [but_upd]; exact e⟩) fun H3 s3 e => ⟨(s.trans s2).trans s3, xs, s3 _ _ (s2 _ _ d), e⟩
  · have e : i = n := by omega
    subst e
    exact .inl ⟨jo.stop H' (hS0.trans s), hd H' xs s d pv⟩
/-- the same of a dict -/
theorem dc_it {J : It} {g : TG} {tt : TT} {tk tv : TE} {vs : List Nat} {σ : L2.St} {H H0 H1 : Hp} {D : Addr} {Qd : Hp → Prop} {n : Nat} {Y : Nat → V → Hp → Prop} (jo : JOk J H0 n Y) (hS0 : Same H0 H) (hS : Same H H1) (hD : H1 D = none) (out : Nat → List (Key × V)) (h0 : out 0 = [])
    (hz : ∀ i, i ≤ n → (out i).length ≤ 1000000)
    (hs : ∀ i x H' (Nx : V → V → Hp → Prop) (Sk : Hp → Prop), i < n → Same H H' → Y i x H' → (∀ y z k H4, Same H' H4 → y = kV k → out (i + 1) = putK (out i) k z → Nx y z H4) → (∀ H3, Same H' H3 → out (i + 1) = out i → Sk H3) →
      g x (wipe σ vs) H' fun σ2 H2 => wipe σ2 vs = wipe σ vs ∧ tt σ2 H2 fun b H3 => if b = true then tk σ2 H3 fun y H4 => tv σ2 H4 fun z H5 => Nx y z H5 else Sk H3)
    (hd : ∀ H', Same H H' → H' D = some (.dK (out n)) → Qd H') :
    ∃ W : Nat → Nat → Hp → Prop, (∃ m, W 0 m (upd H1 D (.dK []))) ∧ ∀ i m H, W i m H →
      (J.stop i H ∧ Qd H) ∨ (J.go i H ∧ ∃ Nx : Hp → Prop, (∀ H', Nx H' → ∃ m', m' < m ∧ W (i + 1) m' H') ∧ ∀ x H', J.yld i H x H' → g x (wipe σ vs) H' fun σ2 H2 => wipe σ2 vs = wipe σ vs ∧ tt σ2 H2 fun b H3 =>
        if b = true then tk σ2 H3 fun y H4 => tv σ2 H4 fun z H5 => ∃ kvs k, y = kV k ∧ H5 D = some (.dK kvs) ∧ kvs.length < sizeLine ∧ Nx (upd H5 D (.dK (putK kvs k z))) else Nx H3) := by
  have hHD : H D = none := by
    cases e : H D with
    | none => rfl
    | some o => rw [hS _ _ e] at hD; cases hD
  refine ⟨fun i m H' => m = n - i ∧ i ≤ n ∧ Same H H' ∧ H' D = some (.dK (out i)), ⟨n, by simp, Nat.zero_le _, hS.upd' hD, by rw [upd_same, h0]⟩, ?_⟩
  rintro i m H' ⟨rfl, hi, s, d⟩
  by_cases hlt : i < n
  · refine .inr ⟨jo.go i H' hlt (hS0.trans s), fun H'' => Same H H'' ∧ H'' D = some (.dK (out (i + 1))), fun H'' p' => ⟨n - (i + 1), by omega, rfl, hlt, p'⟩, fun x H'' y => ?_⟩
    obtain ⟨s2, y⟩ := jo.yld i x H' H'' hlt (hS0.trans s) y
    refine hs i x H'' _ _ hlt (s.trans s2) y (fun y z k H4 s3 ek e => ⟨out i, k, ek, s3 _ _ (s2 _ _ d), szl (hz i hi), ((s.trans s2).trans s3).updN hHD, by rw [upd_same, e]⟩) fun H3 s3 e => ⟨(s.trans s2).trans s3, by rw [e]; exact s3 _ _ (s2 _ _ d)⟩
  · have e : i = n := by omega
    subst e
    exact .inl ⟨jo.stop H' (hS0.trans s), hd H' s d⟩
/-! ### lists by their places -/
theorem at_map {α : Type} {g : α → V} {l : List α} {i : Nat} {x : V} (h : (l.map g)[i]? = some x) : ∃ z, l[i]? = some z ∧ x = g z := by
  rw [List.getElem?_map] at h
  cases e : l[i]? with
  | none => rw [e] at h; cases h
  | some z => rw [e] at h; exact ⟨z, rfl, (Option.some.inj h).symm⟩
theorem take_more {α : Type} {l : List α} {i : Nat} {z : α} (h : l[i]? = some z) : l.take (i + 1) = l.take i ++ [z] := by
  rw [List.take_add_one, h, Option.toList_some]
theorem take_map_more {α β : Type} (g : α → β) {l : List α} {i : Nat} {z : α} (h : l[i]? = some z) : (l.take (i + 1)).map g = (l.take i).map g ++ [g z] := by
  rw [take_more h, List.map_append]; rfl
theorem take_filter_more {α : Type} (p : α → Bool) {l : List α} {i : Nat} {z : α} (h : l[i]? = some z) : (l.take (i + 1)).filter p = if p z = true then (l.take i).filter p ++ [z] else (l.take i).filter p := by
  rw [take_more h, List.filter_append]
  by_cases q : p z = true
  · rw [if_pos q, List.filter_cons_of_pos q]; rfl
  · rw [if_neg q, List.filter_cons_of_neg q, List.filter_nil, List.append_nil]
theorem len_take_le {α β : Type} (g : α → β) (l : List α) (i : Nat) (h : l.length ≤ 1000000) : ((l.take i).map g).length ≤ 1000000 := by
  rw [List.length_map, List.length_take]; omega
end KW
end
section
set_option Elab.async false
set_option linter.all false
set_option maxRecDepth 100000
set_option maxHeartbeats 4000000
namespace KW
open PySem PySem.Spec PyProof.Rows L2
/-! ### what a thing is -/
/-- the things that the law hands about: None, bools, whole numbers, texts, lists -/
def Thing (H : Hp) (x : V) : Prop := x = .non ∨ (∃ b, x = .bl b) ∨ (∃ i, x = .int i) ∨ (∃ z, x = .str z) ∨ ∃ a xs, x = .ref a ∧ H a = some (.lst xs)
def isI : V → Bool
  | .int _ => true
  | _ => false
def belowV (x : V) (b : Int) : Bool := match x with
  | .int i => decide (0 ≤ i ∧ i < b)
  | _ => false
def spIsInteger : Sp := fun vs H Q _ => ∃ x, vs = [x] ∧ Thing H x ∧ Q (.bl (isI x)) H
def spIsBelow : Sp := fun vs H Q _ => ∃ x b, vs = [x, .int b] ∧ Thing H x ∧ Q (.bl (belowV x b)) H
def spIsCount : Sp := fun vs H Q _ => ∃ x, vs = [x] ∧ Thing H x ∧ Q (.bl (belowV x 61)) H
def spIsList : Sp := fun vs H Q _ => ∃ a xs, vs = [.ref a] ∧ H a = some (.lst xs) ∧ ∀ H', Same H H' → Q (.bl true) H'
section
variable {P : Program} {w : World} {K : PySem.W.Frag} {mg : Str → Option Value} {base : Heap}
theorem boot_isinstance : bootBuiltins "isinstance" = some (.builtin "isinstance") := by decide +kernel
theorem boot_T (T : String) (h : bootBuiltins (Str.ofString T) = some (.type T) := by decide +kernel) : bootBuiltins (Str.ofString T) = some (.type T) := h
theorem scIsInteger : FnScope ["value"] ["value"] (defScope s_is_integer) := ⟨rfl, rfl, rfl, by decide +kernel, rfl, by decide +kernel, by decide +kernel⟩
/-- isinstance(x, int), isinstance(x, bool) of a thing -/
def isB : V → Bool
  | .bl _ => true
  | _ => false
theorem k_ni : kitB "NoneType" "int" = some false := by decide +kernel
theorem k_nb : kitB "NoneType" "bool" = some false := by decide +kernel
theorem k_bi : kitB "bool" "int" = some true := by decide +kernel
theorem k_bb : kitB "bool" "bool" = some true := by decide +kernel
theorem k_ii : kitB "int" "int" = some true := by decide +kernel
theorem k_ib : kitB "int" "bool" = some false := by decide +kernel
theorem k_si : kitB "str" "int" = some false := by decide +kernel
theorem k_sb : kitB "str" "bool" = some false := by decide +kernel
theorem k_li : kitB "list" "int" = some false := by decide +kernel
theorem k_lb : kitB "list" "bool" = some false := by decide +kernel
theorem thing_ty {K : PySem.W.Frag} {H : Hp} {x : V} (h : Thing H x) : ∃ t, TyX K H x t ∧ PySem.W.kitOne K t (.type "int") = some (isI x || isB x) ∧ PySem.W.kitOne K t (.type "bool") = some (isB x) := by
  rcases h with rfl | ⟨b, rfl⟩ | ⟨i, rfl⟩ | ⟨z, rfl⟩ | ⟨a, xs, rfl, ha⟩
  · exact ⟨_, .base .non, kit_ty k_ni, kit_ty k_nb⟩
  · exact ⟨_, .base (.bl _), kit_ty k_bi, kit_ty k_bb⟩
  · exact ⟨_, .base (.int _), kit_ty k_ii, kit_ty k_ib⟩
  · exact ⟨_, .base (.str _), kit_ty k_si, kit_ty k_sb⟩
  · exact ⟨_, .base (.lst ha), kit_ty k_li, kit_ty k_lb⟩
theorem c_is_integer (T : Txt K mg) : C8.Cal P w K mg base 1 "is_integer" spIsInteger [] := by
  obtain ⟨fd, F⟩ := T.fn_is_integer
  refine mkCal F T.g_is_integer (fun _ _ _ _ _ _ us hl => match us, hl with | [_], _ => rfl) scIsInteger (fun vs H Q E h => ?_) fun cdv A outer s H vs Q E hr h => ?_
  · obtain ⟨x, rfl, _⟩ := h
    rfl
  · obtain ⟨x, rfl, hx, k⟩ := h
    refine ⟨_, pss_one (ps_ret (pe_and (pe_callB call_isi (by rfl) T.f_isinstance boot_isinstance (pa_cons (pv 0) (pa_cons (pe_bltn (v := .ty "int") (by rfl) T.f_int (boot_T "int") rfl) pa_nil)))
      (pe_one (pe_not (pe_callB call_isi (by rfl) T.f_isinstance boot_isinstance (pa_cons (pv 0) (pa_cons (pe_bltn (v := .ty "bool") (by rfl) T.f_bool (boot_T "bool") rfl) pa_nil))))))), ?_⟩
    obtain ⟨t, ht, k1, k2⟩ := thing_ty (K := K) hx
    refine ⟨_, rfl, _, _, _, _, _, rfl, .ty _, ht, k1, _, rfl, ?_⟩
    cases e1 : isI x with
    | true =>
      refine iteT ⟨_, rfl, _, _, _, _, _, rfl, .ty _, ht, k2, _, rfl, ?_⟩
      have e2 : isB x = false := by
        cases x <;> first | rfl | cases e1
      show Q (.bl (!isB x)) H
      rw [e2]; rw [e1] at k; exact k
    | false =>
      cases e2 : isB x with
      | true =>
        refine iteT ⟨_, rfl, _, _, _, _, _, rfl, .ty _, ht, k2, _, rfl, ?_⟩
        show Q (.bl (!isB x)) H
        rw [e2]; rw [e1] at k; exact k
      | false => exact iteF (e1 ▸ k)

theorem scIsBelow : FnScope ["value", "bound"] ["value", "bound"] (defScope s_is_below) := ⟨rfl, rfl, rfl, by decide +kernel, rfl, by decide +kernel, by decide +kernel⟩
theorem c_is_below (T : Txt K mg) : C8.Cal P w K mg base 2 "is_below" spIsBelow [] := by
  obtain ⟨fd, F⟩ := T.fn_is_below
  refine mkCal F T.g_is_below (fun _ _ _ _ _ _ us hl => match us, hl with | [_, _], _ => rfl) scIsBelow (fun vs H Q E h => ?_) fun cdv A outer s H vs Q E hr h => ?_
  · obtain ⟨x, b, rfl, _⟩ := h
    rfl
  · obtain ⟨x, b, rfl, hx, k⟩ := h
    refine ⟨_, pss_one (ps_ret (pe_and (C8.pe_c (c_is_integer T) hr (Nat.le_refl _) (by rfl) (pa_cons (pv 0) pa_nil)) (pe_one (pe_chain op_le op_lt pe_int (pv 0) (pv 1))))), ?_⟩
    refine ⟨_, rfl, x, rfl, hx, _, rfl, ?_⟩
    cases x with
    | int i =>
      refine iteT ⟨_, rfl, 0, i, rfl, rfl, _, rfl, ?_⟩
      by_cases h0 : 0 ≤ i
      · rw [decide_eq_true h0]
        refine iteT ⟨_, rfl, i, b, rfl, rfl, ?_⟩
        have e : decide (0 ≤ i ∧ i < b) = decide (i < b) := by simp [h0]
        have k' : Q (.bl (decide (0 ≤ i ∧ i < b))) H := k
        rw [e] at k'; exact k'
      · rw [decide_eq_false h0]
        have e : decide (0 ≤ i ∧ i < b) = false := by simp [h0]
        have k' : Q (.bl (decide (0 ≤ i ∧ i < b))) H := k
        rw [e] at k'; exact iteF k'
    | _ => exact iteF k
theorem scIsCount : FnScope ["value"] ["value"] (defScope s_is_count) := ⟨rfl, rfl, rfl, by decide +kernel, rfl, by decide +kernel, by decide +kernel⟩
theorem c_is_count (T : Txt K mg) : C8.Cal P w K mg base 3 "is_count" spIsCount [] := by
  obtain ⟨fd, F⟩ := T.fn_is_count
  obtain ⟨tk, hm⟩ := T.i_MOST_LOTS
  refine mkCal F T.g_is_count (fun _ _ _ _ _ _ us hl => match us, hl with | [_], _ => rfl) scIsCount (fun vs H Q E h => ?_) fun cdv A outer s H vs Q E hr h => ?_
  · obtain ⟨x, rfl, _⟩ := h
    rfl
  · obtain ⟨x, rfl, hx, k⟩ := h
    refine ⟨_, pss_one (ps_ret (C8.pe_c (c_is_below T) hr (Nat.le_refl _) (by rfl) (pa_cons (pv 0) (pa_cons (pe_op op_add (pe_glob (v := .int 60) (by rfl) hm ⟨_, rfl⟩) pe_int) pa_nil)))), ?_⟩
    exact ⟨_, rfl, 60, 1, rfl, rfl, x, _, rfl, hx, k⟩
theorem scIsList : FnScope ["value"] ["value"] (defScope s_is_list) := ⟨rfl, rfl, rfl, by decide +kernel, rfl, by decide +kernel, by decide +kernel⟩
theorem k_ll : kitB "list" "list" = some true := by decide +kernel
theorem c_is_list (T : Txt K mg) : C8.Cal P w K mg base 1 "is_list" spIsList [] := by
  obtain ⟨fd, F⟩ := T.fn_is_list
  refine mkCal F T.g_is_list (fun _ _ _ _ _ _ us hl => match us, hl with | [_], _ => rfl) scIsList (fun vs H Q E h => ?_) fun cdv A outer s H vs Q E hr h => ?_
  · obtain ⟨x, b, rfl, _⟩ := h
    rfl
  · obtain ⟨a, xs, rfl, ha, k⟩ := h
    refine ⟨_, pss_one (ps_ret (pe_callB call_isiT (by rfl) T.f_isinstance boot_isinstance (pa_cons (pv 0) (pa_cons (pe_tup (pa_cons (pe_bltn (v := .ty "list") (by rfl) T.f_list (boot_T "list") rfl) (pa_cons (pe_bltn (v := .ty "tuple") (by rfl) T.f_tuple (boot_T "tuple") rfl) pa_nil))) pa_nil)))), ?_⟩
    refine ⟨_, rfl, sz (by decide), fun p hp => ?_⟩
    refine ⟨_, p, _, _, _, _, rfl, upd_same, .cons (.ty _) (.cons (.ty _) .nil), .base (.lst (xs := xs) (by rw [upd_ne (ne_of_none ha hp)]; exact ha)), kitAny_cons (kit_ty k_ll) (fun h => nomatch h) (fun _ => rfl), ?_⟩
    exact k _ (Same.upd hp)
/-! ### the greatest divisor -/
def spGcd : Sp := fun vs H Q _ => ∃ a b : Nat, vs = [.int a, .int b] ∧ Q (.int (Nat.gcd a b)) H
theorem scGcd : FnScope ["one", "other"] ["one", "other"] (defScope s_greatest_divisor) := ⟨rfl, rfl, rfl, by decide +kernel, rfl, by decide +kernel, by decide +kernel⟩
theorem c_gcd (T : Txt K mg) : C8.Cal P w K mg base 1 "greatest_divisor" spGcd [] := by
  obtain ⟨fd, F⟩ := T.fn_greatest_divisor
  refine mkCal F T.g_greatest_divisor (fun _ _ _ _ _ _ us hl => match us, hl with | [_, _], _ => rfl) scGcd (fun vs H Q E h => ?_) fun cdv A outer s H vs Q E hr h => ?_
  · obtain ⟨a, b, rfl, _⟩ := h
    rfl
  · obtain ⟨a, b, rfl, k⟩ := h
    refine ⟨_, pss_cons (ps_while PassesOwn.never (pt_cmpR op_ne (pv 1) pe_int (nomark _)) (pss_one (ps_par (i := 0) (j := 1) rfl scGcd.nd rfl rfl (by decide) rfl rfl (pa_cons (pv 1) (pa_cons (pe_op op_mod (pv 0) (pv 1)) pa_nil)) (by kernel_rfl)))) (pss_one (ps_ret (pv 0))), ?_⟩
    refine while_by (fun σ H' => ∃ c d : Nat, σ = [some (.int c), some (.int d)] ∧ H' = H ∧ Nat.gcd c d = Nat.gcd a b) (fun σ _ => match σ with | [_, some (.int d)] => d.toNat | _ => 0) ⟨a, b, rfl, rfl, rfl⟩ ?_ fun σ H Q Q' h ⟨v, e, s, k, e2, q⟩ => ⟨v, e, s, k, e2, h _ _ q⟩
    rintro σ H' ⟨c, d, rfl, rfl, e⟩
    refine ⟨_, rfl, rfl, _, rfl, ?_⟩
    by_cases hd : (d : Int) = 0
    · have e2 : (!decide (V.int (d : Int) = V.int 0)) = false := by rw [hd]; simp
      rw [e2]
      refine iteF ⟨_, rfl, ?_⟩
      have d0 : d = 0 := by omega
      subst d0
      rw [Nat.gcd_zero_right] at e
      rw [← e] at k; exact k
    · have e2 : (!decide (V.int (d : Int) = V.int 0)) = true := by simp; omega
      rw [e2]
      refine iteT ⟨_, rfl, _, rfl, _, rfl, c, d, rfl, rfl, (by show (0 : Int) < d; omega), _, _, rfl, ⟨d, c % d, ?_, rfl, ?_⟩, ?_⟩
      · rfl
      · rw [← e, Nat.gcd_comm d, ← Nat.gcd_rec, Nat.gcd_comm]
      · show ((c : Int) % (d : Int)).toNat < (d : Int).toNat
        have := Nat.mod_lt c (show 0 < d by omega)
        omega
end
end KW
namespace KW
open PySem PySem.Spec PyProof.Rows L2
section
variable {P : Program} {w : World} {K : PySem.W.Frag} {mg : Str → Option Value} {base : Heap}
/-! ### leaned -/
def spLeaned : Sp := fun vs H Q _ => ∃ (a : Addr) (f : Int) (ns : List Int), vs = [.ref a, .int f] ∧ H a = some (.lst (iV ns)) ∧ ns.length ≤ 1000 ∧ (∀ n, n ∈ ns → n.natAbs ≤ 2 ^ 100) ∧
  ∀ H' p, Same H H' → H p = none → H' p = some (.lst (iV (KP.leaned f ns))) → Q (.ref p) H'
theorem gcd_more (ns : List Int) (i : Nat) (z : Int) (h : ns[i]? = some z) : KP.gcdAll (ns.take (i + 1)) = Nat.gcd (KP.gcdAll (ns.take i)) z.natAbs := by
  unfold KP.gcdAll
  rw [List.take_add_one, h, Option.toList_some, List.foldl_append]; rfl
theorem gcdAll_le {ns : List Int} (h : ∀ n, n ∈ ns → n.natAbs ≤ 2 ^ 100) : KP.gcdAll ns < 2 ^ 101 := by
  have h2 : (2 : Nat) ^ 100 < 2 ^ 101 := Nat.pow_lt_pow_right (by decide) (by decide)
  have h0 : (0 : Nat) < 2 ^ 101 := Nat.lt_of_le_of_lt (Nat.zero_le _) h2
  -- it divides each of them; all nought: it is nought
  by_cases hz : ∃ n, n ∈ ns ∧ n ≠ 0
  · obtain ⟨n, hn, hne⟩ := hz
    have hd := KP.gcdAll_dvd hn
    have hp : 0 < n.natAbs := Int.natAbs_pos.mpr hne
    have := Nat.le_of_dvd hp (Int.ofNat_dvd_left.mp hd)
    have := h n hn
    omega
  · have e : ∀ (l : List Int), (∀ n, n ∈ l → n = 0) → l.foldl (fun d x => Nat.gcd d x.natAbs) 0 = 0 := by
      intro l
      induction l with
      | nil => exact fun _ => rfl
      | cons a l ih =>
        intro h
        rw [List.foldl_cons, h a List.mem_cons_self]
        exact ih fun n hn => h n (List.mem_cons_of_mem _ hn)
    have : KP.gcdAll ns = 0 := e ns fun n hn => Classical.byContradiction fun q => hz ⟨n, hn, q⟩
    omega
theorem boot_abs : bootBuiltins "abs" = some (.builtin "abs") := by decide +kernel
theorem scLeaned : FnScope ["numbers", "field", "number", "divisor"] ["numbers", "field"] (defScope s_leaned) := ⟨rfl, rfl, rfl, by decide +kernel, rfl, by decide +kernel, by decide +kernel⟩
theorem c_leaned (T : Txt K mg) : C8.Cal P w K mg base 2 "leaned" spLeaned [] := by
  obtain ⟨fd, F⟩ := T.fn_leaned
  refine mkCal F T.g_leaned (fun _ _ _ _ _ _ us hl => match us, hl with | [_, _], _ => rfl) scLeaned (fun vs H Q E h => ?_) fun cdv A outer s H vs Q E hr h => ?_
  · obtain ⟨a, f, ns, rfl, _⟩ := h
    rfl
  · obtain ⟨a, f, ns, rfl, ha, hlen, hbig, k⟩ := h
    have own : List (Str × Nat) := [("number", 2)]
    refine ⟨_, pss_cons (ps_if (pt_cmpR op_gt (pv 1) pe_int (nomark _))
        (pss_one (ps_ret (pe_lc (own := [("number", 2)]) (g := gName 2) (tt := tYes) rfl scLeaned.nd (pi_list (pv 0)) (blkOk_by (N := ["numbers", "field", "number", "divisor"]) (sc := defScope s_leaned) (by decide +kernel)) (fun _ _ _ _ _ => pg_name (i := 2) scLeaned.nd rfl (Or.inl rfl)) (fun _ _ _ _ _ => pts_nil)
          (fun _ _ _ _ _ => pe_op op_mod (pv 2) (pv 1))))) pss_nil)
      (pss_cons (ps_set (i := 3) scLeaned.nd rfl (Or.inr rfl) pe_int)
      (pss_cons (ps_for PassesOwn.never rfl (pi_list (pv 0)) (pg_name (i := 2) scLeaned.nd rfl (Or.inl rfl)) (pss_one (ps_set (i := 3) scLeaned.nd rfl (Or.inr rfl) (C8.pe_c (c_gcd T) hr (by decide) (by rfl) (pa_cons (pv 3) (pa_cons (pe_callB call_abs (by rfl) T.f_abs boot_abs (pa_cons (pv 2) pa_nil)) pa_nil))))))
      (pss_one (ps_ret (pe_ifExp (pt_cmpR op_gt (pv 3) pe_int (nomark _))
        (pe_lc (own := [("number", 2)]) (g := gName 2) (tt := tYes) rfl scLeaned.nd (pi_list (pv 0)) (blkOk_by (N := ["numbers", "field", "number", "divisor"]) (sc := defScope s_leaned) (by decide +kernel)) (fun _ _ _ _ _ => pg_name (i := 2) scLeaned.nd rfl (Or.inl rfl)) (fun _ _ _ _ _ => pts_nil)
          (fun _ _ _ _ _ => pe_op op_fdivW (pv 2) (pv 3)))
        (pe_callTy call_list_of (by rfl) T.f_list (boot_T "list") (pa_cons (pv 0) pa_nil))))))), ?_⟩
    refine ⟨_, rfl, f, 0, rfl, rfl, _, rfl, ?_⟩
    by_cases hf : 0 < f
    · rw [decide_eq_true hf]
      refine iteT ⟨_, rfl, a, rfl, ⟨_, SqL.of ha⟩, fun D hD => ?_⟩
      refine lc_it (jo_list (SqL.of ha)) (Same.refl H) (Same.refl H) hD (fun i => iV ((ns.take i).map (· % f))) rfl (fun i _ => by simp; omega) (fun i x H' Nx Sk hi s1 hx kN kS => ?_) fun H' s1 d1 => ?_
      · obtain ⟨z, hz, rfl⟩ := at_map hx
        exact ⟨rfl, _, rfl, _, rfl, z, f, rfl, rfl, hf, kN _ _ (Same.refl _) (by rw [take_map_more _ hz]; exact iV_snoc _ _)⟩
      · refine k _ _ s1 hD ?_
        rw [d1]
        unfold KP.leaned
        rw [if_pos hf]
        simp
    · rw [decide_eq_false hf]
      refine iteF ⟨_, rfl, a, rfl, ⟨_, SqL.of ha⟩, ?_⟩
      refine for_it (jo_list (SqL.of ha)) (fun i σ H' => ∃ v, σ = [some (.ref a), some (.int f), v, some (.int (KP.gcdAll (ns.take i) : Nat))] ∧ Same H H') ⟨none, rfl, Same.refl H⟩ (fun i σ H' _ ⟨_, _, h⟩ => h) ?_ ?_
      · rintro i x σ H1 H' hi ⟨v, rfl, s0⟩ s1 hx
        obtain ⟨z, hz, rfl⟩ := at_map hx
        have e : (if z < 0 then -z else z) = (z.natAbs : Int) := by split <;> omega
        refine ⟨_, rfl, _, rfl, _, rfl, KP.gcdAll (ns.take i), z.natAbs, by rw [e]; rfl, ?_⟩
        exact ⟨_, by rw [gcd_more ns i z hz]; rfl, s0.trans s1⟩
      · rintro σ H' ⟨v, rfl, s0⟩
        have ha := s0 _ _ ha
        have hl : (iV ns).length = ns.length := List.length_map ..
        rw [hl, List.take_length]
        refine ⟨_, rfl, _, 1, rfl, rfl, _, rfl, ?_⟩
        by_cases hg : 1 < KP.gcdAll ns
        · rw [decide_eq_true (show (1 : Int) < (KP.gcdAll ns : Nat) by omega)]
          refine iteT ⟨_, rfl, a, rfl, ⟨_, SqL.of ha⟩, fun D hD => ?_⟩
          refine lc_it (jo_list (SqL.of ha)) (Same.refl _) (Same.refl _) hD (fun i => iV ((ns.take i).map (· / (KP.gcdAll ns : Int)))) rfl (fun i _ => by simp; omega) (fun i x H' Nx Sk hi s1 hx kN kS => ?_) fun H' s1 d1 => ?_
          · obtain ⟨z, hz, rfl⟩ := at_map hx
            exact ⟨rfl, _, rfl, _, rfl, z, _, rfl, rfl, wide_div (b := 101) (by omega) (by have := gcdAll_le hbig; omega) (by decide) (by decide), kN _ _ (Same.refl _) (by rw [take_map_more _ hz]; exact iV_snoc _ _)⟩
          · refine k _ _ (s0.trans s1) (s0.free hD) ?_
            rw [d1]
            unfold KP.leaned
            rw [if_neg hf, if_pos hg]
            simp
        · rw [decide_eq_false (show ¬ (1 : Int) < (KP.gcdAll ns : Nat) by omega)]
          refine iteF ⟨_, rfl, a, _, rfl, .inl (SqL.of ha), fun p hp => k _ _ (s0.upd' hp) (s0.free hp) ?_⟩
          rw [upd_same]
          unfold KP.leaned
          rw [if_neg hf, if_neg hg]
end
end KW
end
section
set_option Elab.async false
set_option linter.all false
set_option maxRecDepth 100000
set_option maxHeartbeats 4000000
/-! Own errors: class E(LotError) with an __init__ that says super().__init__(text) and stores a field. -/
namespace KW
open PySem PySem.Spec PyProof.Rows L2
open PySem.W (Frag ksFn ksEnv kxs_mw codeIn findIn typeIn keepIn subIn mroIn nsIn alongIn excTup excObj)
open PySem.HandSPX (refsVE excO)
/-- what is told of the error class nm at C and of its __init__ at fI, text st -/
structure ExcTxt (P : Program) (K : Frag) (mg : Str → Option Value) (nm : Str) (C fI : Addr) (st : Stmt) : Prop where
  gC : mg nm = some (.ref C)
  cls : ∃ nm' q N bs bm sn sub ab col dd k0 k1 k2 k3 k5, K.lookup C = some (excClassObj nm' q C N bs bm true sn sub ab col dd k0 k1 k2 k3 k5 "ValueError.__new__") ∧ refsVE bm = true ∧ alongIn K "__init__" bm = some (some (.builtin "ValueError.__init__"))
  sa : findIn K (.ref C) "__setattr__" = some (some (.builtin "object.__setattr__"))
  xf : XfC K C
  iC : findIn K (.ref C) "__init__" = some (some (.ref fI))
  tC : typeIn K (.ref fI) = some (.type "function")
  kC : keepIn K (.ref C) = true
  tyC : typeIn K (.ref C) = some (.type "type")
  ve : subIn K (.ref C) (.type "ValueError") = some true
  selfC : mroIn K C (.ref C) = some true
  sup : mg "super" = none
  anyC : nsIn K cStatics "thirdparty.any" = some none
  topS : (P.main.scope.names.lookup ("super" : Str)).isSome = false
  fn : ∃ (oc : Value) (od : Option Addr) (doc pm : Value) (an : Option Addr) (cda : Addr) (ct : Value) (osl : Array (Option Value)) (cc : Addr) (qual : Str) (vs : Array Value) (file : Str) (tf : Tok) (ccl : Value) (cdd : Option Addr) (ccs : Array (Option Value)) (cl : Value) (cld : Option Addr) (csl : Array (Option Value)),
    K.lookup fI = some ⟨oc, od, .func (ksFn "__init__" qual (defArgs st) (defBody st) (defScope st) .none .none doc pm an (.ref cda) ct cc), osl⟩ ∧ codeIn K (.ref cda) qual = true ∧ K.lookup cda = some ⟨ccl, cdd, .fields vs, ccs⟩ ∧
      vs[2]? = some (.str file tf) ∧ ((P.main.file : Str) == file) = true ∧ K.lookup cc = some ⟨cl, cld, .cell (some (.ref C)), csl⟩
/-- the text of __init__(self, f): super().__init__(t); self.f = f -/
structure ExcT1 (st : Stmt) (f t : Str) : Prop where
  body : ∃ p0 p1 p2 p3 p4 p5 k q1 q2 q3 q4, defBody st = [.Expr (.Call (.Attribute (.Call (.Name "super" p0) [] [] p1) "__init__" p2) [.Constant (.str t) k p3] [] p4) p5, .Assign [.Attribute (.Name "self" q1) f q2] (.Name f q3) q4] ∧ (∀ env : Env, ∃ pl : Sem Bool, eval (.Call (.Attribute (.Call (.Name "super" p0) [] [] p1) "__init__" p2) [.Constant (.str t) k p3] [] p4) env = (do
      let ov ← attributeBase (.Call (.Name "super" p0) [] [] p1) "__init__" env (eval (.Call (.Name "super" p0) [] [] p1) env)
      standAt p2.atName
      let (f, first) ← holding [ov] (getMethod ov "__init__" pl)
      callWith p4 f first (backTo p4 (starEach [.Constant (.str t) k p3] env)) []))
      ∧ (∀ env : Env, swapsWith (.Name f q3) (some (.Attribute (.Name "self" q1) f q2)) q4.line env = pure false)
  head : ∃ ar, ((defArgs st).posonlyargs ++ (defArgs st).args).head? = some ar ∧ ar.arg = "self"
  bind : ∀ (qual : Str) (doc pm : Value) (an : Option Addr) (cdv ct : Value) (cc : Addr) (a b : Value), bindArgs (ksFn "__init__" qual (defArgs st) (defBody st) (defScope st) .none .none doc pm an cdv ct cc) ⟨[a, b], []⟩ = pure [(("self" : Str), a), (f, b)]
  nm : (f == ("__debug__" : Str)) = false ∧ f ≠ "self"
  loc : (defScope st).names.lookup ("self" : Str) = some .local ∧ (defScope st).names.lookup f = some .local ∧ (defScope st).names.lookup ("super" : Str) = some .globalImplicit ∧ (defScope st).names.lookup ("__class__" : Str) = some .free
  ncell : ∀ y ∈ (defScope st).names, y.2 ≠ .cell
  sc : (defScope st).kind = .function ∧ (defScope st).isCoroutine = false ∧ (defScope st).isGenerator = false
/-- .. of __init__(self): super().__init__(t) -/
structure ExcT0 (st : Stmt) (t : Str) : Prop where
  body : ∃ p0 p1 p2 p3 p4 p5 k, defBody st = [.Expr (.Call (.Attribute (.Call (.Name "super" p0) [] [] p1) "__init__" p2) [.Constant (.str t) k p3] [] p4) p5] ∧ (∀ env : Env, ∃ pl : Sem Bool, eval (.Call (.Attribute (.Call (.Name "super" p0) [] [] p1) "__init__" p2) [.Constant (.str t) k p3] [] p4) env = (do
      let ov ← attributeBase (.Call (.Name "super" p0) [] [] p1) "__init__" env (eval (.Call (.Name "super" p0) [] [] p1) env)
      standAt p2.atName
      let (f, first) ← holding [ov] (getMethod ov "__init__" pl)
      callWith p4 f first (backTo p4 (starEach [.Constant (.str t) k p3] env)) []))
  head : ∃ ar, ((defArgs st).posonlyargs ++ (defArgs st).args).head? = some ar ∧ ar.arg = "self"
  bind : ∀ (qual : Str) (doc pm : Value) (an : Option Addr) (cdv ct : Value) (cc : Addr) (a : Value), bindArgs (ksFn "__init__" qual (defArgs st) (defBody st) (defScope st) .none .none doc pm an cdv ct cc) ⟨[a], []⟩ = pure [(("self" : Str), a)]
  loc : (defScope st).names.lookup ("self" : Str) = some .local ∧ (defScope st).names.lookup ("super" : Str) = some .globalImplicit ∧ (defScope st).names.lookup ("__class__" : Str) = some .free
  ncell : ∀ y ∈ (defScope st).names, y.2 ≠ .cell
  sc : (defScope st).kind = .function ∧ (defScope st).isCoroutine = false ∧ (defScope st).isGenerator = false
section
open PySem.W PySem.Calls PySem.HandSPX
variable {P : Program} {w : World} {K : Frag} {mg : Str → Option Value} {A : Around} {E : Value → Shared → Prop} {base h : Heap} {g : Array GenState} {d : Drawn} {t : Nat} {os : OsState}
/-- ValueError.__init__ bound to an own error, called -/
theorem call_mw {nm q : Str} {C N : Addr} {bs bm : List Value} {hdct : Bool} {sn : List Str} {sub : List Value} {ab : Bool} {col : Option Bool} {dd : Option Addr} {k0 k1 k2 k3 k5 : Option Value} {u e t0 : Addr} {rest : List Value} {Q : Value → Shared → Prop}
    (hC : h.get? C = some (excClassObj nm q C N bs bm hdct sn sub ab col dd k0 k1 k2 k3 k5 "ValueError.__new__")) (he : h.get? e = some (excO C t0)) (hu : h.get? u = some (kxs_mw "ValueError.__init__" e)) (hrest : rest.length ≤ sizeLine)
    (hq : ∀ h' t1, (∀ b o, b ≠ e → h.get? b = some o → h'.get? b = some o) → h'.get? e = some (excO C t1) → Q .none ⟨h', g, d, t, os⟩) :
    wpAny (model P w) A (call (.ref u) rest) Q E ⟨h, g, d, t, os⟩ := by
  refine wpAny_call (codeAny_of_tree ?_)
  show wpAny _ A.in1 (callAny (.ref u) ⟨rest, []⟩) _ _ _
  simp only [callAny]
  refine wpAny_bind (wpAny_load hu ?_)
  simp only [kxs_mw, show (Value.type "method-wrapper" == Value.type "method" || Value.type "method-wrapper" == Value.type "builtin_function_or_method" || Value.type "method-wrapper" == Value.type "method-wrapper") = true by decide, if_true]
  refine KFB.if_so (by decide) ?_
  refine wpAny_bind (check_bound_init PySem.F.excBase_ValueError.toExcCallFacts hC he rfl ?_)
  refine wpAny_bind (wpAny_pure (wpAny_pure ?_))
  refine ⟨plainId_quiet PySem.F.excBase_ValueError.init.plain _, codeAny_builtin PySem.F.excBase_ValueError.initEntry ?_⟩
  exact exc_init_tree (cls := .ref C) (t0 := t0) (dv := none) (c2 := .none) (c3 := .none) (b4 := .bool false) he hrest fun h' k e' _ => hq h' _ k e'
/-- super().__init__(text), the statement -/
theorem sup_walk {nm t : Str} {C fI x : Addr} {st : Stmt} (T : ExcTxt P K mg nm C fI st) (mod : Mod K mg base) {s : Shared} {hk : ∀ b o, base.get? b = some o → s.heap.get? b = some o} {oc : Value} {od : Option Addr} {doc pm : Value} {an : Option Addr} {cda : Addr} {ct : Value} {osl : Array (Option Value)} {cc : Addr} {qual : Str} {vs : Array Value} {file : Str} {tf : Tok} {ccl : Value} {cdd : Option Addr} {ccs : Array (Option Value)} {cl : Value} {cld : Option Addr} {csl : Array (Option Value)}
    (lk : K.lookup fI = some ⟨oc, od, .func (ksFn "__init__" qual (defArgs st) (defBody st) (defScope st) .none .none doc pm an (.ref cda) ct cc), osl⟩) (hcode : K.lookup cda = some ⟨ccl, cdd, .fields vs, ccs⟩) (hvs : vs[2]? = some (.str file tf)) (hfile : ((P.main.file : Str) == file) = true) (hcell : K.lookup cc = some ⟨cl, cld, .cell (some (.ref C)), csl⟩)
    (head : ∃ ar, ((defArgs st).posonlyargs ++ (defArgs st).args).head? = some ar ∧ ar.arg = "self") (hself : (defScope st).names.lookup ("self" : Str) = some .local) (hsup : (defScope st).names.lookup ("super" : Str) = some .globalImplicit) (hcls : (defScope st).names.lookup ("__class__" : Str) = some .free) (hkind : (defScope st).kind = .function)
    {L t0 : Addr} {m : Str → Option Value} (hns : s.heap.Ns L m) (hx : s.heap.get? x = some (excO C t0)) (hxn : K.lookup x = none) (hm : m "self" = some (.ref x)) {p0 p1 p2 p3 p4 p5 : Pos} {k : Nat} {Q : Flow → Shared → Prop}
    (hev : (∀ env : Env, ∃ pl : Sem Bool, eval (.Call (.Attribute (.Call (.Name "super" p0) [] [] p1) "__init__" p2) [.Constant (.str t) k p3] [] p4) env = (do
      let ov ← attributeBase (.Call (.Name "super" p0) [] [] p1) "__init__" env (eval (.Call (.Name "super" p0) [] [] p1) env)
      standAt p2.atName
      let (f, first) ← holding [ov] (getMethod ov "__init__" pl)
      callWith p4 f first (backTo p4 (starEach [.Constant (.str t) k p3] env)) [])))
    (hq : ∀ h' tk t1, (∀ b o, b ≠ x → s.heap.get? b = some o → h'.get? b = some o) → h'.get? x = some (excO C t1) → Q .next { s with heap := h', toks := tk }) :
    _root_.PySem.wpAt (model P w) A (.func (defBody st) (ksEnv qual (defScope st) L fI (.ref cda) cc)) (exec (.Expr (.Call (.Attribute (.Call (.Name "super" p0) [] [] p1) "__init__" p2) [.Constant (.str t) k p3] [] p4) p5) (ksEnv qual (defScope st) L fI (.ref cda) cc)) Q E s := by
  obtain ⟨nm', q', N, bs, bm, sn, sub, ab, col, dd, k0, k1, k2, k3, k5, hC, hbm, hal⟩ := T.cls
  obtain ⟨ar, har, hars⟩ := head
  have X : K.In s.heap := mod.kin.keeps hk
  have hcl : clsIn K C = some { name := nm', bases := bs, mro := .ref C :: bm, ns := N, qualname := q', hasDict := true, slotNames := sn, subclasses := sub, abstract := ab, collection := col, hasDel := false } := by unfold clsIn; rw [hC] <;> rfl
  have neC : x ≠ C := fun z => by rw [z, hC] at hxn; cases hxn
  obtain ⟨mb, hb1, hb2⟩ := mod.blt
  obtain ⟨hh, g, d, tk, os⟩ := s
  obtain ⟨pl, hpl⟩ := hev (ksEnv qual (defScope st) L fI (.ref cda) cc)
  refine ks_wpAt_Expr_any (ks_wpAt_MethodCall (pl := pl) ?_ hpl) (hi := by unfold interactive; rw [show (ksEnv qual (defScope st) L fI (.ref cda) cc).scope.kind = .function from hkind]; rfl)
  refine ks_wpAt_super_base (env := ksEnv qual (defScope st) L fI (.ref cda) cc) hsup hcls rfl rfl (X _ _ lk) rfl har rfl (X _ _ hcode) rfl hvs hfile T.topS ?_
  refine ks_loadName_global hkind hsup (loadGlobal_builtin (env := ksEnv qual (defScope st) L fI (.ref cda) cc) (mod.glob.keeps hk) T.sup (hb1.keeps hk) ((hb2 _ (by decide +kernel)).trans (by decide +kernel : bootBuiltins "super" = some (.type "super"))) ⟨rfl, ?_⟩)
  refine wpAny_loadName_free hkind hcls rfl ⟨_, X _ _ hcell, rfl⟩ ?_
  rw [hars]
  refine wpAny_loadName_local hkind hself hns hm ?_
  refine ks_wpAny_isType_cls (X _ _ hC) rfl ⟨rfl, ?_⟩
  refine ks_wpAny_call_super (X _ _ hC) rfl hx rfl (fun c e => nomatch e) (looks_mroIn X T.selfC) (fun h2 e2 k2 => ?_)
  have X2 : K.In h2 := X.keeps k2
  have hx2 := k2 _ _ hx
  have I2 : InstAt h2 x (excO C t0) C none := ⟨hx2, rfl, rfl, trivial⟩
  refine kxs_getMethod kxs_ValueError e2 (looks_opaque X2 T.anyC) (l₀ := .ref C :: bm) (fun A Q E s k q => wpAny_bind ((looks_clsIn X2 hcl) A _ E s k (wpAny_pure q))) (PySem.ESX.drop_own C bm) X2 hal (I2.type.andThen (looks_subIn X2 T.ve)) neC rfl ?_
  have h3u : (h2.push (kxs_mw "ValueError.__init__" x)).get? h2.objs.size = some (kxs_mw "ValueError.__init__" x) := Heap.get?_push_at rfl rfl
  have k3 : ∀ b o, h2.get? b = some o → (h2.push (kxs_mw "ValueError.__init__" x)).get? b = some o := fun b o e => Heap.get?_push_of_some _ e
  refine kxs_callWith (i := "ValueError.__init__") (x := x) rfl ?_
  refine evalArgs_plain (x := eval (.Constant (.str t) k p3) (ksEnv qual (defScope st) L fI (.ref cda) cc)) (rest := []) ?_
  refine spliced_cons (Calls.Constant_str (spliced_nil ⟨h3u, ?_⟩))
  refine call_mw (X2.keeps k3 _ _ hC) (k3 _ _ hx2) h3u (by show 1 ≤ sizeLine; rw [sizeLine_eq]; decide) fun h' t1 k' e' => ?_
  exact hq h' _ t1 (fun b o hb e => k' b o hb (k3 b o (k2 b o e))) e'
/-- what __init__ leaves of a fresh error at x: its dict holds f = v -/
structure InitEnd1 (h h' : Heap) (x C dx t1 : Addr) (f : Str) (v : Value) : Prop where
  keep : ∀ b o, b ≠ x → h.get? b = some o → h'.get? b = some o
  obj : h'.get? x = some { cls := .ref C, dict := some dx, data := .fields #[.ref t1, .none, .none, .none, .bool false, .none] }
  dbig : h.objs.size ≤ dx
  dne : dx ≠ x
  ns : h'.Ns1 dx (fun y => if y = f then some v else none)
theorem exc_init1 {nm f t : Str} {C fI x t0 : Addr} {st : Stmt} (T : ExcTxt P K mg nm C fI st) (B : ExcT1 st f t) (hno : findIn K (.ref C) f = some none) (mod : L2.Mod K mg base) {s : Shared} (hk : ∀ b o, base.get? b = some o → s.heap.get? b = some o) {R : Result → Shared → Prop} {v : Value}
    (hx : s.heap.get? x = some (excO C t0)) (hxn : K.lookup x = none) (hroom : A.depth < recursionLimit) (hlim : s.heap.NoLimit)
    (hq : ∀ h' tk dx t1, InitEnd1 s.heap h' x C dx t1 f v → R (.ok (.ret .none)) { s with heap := h', toks := tk }) :
    codeAny (model P w) A (.call (.ref fI) ⟨[.ref x, v], []⟩) R s := by
  obtain ⟨oc, od, doc, pm, an, cda, ct, osl, cc, qual, vs, file, tf, ccl, cdd, ccs, cl, cld, csl, lk, hcd, hcode, hvs, hfile, hcell⟩ := T.fn
  obtain ⟨nm', q', N, bs, bm, sn, sub, ab, col, dd, k0, k1, k2, k3, k5, hC, hbm, hal⟩ := T.cls
  obtain ⟨p0, p1, p2, p3, p4, p5, k, q1, q2, q3, q4, hb, hev, hsw⟩ := B.body
  obtain ⟨l1, l2, l3, l4⟩ := B.loc
  obtain ⟨c1, c2, c3⟩ := B.sc
  obtain ⟨nf1, nf2⟩ := B.nm
  have X : K.In s.heap := mod.kin.keeps hk
  have hcl : clsIn K C = some { name := nm', bases := bs, mro := .ref C :: bm, ns := N, qualname := q', hasDict := true, slotNames := sn, subclasses := sub, abstract := ab, collection := col, hasDel := false } := by unfold clsIn; rw [hC] <;> rfl
  refine ks_codeAny_call_defAt (binds := [(("self" : Str), .ref x), (f, v)]) (body := defBody st) hroom (X _ _ lk) rfl hlim (codeRec_of X hcd) rfl (BindsTo.of_eq (B.bind _ _ _ _ _ _ _ _ _)) B.ncell (fun y hy => ?_) (fun h₁ hns kk => ?_) c2 c3 c1
  · rcases List.mem_cons.mp hy with rfl | hy
    · exact l1
    · rcases List.mem_cons.mp hy with rfl | hy
      · exact l2
      · cases hy
  · have m1 : (fun y => ([(("self" : Str), Value.ref x), (f, v)] : List (Str × Value)).reverse.lookup y) ("self" : Str) = some (.ref x) := by
      have e : (("self" : Str) == f) = false := beq_eq_false_iff_ne.mpr (Ne.symm nf2)
      show List.lookup ("self" : Str) [(f, v), (("self" : Str), Value.ref x)] = _
      rw [List.lookup_cons, e]
      rfl
    have m2 : (fun y => ([(("self" : Str), Value.ref x), (f, v)] : List (Str × Value)).reverse.lookup y) f = some v := by
      show List.lookup f [(f, v), (("self" : Str), Value.ref x)] = _
      rw [List.lookup_cons, beq_self_eq_true]
    have hx₁ := kk _ _ hx
    have hL : s.heap.objs.size ≠ x := Nat.ne_of_gt (Heap.lt_size hx)
    show _root_.PySem.wpAt _ _ (.func (defBody st) (ksEnv qual (defScope st) s.heap.objs.size fI (.ref cda) cc)) (execs (defBody st) (ksEnv qual (defScope st) s.heap.objs.size fI (.ref cda) cc)) _ _ _
    have hb' : execs (defBody st) (ksEnv qual (defScope st) s.heap.objs.size fI (.ref cda) cc) = execs [.Expr (.Call (.Attribute (.Call (.Name "super" p0) [] [] p1) "__init__" p2) [.Constant (.str t) k p3] [] p4) p5, .Assign [.Attribute (.Name "self" q1) f q2] (.Name f q3) q4] (ksEnv qual (defScope st) s.heap.objs.size fI (.ref cda) cc) := by rw [hb]
    rw [hb']
    refine ks_wpAt_execs_cons (sup_walk (s := { s with heap := h₁, toks := _ }) (hk := fun b o e => kk b o (hk b o e)) T mod lk hcode hvs hfile hcell B.head l1 l3 l4 c1 hns hx₁ hxn m1 hev fun h2 tk2 t1 k2 hx2 => ?_)
    have X2 : K.In h2 := fun a o e => k2 a o (fun z => by rw [z, hxn] at e; cases e) (kk _ _ (X a o e))
    obtain ⟨oL, es, ep, hoL, rL⟩ := hns
    have hns2 : h2.Ns s.heap.objs.size _ := ⟨oL, es, ep, k2 _ _ hL hoL, rL⟩
    refine ks_wpAt_execs_cons (ks_wpAt_Assign_Attr (wpAt_of_wpAny ?_) (hsw _))
    refine wpAny_Name (wpAny_loadName_local c1 l2 hns2 m2 ?_) nf1
    refine wpAny_Name (wpAny_loadName_local c1 l1 hns2 m1 ?_) rfl
    refine set_plain X2 (ox := excO C t1) (od := none) ⟨hx2, rfl, rfl, trivial⟩ T.sa ?_
    refine exc_osa X2 hx2 hcl (show refsVE (.ref C :: bm) = true from hbm) rfl hno (fun h₃ tk₃ dx k₃ dn dne hx₃ hn₃ => ?_)
    refine wpAt_of_wpAny (wpAny_execs_nil (hq h₃ tk₃ dx t1 ⟨fun b o hb e => k₃ b o hb (k2 b o hb (kk b o e)), hx₃, ?_, dne, hn₃⟩))
    have z : s.heap.objs.size < h2.objs.size := Heap.lt_size (k2 _ _ hL hoL)
    exact Nat.le_of_lt (Nat.lt_of_lt_of_le z dn)
theorem exc_init0 {nm t : Str} {C fI x t0 : Addr} {st : Stmt} (T : ExcTxt P K mg nm C fI st) (B : ExcT0 st t) (mod : L2.Mod K mg base) {s : Shared} (hk : ∀ b o, base.get? b = some o → s.heap.get? b = some o) {R : Result → Shared → Prop}
    (hx : s.heap.get? x = some (excO C t0)) (hxn : K.lookup x = none) (hroom : A.depth < recursionLimit) (hlim : s.heap.NoLimit)
    (hq : ∀ h' tk t1, (∀ b o, b ≠ x → s.heap.get? b = some o → h'.get? b = some o) → h'.get? x = some (excO C t1) → R (.ok (.ret .none)) { s with heap := h', toks := tk }) :
    codeAny (model P w) A (.call (.ref fI) ⟨[.ref x], []⟩) R s := by
  obtain ⟨oc, od, doc, pm, an, cda, ct, osl, cc, qual, vs, file, tf, ccl, cdd, ccs, cl, cld, csl, lk, hcd, hcode, hvs, hfile, hcell⟩ := T.fn
  obtain ⟨p0, p1, p2, p3, p4, p5, k, hb, hev⟩ := B.body
  obtain ⟨l1, l3, l4⟩ := B.loc
  obtain ⟨c1, c2, c3⟩ := B.sc
  have X : K.In s.heap := mod.kin.keeps hk
  refine ks_codeAny_call_defAt (binds := [(("self" : Str), .ref x)]) (body := defBody st) hroom (X _ _ lk) rfl hlim (codeRec_of X hcd) rfl (BindsTo.of_eq (B.bind _ _ _ _ _ _ _ _)) B.ncell (fun y hy => ?_) (fun h₁ hns kk => ?_) c2 c3 c1
  · rcases List.mem_cons.mp hy with rfl | hy
    · exact l1
    · cases hy
  · have hx₁ := kk _ _ hx
    show _root_.PySem.wpAt _ _ (.func (defBody st) (ksEnv qual (defScope st) s.heap.objs.size fI (.ref cda) cc)) (execs (defBody st) (ksEnv qual (defScope st) s.heap.objs.size fI (.ref cda) cc)) _ _ _
    have hb' : execs (defBody st) (ksEnv qual (defScope st) s.heap.objs.size fI (.ref cda) cc) = execs [.Expr (.Call (.Attribute (.Call (.Name "super" p0) [] [] p1) "__init__" p2) [.Constant (.str t) k p3] [] p4) p5] (ksEnv qual (defScope st) s.heap.objs.size fI (.ref cda) cc) := by rw [hb]
    rw [hb']
    refine ks_wpAt_execs_cons (sup_walk (s := { s with heap := h₁, toks := _ }) (hk := fun b o e => kk b o (hk b o e)) T mod lk hcode hvs hfile hcell B.head l1 l3 l4 c1 hns hx₁ hxn rfl hev fun h2 tk2 t1 k2 hx2 => ?_)
    exact wpAt_of_wpAny (wpAny_execs_nil (hq h2 tk2 t1 (fun b o hb e => k2 b o hb (kk b o e)) hx2))
/-- a made error with a field -/
structure OwnMade1 (h h' : Heap) (e C d : Addr) (f : Str) (v : Value) : Prop where
  keep : ∀ b o, h.get? b = some o → h'.get? b = some o
  new : h.objs.size ≤ e
  obj : ∃ oe vs, h'.get? e = some oe ∧ oe.cls = .ref C ∧ oe.dict = some d ∧ oe.data = .fields vs ∧ vs[1]? = some .none
  dbig : h.objs.size ≤ d
  dne : d ≠ e
  ns : h'.Ns1 d (fun y => if y = f then some v else none)
theorem not_in {K : Frag} {h : Heap} {a : Addr} (X : K.In h) (ha : h.objs.size ≤ a) : K.lookup a = none := by
  cases e : K.lookup a with
  | none => rfl
  | some o => exact absurd (Heap.lt_size (X _ _ e)) (Nat.not_lt.mpr ha)
theorem exc_made1 {nm f t : Str} {C fI : Addr} {st : Stmt} (T : ExcTxt P K mg nm C fI st) (B : ExcT1 st f t) (hno : findIn K (.ref C) f = some none) (mod : L2.Mod K mg base) {s : Shared} (hk : ∀ b o, base.get? b = some o → s.heap.get? b = some o) {R : Result → Shared → Prop} {v : Value} (hroom : A.depth + 1 < recursionLimit) (hlim : s.heap.NoLimit)
    (hq : ∀ h' tk e d, OwnMade1 s.heap h' e C d f v → R (.ok (.ret (.ref e))) { s with heap := h', toks := tk }) : codeAny (model P w) A (.call (.ref C) ⟨[v], []⟩) R s := by
  obtain ⟨nm', q', N, bs, bm, sn, sub, ab, col, dd, k0, k1, k2, k3, k5, hC, hbm, hal⟩ := T.cls
  have X : K.In s.heap := mod.kin.keeps hk
  obtain ⟨hp, g, dr, tk, os⟩ := s
  have k : ∀ b o, hp.get? b = some o → ((hp.push (kdv_tup [v])).push (excO C hp.objs.size)).get? b = some o := fun b o e => Heap.get?_push_of_some _ (Heap.get?_push_of_some _ e)
  have hget : ((hp.push (kdv_tup [v])).push (excO C hp.objs.size)).get? (hp.objs.size + 1) = some (excO C hp.objs.size) := by heap_get
  have hnx : K.lookup (hp.objs.size + 1) = none := not_in X (Nat.le_succ _)
  refine call_own F.excBase_ValueError (fun X => refsVE_contains X bm hbm) (X _ _ hC) (looks_findIn X T.iC) (fun self => bind_fn X self T.tC) (by show 1 ≤ sizeLine; rw [sizeLine_eq]; decide) ?_
  refine exc_init1 (s := ⟨(hp.push (kdv_tup [v])).push (excO C hp.objs.size), g, dr, tk, os⟩) T B hno mod (fun b o e => k b o (hk b o e)) hget hnx ?_ (hlim.keeps k) fun h' tk' dx t1 ⟨k', hx, dn, dne, hns⟩ => ?_
  · show A.depth + 1 < recursionLimit
    exact hroom
  · have old : ∀ b o, hp.get? b = some o → h'.get? b = some o := fun b o e => k' b o (Nat.ne_of_lt (Nat.lt_succ_of_lt (Heap.lt_size e))) (k b o e)
    have z : hp.objs.size + 1 + 1 ≤ dx := by
      first
        | (simpa only [Heap.size_push] using dn)
        | exact dn
        | (have q := dn; rw [Heap.size_push, Heap.size_push] at q; exact q)
    exact ⟨rfl, hq h' tk' (hp.objs.size + 1) dx ⟨old, Nat.le_succ _, ⟨_, _, hx, rfl, rfl, rfl, rfl⟩, Nat.le_trans (Nat.le_trans (Nat.le_succ _) (Nat.le_succ _)) z, dne, hns⟩⟩
theorem exc_made0 {nm t : Str} {C fI : Addr} {st : Stmt} (T : ExcTxt P K mg nm C fI st) (B : ExcT0 st t) (mod : L2.Mod K mg base) {s : Shared} (hk : ∀ b o, base.get? b = some o → s.heap.get? b = some o) {R : Result → Shared → Prop} (hroom : A.depth + 1 < recursionLimit) (hlim : s.heap.NoLimit)
    (hq : ∀ h' tk e t1, (∀ b o, s.heap.get? b = some o → h'.get? b = some o) → s.heap.objs.size ≤ e → h'.get? e = some (excO C t1) → R (.ok (.ret (.ref e))) { s with heap := h', toks := tk }) : codeAny (model P w) A (.call (.ref C) ⟨[], []⟩) R s := by
  obtain ⟨nm', q', N, bs, bm, sn, sub, ab, col, dd, k0, k1, k2, k3, k5, hC, hbm, hal⟩ := T.cls
  have X : K.In s.heap := mod.kin.keeps hk
  obtain ⟨hp, g, dr, tk, os⟩ := s
  have k : ∀ b o, hp.get? b = some o → ((hp.push (kdv_tup [])).push (excO C hp.objs.size)).get? b = some o := fun b o e => Heap.get?_push_of_some _ (Heap.get?_push_of_some _ e)
  have hget : ((hp.push (kdv_tup [])).push (excO C hp.objs.size)).get? (hp.objs.size + 1) = some (excO C hp.objs.size) := by heap_get
  have hnx : K.lookup (hp.objs.size + 1) = none := not_in X (Nat.le_succ _)
  refine call_own F.excBase_ValueError (fun X => refsVE_contains X bm hbm) (X _ _ hC) (looks_findIn X T.iC) (fun self => bind_fn X self T.tC) (by show 0 ≤ sizeLine; exact Nat.zero_le _) ?_
  refine exc_init0 (s := ⟨(hp.push (kdv_tup [])).push (excO C hp.objs.size), g, dr, tk, os⟩) T B mod (fun b o e => k b o (hk b o e)) hget hnx ?_ (hlim.keeps k) fun h' tk' t1 k' hx => ?_
  · show A.depth + 1 < recursionLimit
    exact hroom
  · exact ⟨rfl, hq h' tk' (hp.objs.size + 1) t1 (fun b o e => k' b o (Nat.ne_of_lt (Nat.lt_succ_of_lt (Heap.lt_size e))) (k b o e)) (Nat.le_succ _) hx⟩
end
theorem relO_one {v : V} {v' : Value} (r : RelV v v') (n f : Str) : RelO (List.lookup f [(n, v)]) (if f = n then some v' else none) := by
  by_cases hw : f = n
  · subst hw
    rw [if_pos rfl]
    have q : List.lookup f [(f, v)] = some v := by simp [List.lookup]
    rw [q]
    exact r
  · rw [if_neg hw]
    have qw : (f == n) = false := by simpa using hw
    have q2 : List.lookup f [(n, v)] = none := by simp [List.lookup, qw]
    rw [q2]
    trivial
section
variable {X : Cx} {C fI : Addr} {nm f t : Str} {st : Stmt}
/-- E(e) of an own error -/
def tMk1 (C : Addr) (f : Str) (ta : TA) : L2.St → Hp → XK → Prop := fun σ H Q => ta σ H fun vs H1 => ∃ v, vs = [v] ∧ ∀ d, H1 d = none → Q (.ref C) (some d) (upd H1 d (.xd [(f, v)]))
theorem pmk_1 {a : Expr} {ta : TA} {p pos : Pos} {k : Nat} (T : ExcTxt X.prog X.K X.mg nm C fI st) (B : ExcT1 st f t) (hno : findIn X.K (.ref C) f = some none) (hr : Room (k + 1) X.A) (ha : PA X [a] ta) (hg : Gl X nm := by rfl) (hd : (nm == ("__debug__" : Str)) = false := by decide)
    (he : starEach (a :: []) X.env = (false, eval a X.env) :: starEach [] X.env := by rfl) (hpl : (backTo pos (starEach [] X.env)).any (·.1) = false := by rfl) :
    PMk X (.Call (.Name nm p) [a] [] pos) (tMk1 C f ta) := by
  intro pins s σ H Q I h
  refine wpAny_Call_Name_kw (ld_glob I hg T.gC ?_ hd)
  refine PySem.W.callWith_K (h₀ := X.base) I.ok.mod.kin T.kC (thn (ha.run pos pins s σ H _ I h) fun us s1 hh => ?_) he hpl
  obtain ⟨vs, H1, I1, r1, v, ev, q1⟩ := hh
  subst ev
  refine ⟨I1.kIn, ?_⟩
  cases r1 with
  | cons rv rn =>
    rename_i v' us'
    cases rn
    show wpAny _ _ (call (.ref C) [v']) _ _ _
    have hlim := I1.nolimit
    have hbk := I1.bk
    obtain ⟨hp, g, dr, tk, os⟩ := s1
    refine wpAny_call (exc_made1 T B hno I1.ok.mod hbk (by have := hr.dp; omega) hlim fun h' tk' e d M => ?_)
    show MkP X pins σ Q (.ref e) ⟨h', g, dr, tk', os⟩
    obtain ⟨oe, fv, hoe, hc, hd, hdat, h1⟩ := M.obj
    have hns := M.ns
    obtain ⟨G', g1, g2⟩ := restrict h' fun b => decide (b ≠ e)
    have gk : ∀ b, b ≠ e → G'.get? b = h'.get? b := fun b hb => g1 b (decide_eq_true hb)
    have ge : G'.get? e = none := g2 e (by simp)
    have old : ∀ b o, hp.get? b = some o → G'.get? b = some o := fun b o q => (gk b (Nat.ne_of_lt (Nat.lt_of_lt_of_le (Heap.lt_size q) M.new))).trans (M.keep b o q)
    have ob : ObjOk X.prog X.w (upd H1 d (.xd [(f, v)])) G' d (.xd [(f, v)]) :=
      ⟨_, hns.at (fun o q => (gk d M.dne).trans q), fun y => relO_one rv f y⟩
    have J : Inv X pins σ (upd H1 d (.xd [(f, v)])) ⟨G', g, dr, tk', os⟩ := I1.laid (t' := tk') old M.dbig ob
    refine ⟨e, oe, fv, ⟨G', g, dr, tk', os⟩, _, .ref C, some d, rfl, J, fun b o q => ?_, ge, hoe, ⟨hc, hd⟩, hdat, h1, ?_, rfl, I1.bare, raises_own T.xf.exC T.tyC, q1 d (I1.hok.fresh M.dbig)⟩
    · by_cases hb : b = e
      · have q' : G'.get? b = some o := q
        rw [hb, ge] at q'; cases q'
      · exact (gk b hb).symm.trans q
    · rw [upd_ne (Ne.symm M.dne)]
      exact I1.hok.fresh M.new
/-- E() of an own error without fields -/
def tMk0 (C : Addr) : L2.St → Hp → XK → Prop := fun σ H Q => Q (.ref C) none H
theorem pmk_0 {p pos : Pos} {k : Nat} (T : ExcTxt X.prog X.K X.mg nm C fI st) (B : ExcT0 st t) (hr : Room (k + 1) X.A) (hg : Gl X nm := by rfl) (hd : (nm == ("__debug__" : Str)) = false := by decide) :
    PMk X (.Call (.Name nm p) [] [] pos) (tMk0 C) := by
  intro pins s σ H Q I h
  refine wpAny_Call_Name_kw (ld_glob I hg T.gC ?_ hd)
  refine PySem.W.callWith_K0 (first := []) I.kIn T.kC ?_
  show wpAny _ _ (call (.ref C) []) _ _ _
  have hlim := I.nolimit
  have hbk := I.bk
  obtain ⟨hp, g, dr, tk, os⟩ := s
  refine wpAny_call (exc_made0 T B I.ok.mod hbk (by have := hr.dp; omega) hlim fun h' tk' e t1 kk hn he => ?_)
  show MkP X pins σ Q (.ref e) ⟨h', g, dr, tk', os⟩
  have lt : hp.objs.size ≤ e := hn
  refine ⟨e, _, _, ⟨hp, g, dr, tk, os⟩, H, .ref C, none, rfl, I, kk, ?_, he, ⟨rfl, rfl⟩, rfl, rfl, I.hok.fresh hn, rfl, I.bare, raises_own T.xf.exC T.tyC, h⟩
  cases z : hp.get? e with
  | none => rfl
  | some o => exact absurd (Heap.lt_size z) (Nat.not_lt.mpr lt)
end
end KW
end
section
set_option Elab.async false
set_option linter.all false
set_option maxRecDepth 100000
set_option maxHeartbeats 4000000
/-! try with several except clauses, with or without names. -/
namespace KW
open PySem PySem.Spec PyProof.Rows L2
abbrev TSx := Addr → Value → Option Addr → TS
/-- what the clauses wish of an exception of the body, one after the other; some i: the clause's name has slot i -/
def wMix (K : PySem.W.Frag) (Wout : WX) (D : Ends) : List (Value × Option Nat × TSx) → WX
  | [] => Wout
  | (c, none, ts) :: r => fun cls d σ H => ∃ b, PySem.W.exmOne K cls c = some b ∧ (b = true → ∀ a, H a = none → ts a cls d D σ H) ∧ (b = false → wMix K Wout D r cls d σ H)
  | (c, some i, ts) :: r => fun cls d σ H => ∃ b, PySem.W.exmOne K cls c = some b ∧
      (b = true → ∀ a, H a = none → ts a cls d { nx := fun σ' H' => D.nx (σ'.set i none) H', rt := D.rt, bk := fun σ' H' => D.bk (σ'.set i none) H', ct := fun σ' H' => D.ct (σ'.set i none) H' } (σ.set i (some (.ref a))) H) ∧ (b = false → wMix K Wout D r cls d σ H)
inductive HdsMx (X : Cx) : List ExceptHandler → List (Value × Option Nat × TSx) → Prop
  | nil : HdsMx X [] []
  | one {x : Str} {c : Value} {ts : TSx} {b₀ : Stmt} {suite : List Stmt} {np pos' : Pos} {hds : List ExceptHandler} {l : List (Value × Option Nat × TSx)} (hc : Names X x c)
      (hsu : ∀ (a : Addr) (oe : Obj) (cls : Value) (d : Option Addr) (pn : List (Addr × Obj)), Zc cls d oe → (∃ vs, oe.data = .fields vs) → PSs (X.suite a ((a, oe) :: pn)) (b₀ :: suite) (ts a cls d)) (r : HdsMx X hds l) :
      HdsMx X (.ExceptHandler (some (.Name x np)) none (b₀ :: suite) pos' :: hds) ((c, none, ts) :: l)
  | as {x n : Str} {i : Nat} {c : Value} {ts : TSx} {b₀ : Stmt} {suite : List Stmt} {np pos' : Pos} {hds : List ExceptHandler} {l : List (Value × Option Nat × TSx)} (hc : Names X x c) (hi : X.N[i]? = some n) (hln : X.env.kindOf n = some .local)
      (hsu : ∀ (a : Addr) (oe : Obj) (cls : Value) (d : Option Addr) (pn : List (Addr × Obj)), Zc cls d oe → (∃ vs, oe.data = .fields vs) → PSs (X.suite a ((a, oe) :: pn)) (b₀ :: suite) (ts a cls d)) (r : HdsMx X hds l) :
      HdsMx X (.ExceptHandler (some (.Name x np)) (some n) (b₀ :: suite) pos' :: hds) ((c, some i, ts) :: l)
section
variable {X : Cx} {body : List Stmt} {h₀ : ExceptHandler} {hds : List ExceptHandler} {l : List (Value × Option Nat × TSx)} {pos : Pos} {tb : WX → TS} {Wout : WX}
theorem ps_try_mix (hs : X.stack = X.env :: X.outer) (hf : X.env.frame = some X.env.locals) (hN : X.N.Nodup) (tk : Takes X Wout)
    (hb : ∀ (W : WX) (pn : List (Addr × Obj)) (xe : Value → Shared → Prop), Takes (X.tr pn xe) W → PassesOwn (model X.prog X.w) X.A X.env xe → PSs (X.tr pn xe) body (tb W))
    (hh : HdsMx X (h₀ :: hds) l) : PS X (.Try body (h₀ :: hds) [] [] pos) (fun D σ H => tb (wMix X.K Wout D l) D σ H) := by
  refine ⟨fun pins s σ H D I h => ?_⟩
  have ok := I.ok
  have hfr : X.A.frames = some (X.env :: X.outer) := by rw [ok.frames, hs]
  refine wpAny_Try_except ?_
  refine wpAny_mono ((hb (wMix X.K Wout D l) (X.pn ++ pins) (fun e s₁ => wpAny (model X.prog X.w) X.A (noteFrame e X.env) (fun _ s₂ => wpAny (model X.prog X.w) X.A (setFlight e none) (fun _ s₃ =>
    wpAny (model X.prog X.w) X.A (handleBy e X.env (h₀ :: hds)) (SP X pins D) X.xe s₃) X.xe s₂) X.xe s₁) (fun u s' xx => ?_) PassesOwn.looking).run [] s σ H D (I.toTry _) h) (fun f s1 hsp => ?_) (fun e s1 he => he)
  · -- the catch
    obtain ⟨a, B, sI, pins', σ', H', cls, d, rfl, J', nb, up, sky, na, os, ag, w⟩ := xx
    have J : Inv X pins σ' H' sI := J'.ofTry ok
    have sky' : Sky B (X.env :: X.outer) a (Zc cls d) X.env.locals s'.heap := by rw [← hs]; exact sky
    show wpAny (model X.prog X.w) X.A (noteFrame (.ref a) X.env) _ _ _
    refine Sky.land Zc.steady hfr hf sky' fun h3 fl3 up3 => ?_
    have J3 : Inv X pins σ' H' { s' with heap := h3 } := J.landed nb fl3.1 (up.trans up3) os ag
    obtain ⟨oe3, vs3, he3, hz3, hd3⟩ := fl3.there
    have notFr : ∀ {h : Heap} {o : Obj} {vs : Array Value}, h.FunFrames B (X.env :: X.outer) → h.get? a = some o → o.data = .fields vs → a ∉ frs (X.env :: X.outer) := fun {h o vs} ff e dd hm => by
      obtain ⟨_, o', e', hnf⟩ := ff.mem hm
      rw [e] at e'; cases e'
      exact hnf _ dd
    have nfr := notFr fl3.2.2.1 he3 hd3
    have nL : a ≠ X.env.locals := fun z => nfr (List.mem_filterMap.mpr ⟨X.env, List.mem_cons_self, by rw [hf, z]⟩)
    have nF : a ∉ X.fs := fun hm => by
      obtain ⟨e, he, q⟩ := List.mem_filterMap.mp hm
      exact nfr (List.mem_filterMap.mpr ⟨e, List.mem_cons_of_mem _ he, q⟩)
    have S3 := J3.suite he3 hd3 na nL nF
    have tests : ∀ {x : Str} {c : Value} {np : Pos}, Names X x c → ∀ {Q : Value → Shared → Prop} {E : Value → Shared → Prop}, Q c { s' with heap := h3 } → wpAny (model X.prog X.w) (X.A.mark (some (.ref a))) (eval (.Name x np) X.env) Q E { s' with heap := h3 } := fun {x c np} hc {Q E} q => by
      obtain ⟨hg, hdbg, hm | ⟨hm, hv, hnn⟩⟩ := hc
      · exact ld_glob (X := X.suite a ((a, oe3) :: (X.pn ++ pins))) S3 hg hm q hdbg
      · exact ld_blt (X := X.suite a ((a, oe3) :: (X.pn ++ pins))) S3 hg hm hv q hnn hdbg
    have LT : PySem.W.Looks (model X.prog X.w) h3 (typeOf (.ref a)) cls := fun A Q E s k q => wpAny_typeOf_ref (k _ _ he3) (by rw [hz3.1]; exact q)
    have go : ∀ {hds' : List ExceptHandler} {l' : List (Value × Option Nat × TSx)}, HdsMx X hds' l' → wMix X.K Wout D l' cls d σ' H' →
        wpAny (model X.prog X.w) X.A (handleBy (.ref a) X.env hds') (SP X pins D) X.xe { s' with heap := h3 } := by
      intro hds' l' hk
      induction hk with
      | nil =>
        intro w
        refine wpAny_handleBy_nil ?_
        obtain ⟨k1, k2, k3, oe, vs, T, oT, ts', he, hz, hd, h1, hr⟩ := id fl3
        unfold PySem.passOn
        refine wpAny_bind (wpAny_field he hd h1 ?_)
        rw [if_neg (show ¬ ((Value.ref T == Value.none) = true) from by simp)]
        have fin : wpAny (model X.prog X.w) X.A (setFlight (.ref a) X.env.frame) (fun _ s4 => wpAny (model X.prog X.w) X.A (throw (.ref a) : Sem Flow) (SP X pins D) X.xe s4) X.xe { s' with heap := h3 } := by
          rw [hf]
          refine HandSPX.setFlight_upZ fl3 fun h4 hh4 up4 => wpAny_throw (tk _ _ ?_)
          exact ⟨a, B, sI, pins, σ', H', cls, d, rfl, J, nb, (up.trans up3).trans up4, .inr (.inr (by rw [hs]; exact hh4)), na, os, ag, w⟩
        first
          | exact wpAny_bind (wpAny_pure (wpAny_bind fin))
          | exact wpAny_bind fin
      | @one x c ts b₀ suite np pos' hds2 l2 hc hsu r ih =>
        intro w
        obtain ⟨b, hb1, hyes, hno⟩ := w
        refine wpAny_handleBy_cons (codeAny_handlers_test ?_) (by intro q; cases q)
        have LM := PySem.W.exm_one (M := model X.prog X.w) (J3.kIn) LT hb1
        refine tests hc (LM.here ?_)
        cases b with
        | true =>
          refine codeAny_handlers_suite ?_
          refine HandSPX.lands_againZ fl3 fun h4 fl4 up4 => ?_
          have J4 : Inv X pins σ' H' { s' with heap := h4 } := J.landed nb fl4.1 ((up.trans up3).trans up4) os ag
          obtain ⟨oe4, vs4, he4, hz4, hd4⟩ := fl4.there
          have S4 := J4.suite he4 hd4 na nL nF
          refine wpAny_mono ((hsu a oe4 cls d (X.pn ++ pins) hz4 ⟨_, hd4⟩).run [] _ _ H' _ S4 (hyes rfl a na)) (fun f s6 hsp => ?_) (fun _ _ z => False.elim z)
          cases f with
          | next =>
            obtain ⟨σ6, H6, S6, q6⟩ := hsp
            exact ⟨_, _, S6.unsuite ok, q6⟩
          | brk =>
            obtain ⟨σ6, H6, S6, q6⟩ := hsp
            exact ⟨_, _, S6.unsuite ok, q6⟩
          | cont =>
            obtain ⟨σ6, H6, S6, q6⟩ := hsp
            exact ⟨_, _, S6.unsuite ok, q6⟩
          | ret u =>
            obtain ⟨v6, σ6, H6, S6, r6, q6⟩ := hsp
            exact ⟨_, _, _, S6.unsuite ok, r6, q6⟩
        | false =>
          show wpAny _ X.A (handleBy (.ref a) X.env hds2) _ _ _
          exact ih (hno rfl)
      | @as x n i c ts b₀ suite np pos' hds2 l2 hc hi hln hsu r ih =>
        intro w
        obtain ⟨b, hb1, hyes, hno⟩ := w
        have hloc : Loc X.env.scope n := .inl hln
        refine wpAny_handleBy_cons (codeAny_handlers_test ?_) (by intro q; cases q)
        have LM := PySem.W.exm_one (M := model X.prog X.w) (J3.kIn) LT hb1
        refine tests hc (LM.here ?_)
        cases b with
        | true =>
          refine codeAny_handlers_suite_as ?_
          refine HandSPX.lands_againZ fl3 fun h4 fl4 up4 => ?_
          have J4 : Inv X pins σ' H' { s' with heap := h4 } := J.landed nb fl4.1 ((up.trans up3).trans up4) os ag
          obtain ⟨oe4, vs4, he4, hz4, hd4⟩ := fl4.there
          have S4 := J4.suite he4 hd4 na nL nF
          refine store_ok (X := X.suite a ((a, oe4) :: (X.pn ++ pins))) (v := .ref a) S4 hN hi hloc rfl (fun s5 S5 => ?_) (.inr hln)
          refine wpAny_mono ((hsu a oe4 cls d (X.pn ++ pins) hz4 ⟨_, hd4⟩).run [] s5 _ H' _ S5 (hyes rfl a na)) (fun f s6 hsp => ?_) (fun _ _ z => False.elim z)
          have end_ : ∀ {σ6 : L2.St} {H6 : Hp} {Q : Shared → Prop}, Inv (X.suite a ((a, oe4) :: (X.pn ++ pins))) [] σ6 H6 s6 → (∀ s7, Inv X pins (σ6.set i none) H6 s7 → Q s7) →
              wpAny (model X.prog X.w) X.A (do bindName X.env n .none; unbindBehindTheSuite X.env n pos') (fun _ s7 => Q s7) X.xe s6 := fun {σ6 H6 Q} S6 hq => gone_ok (S6.unsuite ok) hN hi hln hq
          cases f with
          | next =>
            obtain ⟨σ6, H6, S6, q6⟩ := hsp
            exact end_ S6 fun s7 J7 => ⟨_, _, J7, q6⟩
          | brk =>
            obtain ⟨σ6, H6, S6, q6⟩ := hsp
            exact end_ S6 fun s7 J7 => ⟨_, _, J7, q6⟩
          | cont =>
            obtain ⟨σ6, H6, S6, q6⟩ := hsp
            exact end_ S6 fun s7 J7 => ⟨_, _, J7, q6⟩
          | ret u =>
            obtain ⟨v6, σ6, H6, S6, r6, q6⟩ := hsp
            exact end_ S6 fun s7 J7 => ⟨_, _, _, J7, r6, q6⟩
        | false =>
          show wpAny _ X.A (handleBy (.ref a) X.env hds2) _ _ _
          exact ih (hno rfl)
    exact go hh w
  · cases f with
    | next =>
      obtain ⟨σ', H', J', q⟩ := hsp
      exact wpAny_execs_nil ⟨σ', H', J'.ofTry ok, q⟩
    | brk =>
      obtain ⟨σ', H', J', q⟩ := hsp
      exact ⟨σ', H', J'.ofTry ok, q⟩
    | cont =>
      obtain ⟨σ', H', J', q⟩ := hsp
      exact ⟨σ', H', J'.ofTry ok, q⟩
    | ret u =>
      obtain ⟨v, σ', H', J', r, q⟩ := hsp
      exact ⟨v, σ', H', J'.ofTry ok, r, q⟩
end
end KW
end
section
set_option Elab.async false
set_option linter.all false
set_option maxRecDepth 100000
set_option maxHeartbeats 4000000
/-! Rules that the layer lacks: len by an own __len__, != by an own __eq__. -/
namespace KW
open PySem PySem.Spec PyProof.Rows L2
section
variable {X : Cx} {k j : Nat} {C : Addr} {sp : Sp}
/-- len(o), o an instance with an own __len__ -/
def rLenO (C : Addr) (sp : Sp) : List V → Hp → VK → Prop := fun xs H Q => ∃ a dx fs, xs = [.ref a] ∧ H a = some (.ins C dx fs) ∧ sp [.ref a] H (fun v H' => ∃ n : Int, v = .int n ∧ (0 ≤ n ∧ n < 2 ^ 63) ∧ Q (.int n) H') C8.E0
theorem call_lenO (c : C8.Met X.prog X.w X.K X.mg X.base k C "__len__" sp []) (hr : Room j X.A) (hk : k + 1 ≤ j) : CallR X (.builtin "len") (rLenO C sp) := by
  intro pins s σ H xs us Q I r h
  obtain ⟨a, dx, fs, rfl, ha, h⟩ := h
  obtain ⟨u, rfl, ru⟩ := vals1 r
  cases ru
  obtain ⟨f, fd, ps, ds, hc, hm, F, b, d⟩ := c.ex
  cases d
  obtain ⟨mA, J, _⟩ := ins_get I.hok ha
  obtain ⟨od, J, _⟩ := J.look
  obtain ⟨m, hF⟩ := I.fr
  refine PySem.W.len_K hF I.ok.mod.kin J hm.at_ hm.fn ?_
  have hl := F.len _ _ _ _ h
  have e0 : Env0 X.prog X.w X.K X.mg X.base X.A.in1 X.stack s H := by
    have e := I.env0
    exact ⟨e.frames, e.mod, e.bs, e.bsz, e.funs, e.frf, e.hok, e.bare⟩
  have r2 : Vals [V.ref a] [Value.ref a] := .cons rfl .nil
  refine wpAny_call (codeAny_mono (F.run X.A.in1 X.stack s H ⟨[.ref a], []⟩ [.ref a] [.ref a] _ C8.E0 (hr.mono hk).in1 e0 (by
    have := b s [.ref a] I.kIn (by simpa using hl)
    simpa using this) r2 h) fun r s' hq => ?_)
  cases r with
  | error e => exact (show False from hq).elim
  | ok fl =>
    cases fl with
    | ret w =>
      obtain ⟨z, H', I', rz, n, ez, hn, q⟩ := I.after hq
      subst ez
      obtain ⟨t, rfl⟩ := rz
      exact ⟨hn, .int n, H', I'.tok _, ⟨_, rfl⟩, q⟩
    | next => exact False.elim hq
    | brk => exact False.elim hq
    | cont => exact False.elim hq
/-- x != y of two instances that the own == says to be equal -/
def rNeG (D : Eqv) : R2 := fun x y H Q => D x y H ∧ ∀ H', Ext H H' → Q (.bl false) H'
theorem op_neO {CX : CXT} {n : Nat} {f : Addr} {fd : FuncData} {ps : List Str} {R : Addr → Addr → Hp → Prop} {E : XK} (F : FnOk X.prog X.w X.K X.mg X.base CX n f fd ps (spEq R))
    (hs : PySem.W.findIn X.K (.ref C) "__eq__" = some (some (.ref f))) (hn : PySem.W.findIn X.K (.ref C) "__ne__" = some (some (.builtin "object.__ne__"))) (ho : PySem.W.mroIn X.K C (.type "object") = some true) (hf : PySem.W.isFn X.K (.ref f) = true) (hb : Binds X.K fd ps []) (hx : Passes CX X E) (hr : Room (n + 1) X.A) :
    OpR X (compareOp .NotEq) (rNeG (DIns C R)) := by
  intro pins s σ H x y v u Q I rx ry hq
  obtain ⟨d, q⟩ := hq
  obtain ⟨a, b, dx, dy, fs, gs, rfl, rfl, ha, hb', hrr⟩ := d
  cases rx
  cases ry
  obtain ⟨mA, J, _⟩ := ins_get I.hok ha
  obtain ⟨mB, J', _⟩ := ins_get I.hok hb'
  obtain ⟨od, J, _⟩ := J.look
  obtain ⟨od', J', _⟩ := J'.look
  have XK := I.kIn
  have sl := PySem.F.cmp_object.ne
  have e0 : Env0 X.prog X.w X.K X.mg X.base X.A.in1 X.stack s H := by
    have e := I.env0
    exact ⟨e.frames, e.mod, e.bs, e.bsz, e.funs, e.frf, e.hok, e.bare⟩
  have hsp : spEq R [.ref a, .ref b] H (fun v H' => v = .bl true ∧ Ext H H') E := ⟨a, b, rfl, hrr, fun H' e => ⟨rfl, e⟩⟩
  have hl := F.len _ _ _ _ hsp
  have r2 : Vals [V.ref a, V.ref b] [Value.ref a, Value.ref b] := .cons rfl (.cons rfl .nil)
  have hcall : wpAny (model X.prog X.w) X.A.in1 (call (.ref f) [.ref a, .ref b]) (fun v s' => v = .bool true ∧ ∃ H', Inv X pins σ H' s' ∧ Ext H H') X.xe s := by
    refine wpAny_call (codeAny_mono (F.run X.A.in1 X.stack s H ⟨[.ref a, .ref b], []⟩ [.ref a, .ref b] [.ref a, .ref b] _ E hr.in1 e0 (by
      have := hb s [.ref a, .ref b] I.kIn (by simpa using hl)
      simpa using this) r2 hsp) fun r s' hq => ?_)
    cases r with
    | error e => exact hx pins σ H s e s' I hq
    | ok fl =>
      cases fl with
      | ret w =>
        obtain ⟨z, H', I', rz, ez, ex⟩ := I.after hq
        subst ez
        cases rz
        exact ⟨rfl, H', I', ex⟩
      | next => exact False.elim hq
      | brk => exact False.elim hq
      | cont => exact False.elim hq
  have hne : wpAny (model X.prog X.w) X.A (call (.builtin "object.__ne__") [.ref a, .ref b]) (fun v s' => v = .bool false ∧ ∃ H', Inv X pins σ H' s' ∧ Ext H H') X.xe s := by
    refine wpAny_call (codeAny_call_builtin sl.plain PySem.F.cmpEntry_ne (PySem.W.check_slot PySem.F.cmpKind_ne PySem.F.cmpSplit_ne (J.type.andThen (PySem.W.looks_mroIn XK ho)) (PySem.F.cmpArgs_ne _ _) ?_))
    unfold Builtin.«object.__ne__»
    refine wpAny_bind (wpAny_of_eq (a := ((Value.ref a : Value), [Value.ref b])) (by first | rfl | (simp only [slotArgs]; rfl)) ?_)
    refine wpAny_bind (wpAny_cRoomFor (by have := hr.un; show X.A.units + 1 < cLine; omega) ?_)
    refine wpAny_bind (m := callSpecialIfBound? (.ref a) (Str.ofString "__eq__") [.ref b]) (PySem.W.ifBound_K XK J hs hf (wpAny_mono hcall (fun r s' hr => ?_) fun _ _ e => e))
    obtain ⟨rfl, H', I', ex⟩ := hr
    refine wpAny_bind (wpAny_truthy_bool ?_)
    exact wpAny_pure ⟨rfl, H', I', ex⟩
  show wpAny (model X.prog X.w) X.A (richCompare .NotEq (.ref a) (.ref b)) (EP X pins σ Q) X.xe s
  unfold richCompare
  simp only [oneThing_ref]
  refine wpAny_holding (wpAny_bind (wpAny_cRoomFor hr.units0 ?_))
  rw [cmpInfo_NotEq]
  dsimp only
  refine wpAny_bind (J.type.here (wpAny_bind (J'.type.here ?_)))
  rw [show (Value.ref C != Value.ref C) = false from by simp]
  simp only [Bool.false_eq_true, if_false]
  refine wpAny_bind (wpAny_pure ?_)
  simp only [Bool.false_eq_true, if_false]
  simp only [tryCompare]
  have fin : ∀ {s' : Shared} {v : Value}, v = .bool false ∧ (∃ H', Inv X pins σ H' s' ∧ Ext H H') → EP X pins σ Q v s' := fun ⟨e, H', I', ex⟩ => by
    subst e
    exact ⟨.bl false, H', I', rfl, q H' ex⟩
  refine wpAny_bind (wpAny_bind (m := callSpecialIfBound? (.ref a) (Str.ofString "__ne__") [.ref b]) ?_)
  simp only [callSpecialIfBound?, bindSpecialIfBound?]
  refine wpAny_holding (wpAny_bind (wpAny_bind (wpAny_bind (J.type.here ((PySem.W.looks_findIn XK hn).here ?_)))))
  simp only [sl.bind]
  refine wpAny_bind (wpAny_askSetting (wpAny_ite ?_))
  have go : ∀ {Q' : Option Value → Shared → Prop}, (∀ s', (∃ H', Inv X pins σ H' s' ∧ Ext H H') → Q' (some (.bool false)) s') → wpAny (model X.prog X.w) X.A (call (.builtin "object.__ne__") ([.ref a] ++ [.ref b]) >>= fun v => pure (some v)) Q' X.xe s := fun {Q'} h =>
    wpAny_bind (wpAny_mono hne (fun v s' h' => by obtain ⟨rfl, h'⟩ := h'; exact wpAny_pure (h s' h')) fun _ _ h' => h')
  have fin2 : ∀ s', (∃ H', Inv X pins σ H' s' ∧ Ext H H') → wpAny (model X.prog X.w) X.A (pure (some (.bool false))) (fun r s' => wpAny (model X.prog X.w) X.A (match r with | some v => pure v | none => pure .none) (EP X pins σ Q) X.xe s') X.xe s' := fun s' h' => wpAny_pure (wpAny_pure (fin ⟨rfl, h'⟩))
  split
  · exact wpAny_bind (wpAny_pure (wpAny_pure (go fun s' h' => wpAny_pure (wpAny_pure (fin ⟨rfl, h'⟩)))))
  · exact wpAny_tryCatch (wpAny_bind (wpAny_pure (wpAny_pure (go fun s' h' => wpAny_pure (wpAny_pure (fin ⟨rfl, h'⟩))))))
end
end KW
end
section
set_option Elab.async false
set_option linter.all false
set_option maxRecDepth 100000
set_option maxHeartbeats 4000000
/-! Rules that the layer lacks: a dict's update by a dict, the keys of a dict within a display, the set of a list of ints. -/
namespace KW
open PySem PySem.Spec PyProof.Rows L2
section
variable {X : Cx}
/-- d.update(e) of two dicts -/
def rUpd : V → List V → Hp → VK → Prop := fun x vs H Q => ∃ (a b : Addr) (kvs more : List (Key × V)), x = .ref a ∧ vs = [.ref b] ∧ a ≠ b ∧ H a = some (.dK kvs) ∧ H b = some (.dK more) ∧ kvs.length + more.length ≤ 1000000 ∧ Q .non (upd H a (.dK (mergeK kvs more)))
theorem mtd_update : MtR X "dict.update" rUpd := by
  intro pins s σ H x vs v us Q I rx rv h
  obtain ⟨a, b, kvs, more, rfl, rfl, hab, ea, eb, hz, q⟩ := h
  obtain rfl : v = Value.ref a := rx
  obtain ⟨u, rfl, ru⟩ := rv.one
  cases ru
  obtain ⟨za, da, va, ra, dda⟩ := dk_of I.hok ea
  obtain ⟨zb, db, vb, rb, ddb⟩ := dk_of I.hok eb
  have hm : (mergeK kvs more).length ≤ sizeLine := Nat.le_trans (length_mergeK more kvs) (sz hz)
  refine call_meetsIn PySem.F.slot_dict_update dda.typeIs PySem.F.entry_dict_update (PySem.F.args_dict_update_2 _ _) (meets_dict_update (mixKind X.prog X.w) a b hab db) ⟨va, vb, dda, ddb, ?_, fun h' dd' _ hs => ?_⟩
  · rw [← ra.length, ← rb.length]; exact sz hz
  · have he : ∃ q, h'.get? a = some q := let ⟨q, _, _, hq, _⟩ := dd'; ⟨q, hq⟩
    exact ⟨.non, _, d_write (t' := s.toks) I (by rw [ea]; exact True.intro) hs he (dk_new hm da (KV.merge rb ra) dd'), rfl, q⟩
variable {o e : Expr} {es : List Expr} {to te : TE} {t : TA} {apos cpos p : Pos}
/-- *d in a display: the keys -/
def tStarD (te : TE) (t : TA) : TA := fun σ H Q => te σ H fun x H1 => ∃ p kvs, x = V.ref p ∧ H1 p = some (.dK kvs) ∧ t σ H1 fun ys H2 => Q ((kvs.map fun kv => kV kv.1) ++ ys) H2
theorem pa_starD (hc : X.calm = true) (he : PE X e te) (hr : PA X es t) (hs : starEach (.Starred e p :: es) X.env = (true, eval e X.env) :: starEach es X.env := by rfl) : PA X (.Starred e p :: es) (tStarD te t) := by
  refine ⟨fun pos pins s σ H Q I h => ?_⟩
  refine PySem.W.items_star (thn (he.run pins s σ H _ I h) fun v s1 ⟨y, H1, I1, ry, a, kvs, ey, hx, q⟩ => ?_) hs
  subst ey
  obtain rfl : v = Value.ref a := ry
  obtain ⟨z, lo, vs, rk, hd⟩ := dk_of I1.hok hx
  obtain ⟨ep, hat⟩ := hd.dictAt
  have hl : kvs.length = vs.length := Paired.length rk
  unfold PySem.W.StarOf notIterableAtAll
  refine wpAny_bind (wpAny_specialOf hd.typeIs PySem.F.slot_dict_iter.lookup (wpAny_pure ⟨rfl, ?_⟩))
  refine PySem.W.kdu_collect (PySem.W.kdl_dict (knd := mixKind X.prog X.w) (kvs := vs) (ep := ep) lo) (I1.ok.hd hc) hat (by rw [← hl]; exact z) fun h' tk acc hkeep hacc => ?_
  have I2 : Inv X pins σ H1 { s1 with heap := h', toks := tk } := I1.kept (t' := tk) hkeep
  have rv : Vals (kvs.map fun kv => kV kv.1) acc.toList := by
    have el : acc.toList.length = acc.size := by simp
    refine vals_of_at (by rw [List.length_map, el, hacc.1, hl]) fun j x w h1 h2 => ?_
    obtain ⟨k, y, hky, hi⟩ := hacc.2 j w (by rw [← Array.getElem?_toList]; exact h2)
    have e1 : (kvs.map (·.1))[j]? = some k := by
      rw [KV.keys rk, List.getElem?_map, hky] <;> rfl
    have e2 : (kvs.map fun kv => kV kv.1)[j]? = some (kV k) := by
      have e3 : (kvs.map fun kv => kV kv.1) = (kvs.map (·.1)).map kV := by rw [List.map_map] <;> rfl
      rw [e3, List.getElem?_map, e1] <;> rfl
    rw [e2] at h1
    cases h1
    exact keyIs_rel hi
  exact thn (hr.run pos pins _ σ H1 _ I2 q) fun ws s3 ⟨vs, H3, I3, r3, q3⟩ => ⟨_ ++ vs, H3, I3, rv.append r3, q3⟩
end
/-! ### set(l) of a list of ints -/
section
variable {P : Program} {w : World} {A : Around} {E : Value → Shared → Prop} {s : Shared}
abbrev newSet (w : World) : Obj := { cls := .type "set", dict := none, data := .set #[] 0 (.fresh 0 0 (!w.params.followText "set-order")) }
/-- set.__init__ of the new set over a list -/
theorem set_init_list {l : Addr} {items : Array Value} (ns : List Int) (hh : A.handled = none) (hl : s.heap.IsList l items) (hit : IntsAre items.toList ns) (hb : ns.length + 1 < scanBound) {R : Fin → Shared → Prop}
    (h : ∀ (h' : Heap) (tk c : Nat), SetR w h' s.heap.objs.size (fun j => decide (j ∈ ns)) c → c ≤ ns.length → (∀ b o, s.heap.get? b = some o → h'.get? b = some o) → R (.done (.ret .none)) { s with heap := h', toks := tk }) :
    wpAny (model P w) A.in1.in1 (Builtin.«set.__init__» ⟨[.ref s.heap.objs.size, .ref l], []⟩) R E { s with heap := s.heap.push (newSet w) } := by
  have hisz : items.size = ns.length := by
    have q := IntsAre.length hit
    rw [Array.length_toList] at q
    exact q
  have hS : (s.heap.push (newSet w)).get? s.heap.objs.size = some (newSet w) := Heap.get?_push_size _ rfl
  obtain ⟨ol, hol, hcl, nl, hdl⟩ := hl
  obtain ⟨ocls, odict, odata, oslots⟩ := ol
  simp only at hcl hdl
  subst hcl
  subst hdl
  have hol' : (s.heap.push (newSet w)).get? l = some { cls := .type "list", dict := odict, data := .seq items nl, slots := oslots } := Heap.get?_push_of_some _ hol
  have hsls := PySem.F.sub_list_set
  have hslf := PySem.F.sub_list_frozenset
  have hne : (Value.type "list" == Value.type "dict") = false := by decide
  have hl1 : (s.heap.push (newSet w)).IsList l items := ⟨_, hol', rfl, nl, rfl⟩
  have hlS : l < s.heap.objs.size := Heap.lt_size hol
  have hneI : l ≠ (s.heap.push (newSet w)).objs.size := by rw [Heap.size_push]; exact Nat.ne_of_lt (Nat.lt_succ_of_lt hlS)
  have hSf : s.heap.objs.size ∉ [(s.heap.push (newSet w)).objs.size, l] := by
    rw [Heap.size_push]; simp only [List.mem_cons, List.mem_singleton, List.not_mem_nil, or_false, not_or]
    exact ⟨Nat.ne_of_lt (Nat.lt_succ_self _), Nat.ne_of_gt hlS⟩
  have hval : ∀ (i : Nat) (v : Value), items[i]? = some v → ∃ k t, ns[i]? = some k ∧ v = .int k t := fun i v hv => by
    have hi : i < ns.length := by rw [← hisz]; exact (Array.getElem?_eq_some_iff.mp hv).1
    obtain ⟨t, e⟩ := IntsAre.int_at hit i v (by rw [Array.getElem?_toList]; exact hv)
    refine ⟨ns[i], t, List.getElem?_eq_getElem hi, ?_⟩
    rw [e, List.getD_eq_getElem?_getD, List.getElem?_eq_getElem hi] <;> rfl
  have hh3 : A.in1.in1.in1.handled = none := by simp [hh]
  unfold Builtin.«set.__init__» noKeywords Builtin.Frozenset.updateFrom
  generalize hPI : pyIter = PI
  wp_walk
  subst hPI
  refine wpAny_pyIter_list hl1 ?_
  refine wpAny_bind (wpAny_runValue ?_)
  refine set_update_ints ((Walks.list hh3 _ l hneI items).toS) s.heap.objs.size hSf ns hisz hb hval (items.size - 0) 0 _ (by omega) (Nat.zero_le _) ⟨⟨_, Heap.get?_push_size _ rfl, rfl, rfl⟩, (hl1.push _)⟩ ⟨0, Nat.le_refl 0, setR_new_at (Heap.get?_push_of_some _ hS)⟩ fun s' c' hm hc' hS' => ?_
  obtain ⟨h', g2, d', tk', os'⟩ := s'
  have eg : g2 = s.gens := hm.gens
  have ed : d' = s.drawn := hm.drawn
  have eo : os' = s.os := hm.os
  subst eg
  subst ed
  subst eo
  rw [hisz] at hc'
  show wpAny _ _ _ _ _ _
  refine wpAny_pure ?_
  show wpAny _ _ (ret Value.none) _ _ _
  refine wpAny_pure (h h' tk' c' hS' hc' fun b o e => ?_)
  have hb0 : b < s.heap.objs.size := Heap.lt_size e
  have hb2 : b ≠ (s.heap.push (newSet w)).objs.size := by rw [Heap.size_push]; exact Nat.ne_of_lt (Nat.lt_succ_of_lt hb0)
  exact hm.heap b o (by simp only [List.mem_cons, List.mem_singleton, List.not_mem_nil, or_false, not_or]; exact ⟨Nat.ne_of_lt hb0, hb2⟩) (Heap.get?_push_of_some _ (Heap.get?_push_of_some _ e))
/-- set(l) -/
theorem call_set_listI {l : Addr} {items : Array Value} (ns : List Int) {Q : Value → Shared → Prop} (hh : A.handled = none) (hl : s.heap.IsList l items) (hit : IntsAre items.toList ns) (hb : ns.length + 1 < scanBound)
    (h : ∀ (h' : Heap) (tk c : Nat), SetR w h' s.heap.objs.size (fun j => decide (j ∈ ns)) c → c ≤ ns.length → (∀ b o, s.heap.get? b = some o → h'.get? b = some o) → Q (.ref s.heap.objs.size) { s with heap := h', toks := tk }) :
    wpAny (model P w) A (call (.type "set") [.ref l]) Q E s := by
  obtain ⟨c, tl, hmro⟩ := PySem.F.called_set.mro
  have hmade := PySem.F.called_set.made
  have hsub := PySem.F.called_set.sub
  refine wpAny_call (codeAny_of_tree ?_)
  show wpAny _ _ (callAny (.type "set") _) _ _ _
  refine wpAny_pure ⟨Code.quiet_builtin _ (by decide +kernel), codeAny_builtin PySem.F.entry_type_call ?_⟩
  rw [Around.under_plain (weight_type_call_type "set" [.ref l] []) rfl]
  have h1 := PySem.F.called_set.notType
  have h2 := PySem.F.called_set.canCreate
  have hct := PySem.F.typeCall_set_1 (.ref l)
  repeat (any_goals (first | assumption | wp_step))
  refine codeAny_mono (code_set_led1 (.ref l) (E := E) (Q₁ := fun obj s₁ => obj = .ref s.heap.objs.size ∧ s₁ = { s with heap := s.heap.push (newSet w) }) ⟨rfl, rfl⟩) fun r s₁ hr => ?_
  cases r with
  | error e => exact hr
  | ok fl =>
    cases fl with
    | ret obj =>
      obtain ⟨rfl, rfl⟩ := hr
      have hS : (s.heap.push (newSet w)).get? s.heap.objs.size = some (newSet w) := Heap.get?_push_size _ rfl
      have hT : Shared.TypeIs { s with heap := s.heap.push (newSet w) } (.ref s.heap.objs.size) "set" := ⟨_, hS, rfl⟩
      have hli := PySem.F.called_set.init.lookup
      have hbi := PySem.F.called_set.init.bind (.ref s.heap.objs.size)
      repeat (any_goals (first | assumption | wp_step))
      refine codeAny_mono (codeAny_call_builtin (R := wants (fun r s₂ => r = .none ∧ ∃ h' tk c, s₂ = { s with heap := h', toks := tk } ∧ SetR w h' s.heap.objs.size (fun j => decide (j ∈ ns)) c ∧ c ≤ ns.length ∧
          (∀ b o, s.heap.get? b = some o → h'.get? b = some o)) E) PySem.F.called_set.init.plain PySem.F.entry_set_init (check_set_init_1 hT ?_)) fun r₂ s₂ hr₂ => ?_
      · exact set_init_list (A := A) ns hh hl hit hb fun h' tk c hS hc hk => ⟨rfl, h', tk, c, rfl, hS, hc, hk⟩
      · cases r₂ with
        | error e => exact hr₂
        | ok fl₂ =>
          cases fl₂ with
          | ret r =>
            obtain ⟨rfl, h', tk, c, rfl, hS', hc', hk'⟩ := hr₂
            repeat (any_goals (first | assumption | wp_step))
            exact h _ _ _ hS' hc' hk'
          | _ => exact hr₂.elim
    | _ => exact hr.elim
end
section
variable {X : Cx}
def rSetOf (K : PySem.W.Frag) (w : World) : List V → Hp → VK → Prop := fun vs H Q => ∃ (a : Addr) (ns : List Int), vs = [.ref a] ∧ SqL K H a (ns.map V.int) ∧ ns.length ≤ 100 ∧
  ∀ c p, c ≤ ns.length → H p = none → Q (.ref p) (upd H p (SetO w p (fun j => decide (j ∈ ns)) c))
theorem cr_setOf (hc : X.calm = true) : CallR X (.type "set") (rSetOf X.K X.w) := by
  intro pins s σ H vs us Q I r h
  obtain ⟨a, ns, rfl, hs, hz, q⟩ := h
  rw [Vals.ref1 r]
  obtain ⟨its, rv, pl, hlen⟩ := I.list hs
  have hi := ints_of_vals rv
  refine call_set_listI (ns := ns) (I.ok.hd hc) pl.isList (by simpa using hi) (by unfold scanBound; omega) fun h' tk c R hcn hk => ?_
  exact ⟨.ref s.heap.objs.size, upd H s.heap.objs.size (SetO X.w s.heap.objs.size (fun j => decide (j ∈ ns)) c), I.laid (t' := tk) hk (Nat.le_refl _) (setO_new R), rfl, q c _ hcn (I.hok.fresh (Nat.le_refl _))⟩
end
end KW
end
section
set_option Elab.async false
set_option linter.all false
set_option maxRecDepth 100000
set_option maxHeartbeats 4000000
/-! dict(zip(keys, values)) -/
namespace KW
open PySem PySem.Spec PyProof.Rows L2
theorem kv_zip : ∀ (ks : List Key) {ys : List V} {us : List Value}, Vals ys us → KV (ks.zip ys) (ks.zip us)
  | [], _, _, _ => by simp [KV]; exact .nil
  | k :: ks, _, _, .nil => by simp [KV]; exact .nil
  | k :: ks, _, _, .cons r t => .cons ⟨rfl, r⟩ (kv_zip ks t)
section
variable {X : Cx}
def tDictZip (K : PySem.W.Frag) (ta : TA) : TE := fun σ H Q => ta σ H fun vs H1 => ∃ (a b : Addr) (ks : List Key) (ys : List V), vs = [.ref a, .ref b] ∧ SqL K H1 a (ks.map kV) ∧ SqL K H1 b ys ∧ ks.length = ys.length ∧ ks.length ≤ 1000000 ∧
  ∀ p, H1 p = none → Q (.ref p) (upd H1 p (.dK (mergeK [] (ks.zip ys))))
theorem pe_dictZip {e e2 : Expr} {ta : TA} {p p2 q pos : Pos} (hc : X.calm = true) (hg : Gl X "dict") (hm : X.mg "dict" = none) (hg2 : Gl X "zip") (hm2 : X.mg "zip" = none) (ha : PA X [e, e2] ta)
    (hs : starEach [e, e2] X.env = (false, eval e X.env) :: starEach [e2] X.env := by rfl) (hpl : (backTo q (starEach [e2] X.env)).any (·.1) = false := by rfl)
    (na : starEach [.Call (.Name "zip" p2) [e, e2] [] q] X.env = (false, eval (.Call (.Name "zip" p2) [e, e2] [] q) X.env) :: starEach [] X.env := by rfl) :
    PE X (.Call (.Name "dict" p) [.Call (.Name "zip" p2) [e, e2] [] q] [] pos) (tDictZip X.K ta) := by
  refine ⟨fun pins s σ H Q I h => ?_⟩
  refine Call_ (ld_blt I hg hm (by decide +kernel : bootBuiltins "dict" = some (.type "dict")) ?_)
  refine PyProof.Rows.callWith_type1 (PyProof.Rows.args_cons ?_ na) na rfl
  refine Call_ (ld_blt I hg2 hm2 PyProof.Rows.boot_zip (PyProof.Rows.callWith_type1 (thn (ha.run q pins s σ H _ I h) fun us s1 ⟨vs, H1, I1, r1, q1⟩ => ?_) hs hpl))
  obtain ⟨a, b, ks, ys, ex, hqx, hqy, hl, hz, q1⟩ := q1
  subst ex
  cases r1 with
  | cons r rr =>
    cases rr with
    | cons r' rr =>
      cases rr
      cases r
      cases r'
      obtain ⟨its, rv, p1, _⟩ := I1.list hqx
      obtain ⟨its2, rv2, p2', _⟩ := I1.list hqy
      refine call_zip_2 p1.isList p2'.isList fun h' hz' hTI hTO h1 h2 hsz hk => ?_
      refine PyProof.Rows.args_nil ?_
      have I2 : Inv X pins σ H1 { s1 with heap := h' } := I1.kept (t' := s1.toks) hk
      have l1 : its.toArray.size = ks.length := by rw [List.size_toArray, ← rv.length, List.length_map]
      have l2 : its2.toArray.size = ks.length := by rw [List.size_toArray, ← rv2.length, hl]
      have hmin : min its.toArray.size its2.toArray.size = ks.length := by rw [l1, l2, Nat.min_self]
      have P := PySem.PairArg.zip (prog := X.prog) (w := X.w) (s1.heap.objs.size + 4) (s1.heap.objs.size + 2) (s1.heap.objs.size + 3) s1.heap.objs.size (s1.heap.objs.size + 1) a b (PySem.W.ktu_apart s1.heap.objs.size a b p1.lt p2'.lt) its.toArray its2.toArray
      rw [hmin] at P
      have kl : ks.length = its2.length := by rw [← rv2.length, hl]
      refine PySem.call_dict_pairs (knd := mixKind X.prog X.w) (kvs := ks.zip its2) P (I1.ok.hd hc) ⟨hz', hTI, ⟨_, _, hTO⟩, h1, h2, p1.isList.at fun o e => hk _ o e, p2'.isList.at fun o e => hk _ o e⟩ ⟨?_, fun i key v hr => ?_⟩ (sz hz) fun h2 tk hd hkp => ?_
      · rw [List.length_zip, ← kl, Nat.min_self]
      · obtain ⟨e1, e2⟩ := hr
        have hi : i < ks.length := by rw [← l1]; exact (Array.getElem?_eq_some_iff.mp e1).1
        refine ⟨ks[i], ?_, ?_⟩
        · have e2' : its2[i]? = some v := by rw [← Array.getElem?_toList] at e2; exact e2
          rw [List.getElem?_zip_eq_some]
          exact ⟨List.getElem?_eq_getElem hi, e2'⟩
        · have e1' : its[i]? = some key := by rw [← Array.getElem?_toList] at e1; exact e1
          have ek : (ks.map kV)[i]? = some (kV ks[i]) := by rw [List.getElem?_map, List.getElem?_eq_getElem hi]; rfl
          obtain ⟨u, hu, ru⟩ := rv.get ek
          rw [hu] at e1'
          cases e1'
          exact kV_is ru
      · have hk2 : ∀ b o, s1.heap.get? b = some o → h2.get? b = some o := fun b o e => hkp b o (fun hb => by
          have hlt : b < s1.heap.objs.size := Heap.lt_size e
          have hle : s1.heap.objs.size ≤ b := by
            have e' : b = s1.heap.objs.size + 4 ∨ b = s1.heap.objs.size + 3 ∨ b = s1.heap.objs.size ∨ b = s1.heap.objs.size + 1 := by simpa using hb
            rcases e' with z | z | z | z
            · rw [z]; exact Nat.le_add_right _ _
            · rw [z]; exact Nat.le_add_right _ _
            · rw [z]; exact Nat.le_refl _
            · rw [z]; exact Nat.le_add_right _ _
          exact Nat.lt_irrefl _ (Nat.lt_of_lt_of_le hlt hle)) (hk b o e)
        have hlen : (mergeK [] (ks.zip ys)).length ≤ sizeLine := by
          refine Nat.le_trans (length_mergeK _ _) ?_
          rw [List.length_zip, List.length_nil, Nat.zero_add]
          exact sz (Nat.le_trans (Nat.min_le_left _ _) hz)
        have rel : KV (ks.zip ys) (ks.zip its2) := kv_zip ks rv2
        have hbig : s1.heap.objs.size ≤ h'.objs.size := by rw [hsz]; exact Nat.le_add_right _ _
        have hn := I1.hok.fresh hbig
        have hm' : (h'.objs.size == sysModules) = false := beq_eq_false_iff_ne.mpr (Nat.ne_of_gt (Nat.lt_of_lt_of_le I1.big hbig))
        exact ⟨.ref h'.objs.size, upd H1 h'.objs.size (.dK (mergeK [] (ks.zip ys))), I1.laid (t' := tk) hk2 hbig (show ObjOk X.prog X.w _ _ _ (.dK _) from ⟨hlen, hm', _, KV.merge rel .nil, hd⟩), rfl, q1 _ hn⟩
end
end KW
end
section
set_option Elab.async false
set_option linter.all false
set_option maxRecDepth 100000
set_option maxHeartbeats 4000000
/-! {k: v for t0 in i0 for t1 in i1}: a dict comprehension of two clauses, without tests. The proof goes the way of the layer's rules for one clause and for a list of two. -/
namespace KW
open PySem PySem.Spec PyProof.Rows L2
abbrev two (kx vx t0 i0 t1 i1 : Expr) (scope : Scope) (pos : Pos) : Expr := .DictComp kx vx [⟨t0, i0, [], 0⟩, ⟨t1, i1, [], 0⟩] scope pos
theorem turn2_out (kx vx t0 i0 t1 i1 : Expr) (scope : Scope) (pos : Pos) (it acc : Value) (env : Env) :
    compTurn (two kx vx t0 i0 t1 i1 scope pos) 0 it acc env = (do
      standAt i0.pos
      match ← pyNext it with
      | none => pure (.done .next)
      | some v =>
        letOwnedTupleGo t0 it v
        assign t0 env v
        let x ← eval i1 env
        standAt i1.pos
        let x ← foldedSetIterable i1 env x
        let _ ← runOwn (.compStart (two kx vx t0 i0 t1 i1 scope pos) 1 (← holding [x] (pyIter x)) acc env) env
        again (.compLoop (two kx vx t0 i0 t1 i1 scope pos) 0 it acc env)) := by rfl
theorem turn2_in (kx vx t0 i0 t1 i1 : Expr) (scope : Scope) (pos : Pos) (it : Value) (D : Addr) (env : Env) :
    compTurn (two kx vx t0 i0 t1 i1 scope pos) 1 it (.ref D) env = (do
      standAt i1.pos
      match ← pyNext it with
      | none => pure (.done .next)
      | some v =>
        letOwnedTupleGo t1 it v
        assign t1 env v
        (do
            let kv ← eval kx env
            let vv ← holding [kv] (eval vx env)
            standAt { kx.pos with endLine := vx.pos.endLine, endCol := vx.pos.endCol }
            holding [kv, vv] (dictSet D kv vv))
        again (.compLoop (two kx vx t0 i0 t1 i1 scope pos) 1 it (.ref D) env)) := by rfl
section
variable {prog : Program} {w : World} {A : Around} {R : Result → Shared → Prop} {s : Shared} {kx vx t0 i0 t1 i1 : Expr} {scope : Scope} {pos : Pos} {it acc : Value} {D : Addr} {env : Env}
theorem loop2_out (hs : ∀ x, foldedSetIterable i1 env x = pure x) (I : Nat → Shared → Prop)
    (turn : ∀ n s, I n s → wpAny (model prog w) A (pyNext it) (fun r s₁ => match r with
      | none => R (.ok .next) s₁
      | some v => wpAny (model prog w) A (letOwnedTupleGo t0 it v) (fun _ s₁' => wpAny (model prog w) A (assign t0 env v) (fun _ s₃ =>
            wpAny (model prog w) A (eval i1 env) (fun x s₄ => wpAny (model prog w) A (pyIter x) (fun it1 s₅ =>
              codeAny (model prog w) A (.compStart (two kx vx t0 i0 t1 i1 scope pos) 1 it1 acc env) (fun r s' => match r with
                | .ok _ => ∃ m, m < n ∧ I m s'
                | .error _ => False) s₅) (notedBy (model prog w) A env fun e s' => R (.error e) s') s₄) (notedBy (model prog w) A env fun e s' => R (.error e) s') s₃) (notedBy (model prog w) A env fun e s' => R (.error e) s') s₁') (notedBy (model prog w) A env fun e s' => R (.error e) s') s₁) (notedBy (model prog w) A env fun e s' => R (.error e) s') s)
    (n : Nat) (h : I n s) : codeAny (model prog w) A (.compLoop (two kx vx t0 i0 t1 i1 scope pos) 0 it acc env) R s := by
  refine codeAny_loop rfl I (fun n s hI => ?_) n h
  show wpAny _ A ((compTurn (two kx vx t0 i0 t1 i1 scope pos) 0 it acc env).onRaise (fun x => do noteFrame x env; theTreesLotGoes x)) _ _ s
  refine wpAny_noted ?_
  rw [turn2_out]
  refine wpAny_bind (wpAny_standAt (wpAny_bind (wpAny_mono (turn n s hI) (fun r s₁ h₁ => ?_) fun _ _ h' => h')))
  cases r with
  | none => exact wpAny_pure h₁
  | some v =>
    refine wpAny_bind (wpAny_mono h₁ (fun _ s₁' h₁' => ?_) fun _ _ h' => h')
    refine wpAny_bind (wpAny_mono h₁' (fun _ s₃ h₃ => ?_) fun _ _ h' => h')
    refine wpAny_bind (wpAny_mono h₃ (fun x s₄ h₄ => ?_) fun _ _ h' => h')
    refine wpAny_bind (wpAny_standAt (wpAny_bind (wpAny_of_eq (hs x) (wpAny_bind (wpAny_holding (wpAny_mono h₄ (fun it1 s₅ h₅ => ?_) fun _ _ h' => h'))))))
    refine wpAny_bind (wpAny_runOwn ?_)
    rw [Around.mark_none]
    refine codeAny_mono h₅ fun r s' hr => ?_
    cases r with
    | ok f =>
      first
        | exact wpAny_pure ⟨rfl, hr⟩
        | exact wpAny_bind (wpAny_pure (wpAny_pure ⟨rfl, hr⟩))
    | error e => exact hr.elim
theorem loop2_in (I : Nat → Shared → Prop)
    (turn : ∀ n s, I n s → wpAny (model prog w) A (pyNext it) (fun r s₁ => match r with
      | none => R (.ok .next) s₁
      | some v => wpAny (model prog w) A (letOwnedTupleGo t1 it v) (fun _ s₁' => wpAny (model prog w) A (assign t1 env v) (fun _ s₃ =>
            wpAny (model prog w) A (eval kx env) (fun kv s₄ => wpAny (model prog w) A (eval vx env) (fun vv s₅ =>
              wpAny (model prog w) A (dictSet D kv vv) (fun _ s₆ => ∃ m, m < n ∧ I m s₆) (notedBy (model prog w) A env fun e s' => R (.error e) s') s₅) (notedBy (model prog w) A env fun e s' => R (.error e) s') s₄) (notedBy (model prog w) A env fun e s' => R (.error e) s') s₃)
            (notedBy (model prog w) A env fun e s' => R (.error e) s') s₁') (notedBy (model prog w) A env fun e s' => R (.error e) s') s₁) (notedBy (model prog w) A env fun e s' => R (.error e) s') s)
    (n : Nat) (h : I n s) : codeAny (model prog w) A (.compLoop (two kx vx t0 i0 t1 i1 scope pos) 1 it (.ref D) env) R s := by
  refine codeAny_loop rfl I (fun n s hI => ?_) n h
  show wpAny _ A ((compTurn (two kx vx t0 i0 t1 i1 scope pos) 1 it (.ref D) env).onRaise (fun x => do noteFrame x env; theTreesLotGoes x)) _ _ s
  refine wpAny_noted ?_
  rw [turn2_in]
  refine wpAny_bind (wpAny_standAt (wpAny_bind (wpAny_mono (turn n s hI) (fun r s₁ h₁ => ?_) fun _ _ h' => h')))
  cases r with
  | none => exact wpAny_pure h₁
  | some v =>
    refine wpAny_bind (wpAny_mono h₁ (fun _ s₁' h₁' => ?_) fun _ _ h' => h')
    refine wpAny_bind (wpAny_mono h₁' (fun _ s₃ h₃ => ?_) fun _ _ h' => h')
    exact wpAny_bind (wpAny_bind (wpAny_mono h₃ (fun kv s₄ h₄ => wpAny_bind (wpAny_holding (wpAny_mono h₄ (fun vv s₅ h₅ => wpAny_bind (wpAny_standAt (wpAny_holding (wpAny_mono h₅ (fun _ s₆ h₆ => wpAny_pure ⟨rfl, h₆⟩) fun _ _ h' => h')))) fun _ _ h' => h'))) fun _ _ h' => h'))
theorem start2_in (h0 : codeAny (model prog w) A (.compLoop (two kx vx t0 i0 t1 i1 scope pos) 1 it acc env) R s)
    (h : wpAny (model prog w) A (pyIter it) (fun it' s' => codeAny (model prog w) A (.compLoop (two kx vx t0 i0 t1 i1 scope pos) 1 it' acc env) R s')
      (notedBy (model prog w) A env fun x s' => R (.error x) s') s) :
    codeAny (model prog w) A (.compStart (two kx vx t0 i0 t1 i1 scope pos) 1 it acc env) R s := by
  refine codeAny_of_tree ?_
  show wpAny _ _ ((compStart (two kx vx t0 i0 t1 i1 scope pos) 1 it acc env).onRaise (fun x => do noteFrame x env; standAt theWindowsPlace)) _ _ s
  refine wpAny_notedAt ?_
  unfold compStart
  show wpAny _ _ (ask >>= _) _ _ s
  refine wpAny_bind (wpAny_askSetting (wpAny_ite ?_))
  split
  · first
      | exact wpAny_bind (wpAny_pure (wpAny_pure (And.intro rfl h0)))
      | exact wpAny_pure (And.intro rfl h0)
  · first
      | exact wpAny_bind (wpAny_rule (wpAny_bind (wpAny_standAt (wpAny_bind (wpAny_mono h (fun it' s' h' => wpAny_pure (And.intro rfl h')) fun _ _ x => x)))))
      | (refine wpAny_bind (wpAny_rule ?_); show wpAny _ _ (standAt i1.pos >>= _) _ _ s; exact wpAny_bind (wpAny_standAt (wpAny_bind (wpAny_mono h (fun it' s' h' => wpAny_pure (And.intro rfl h')) fun _ _ x => x))))
end
section
variable {X : Cx}
def tDc2 (wi : TI) (g : TG) (wi1 : TI) (g1 : TG) (tk tv : TE) (vs vs1 : List Nat) : TE := fun σ H Q => wi σ H fun J H1 => ∀ D, H1 D = none → ∃ W : Nat → Nat → Hp → Prop, (∃ m, W 0 m (upd H1 D (.dK []))) ∧ ∀ i m H, W i m H →
  (J.stop i H ∧ Q (.ref D) H) ∨ (J.go i H ∧ ∃ Nx : Hp → Prop, (∀ H', Nx H' → ∃ m', m' < m ∧ W (i + 1) m' H') ∧ ∀ x H', J.yld i H x H' → g x (wipe σ vs) H' fun σ2 H2 => wipe σ2 vs = wipe σ vs ∧
    wi1 σ2 H2 fun J1 H4 => ∃ W1 : Nat → Nat → Hp → Prop, (∃ m, W1 0 m H4) ∧ ∀ j k H, W1 j k H →
      (J1.stop j H ∧ Nx H) ∨ (J1.go j H ∧ ∃ Nx1 : Hp → Prop, (∀ H', Nx1 H' → ∃ k', k' < k ∧ W1 (j + 1) k' H') ∧ ∀ x H', J1.yld j H x H' → g1 x (wipe σ2 vs1) H' fun σ3 H5 => wipe σ3 vs1 = wipe σ2 vs1 ∧
        tk σ3 H5 fun y H6 => tv σ3 H6 fun z H7 => ∃ kvs k, y = kV k ∧ H7 D = some (.dK kvs) ∧ kvs.length < sizeLine ∧ Nx1 (upd H7 D (.dK (putK kvs k z)))))
theorem dc2_core {pins : List (Addr × Obj)} {s : Shared} {σ : L2.St} {H : Hp} {Q : VK} {kx vx tg iter tg1 iter1 : Expr} {scope : Scope} {own : List (Str × Nat)} {vs1 : List Nat} {pos pos' : Pos} {wi wi1 : TI} {g g1 : TG} {tk tv : TE} {use : Option (Value → Sem Unit)} {Qf : Value → Shared → Prop}
    (hc : X.calm = true) (hN : X.N.Nodup) (I : Inv X pins σ H s) (hi : PI X tg iter wi) (ok : BlkOk X.N X.env.scope scope own) (hv : ∀ i ∈ vs1, i ∈ own.map (·.2))
    (hg : ∀ (s : Shared) (H : Hp) (C : Addr) (cl : List (Str × Addr)) (fp : List Addr), PG (X.blk s H scope (compEnvC scope cl C X.env) fp) tg g)
    (hk : ∀ (s : Shared) (H : Hp) (C : Addr) (cl : List (Str × Addr)) (fp : List Addr), PE (X.blk s H scope (compEnvC scope cl C X.env) fp) kx tk)
    (he : ∀ (s : Shared) (H : Hp) (C : Addr) (cl : List (Str × Addr)) (fp : List Addr), PE (X.blk s H scope (compEnvC scope cl C X.env) fp) vx tv) (hs : ∀ x, foldedSetIterable iter X.env x = pure x)
    (hi1 : ∀ (s : Shared) (H : Hp) (C : Addr) (cl : List (Str × Addr)) (fp : List Addr), PI (X.blk s H scope (compEnvC scope cl C X.env) fp) tg1 iter1 wi1)
    (hg1 : ∀ (s : Shared) (H : Hp) (C : Addr) (cl : List (Str × Addr)) (fp : List Addr), PG (X.blk s H scope (compEnvC scope cl C X.env) fp) tg1 g1)
    (hs1 : ∀ env x, foldedSetIterable iter1 env x = pure x)
    (h : tDc2 wi g wi1 g1 tk tv (own.map (·.2)) vs1 σ H Q)
    (hRR : ∀ D C s' m H', Inv X pins σ H' s' → Q (.ref D) H' → s'.heap.Ns C m → FpOk X pins H' C → compPost (model X.prog X.w) X.A X.xe use Qf (.ref D) C (.ok .next) s') :
    wpAny (model X.prog X.w) X.A (comprehension (two kx vx tg iter tg1 iter1 scope pos) scope X.env pos' newDict false (eval iter X.env) use) Qf X.xe s := by
  have hfree : ∀ y ∈ scope.names, y.2 = .free → ∃ c, X.env.cells.lookup y.1 = some c := fun y hy e => by
    rcases ok.free y hy e with k | k
    · exact I.ok.has _ (.inl k)
    · exact I.ok.has _ (.inr k)
  refine wpAny_comprehension_free (use := use) rfl hs (closure_ok hfree) ok.kind (fun y hy e => by rw [ok.uniq y hy, e])
    (thn (hi.run pins s σ H _ I h) fun xv s1 hx => thn hx fun itv s2 h2 => ?_)
  obtain ⟨it, fp, tn, J, H2, e, I2, T, st2, f2, q⟩ := h2
  subst e
  refine wpAny_newObj_type (newEnv_comp ?_)
  generalize hD : s2.heap.objs.size = D
  have hDn : H2 D = none := I2.hok.fresh (Nat.le_of_eq hD)
  obtain ⟨W, ⟨m0, w0⟩, turn⟩ := q D hDn
  generalize hs3 : ({ s2 with heap := s2.heap.push { cls := .type "dict", data := .dict #[] } } : Shared) = s3
  have I3 : Inv X pins σ (upd H2 D (.dK [])) s3 := by
    rw [← hs3]
    refine I2.laid (t' := s2.toks) (fun b o e => Heap.get?_push_of_some _ e) (Nat.le_of_eq hD) ?_
    rw [← hD]
    exact dk_empty s2.heap I2.big
  have h3 : s3.heap = s2.heap.push { cls := .type "dict", data := .dict #[] } := by rw [← hs3]
  have szz : ∀ b ∈ fp, b < s2.heap.objs.size := fun b hb => by
    obtain ⟨o, e, _⟩ := T.obj _ _ st2 b hb
    exact Heap.lt_size e
  have f3 : ∀ b ∈ fp, FpOk X pins (upd H2 D (.dK [])) b ∧ b < s3.heap.objs.size := fun b hb => by
    have hlt := szz b hb
    refine ⟨⟨?_, (f2 b hb).2⟩, by rw [h3, Heap.size_push]; exact Nat.lt_succ_of_lt hlt⟩
    rw [upd_ne (by rw [← hD]; exact Nat.ne_of_lt hlt)]
    exact (f2 b hb).1
  have st3 : tn 0 s3.heap := T.keep _ _ _ st2 fun b _ o e => by rw [h3]; exact Heap.get?_push_of_some _ e
  have I4 := block_start I3 ok hN f3
  have pg := hg s3 (upd H2 D (.dK [])) s3.heap.objs.size (cellsFrom (s3.heap.objs.size + 1) scope.names (cloFrom X.env.cells scope.names [])) fp
  have pk := hk s3 (upd H2 D (.dK [])) s3.heap.objs.size (cellsFrom (s3.heap.objs.size + 1) scope.names (cloFrom X.env.cells scope.names [])) fp
  have pe := he s3 (upd H2 D (.dK [])) s3.heap.objs.size (cellsFrom (s3.heap.objs.size + 1) scope.names (cloFrom X.env.cells scope.names [])) fp
  have pi1 := hi1 s3 (upd H2 D (.dK [])) s3.heap.objs.size (cellsFrom (s3.heap.objs.size + 1) scope.names (cloFrom X.env.cells scope.names [])) fp
  have pg1 := hg1 s3 (upd H2 D (.dK [])) s3.heap.objs.size (cellsFrom (s3.heap.objs.size + 1) scope.names (cloFrom X.env.cells scope.names [])) fp
  show codeAny _ _ (.compStart (two kx vx tg iter tg1 iter1 scope pos) 0 (.ref it) (.ref D) (compEnvC scope (cellsFrom (s3.heap.objs.size + 1) scope.names (cloFrom X.env.cells scope.names [])) s3.heap.objs.size X.env)) (compPost (model X.prog X.w) X.A X.xe use Qf (.ref D) s3.heap.objs.size) { s3 with heap := pushCells (s3.heap.push { cls := .type "dict", data := .dict #[] }) scope.names }
  have nfp : ∀ b ∈ fp, (upd H2 D (.dK [])) b = none := fun b hb => (f3 b hb).1.1
  generalize hce : compEnvC scope (cellsFrom (s3.heap.objs.size + 1) scope.names (cloFrom X.env.cells scope.names [])) s3.heap.objs.size X.env = ce at I4 pg pk pe pi1 pg1 ⊢
  have cL : ce.locals = s3.heap.objs.size := by subst hce; rfl
  generalize hH3 : upd H2 D (.dK []) = H3 at I3 I4 pg pk pe pi1 pg1 w0 nfp f3
  generalize hs4 : ({ s3 with heap := pushCells (s3.heap.push { cls := .type "dict", data := .dict #[] }) scope.names } : Shared) = s4 at I4 ⊢
  have st4 : tn 0 s4.heap := T.keep _ _ _ st3 fun b _ o e => by rw [← hs4]; exact pushCells_keeps _ _ _ _ (Heap.get?_push_of_some _ e)
  have stat : ∀ {σ' : L2.St} {H' : Hp} {s' : Shared}, Inv (X.blk s3 H3 scope ce fp) [] σ' H' s' → (∀ b ∈ fp, H' b = none) → ∀ b ∈ fp, FpOk (X.blk s3 H3 scope ce fp) [] H' b := fun {σ' H' s'} I' hn b hb =>
    ⟨hn b hb, (I'.ok.exf b hb).1, I'.ok.exfs b hb, .inl hb, fun x c e => (I'.ok.exf b hb).2 x c e, fun p hp => absurd (show p ∈ ([] : List (Addr × Obj)) ++ [] from hp) (by simp)⟩
  have loop : codeAny (model X.prog X.w) X.A (.compLoop (two kx vx tg iter tg1 iter1 scope pos) 0 (.ref it) (.ref D) ce) (compPost (model X.prog X.w) X.A X.xe use Qf (.ref D) s3.heap.objs.size) s4 := by
    refine loop2_out (hs1 ce) (fun n s' => ∃ i H', Inv (X.blk s3 H3 scope ce fp) [] (wipe σ (own.map (·.2))) H' s' ∧ tn i s'.heap ∧ (∀ b ∈ fp, H' b = none) ∧ W i n H') ?_ m0 ⟨0, H3, I4, st4, nfp, w0⟩
    rintro n s5 ⟨i, H5, I5, st5, n5, w5⟩
    rcases turn i n H5 w5 with ⟨stop, qq⟩ | ⟨go, Nx, hNx, step⟩
    · have td := T.done (X.blk s3 H3 scope ce fp) rfl rfl rfl hc i [] s5 _ H5 (fun _ _ => False) I5 (stat I5 n5) st5 stop
      refine thnF td fun r s6 ⟨hr, I6⟩ => ?_
      subst hr
      have I7 : Inv X pins σ H5 s6 := I3.call' (ch := fp) I6.os I6.base I6.hok I6.bare fun b hb => ⟨(f3 b hb).1.2.2.2.1, (f3 b hb).1.2.1, (f3 b hb).1.2.2.2.2.1, (f3 b hb).1.2.2.2.2.2⟩
      have nC : H5 s3.heap.objs.size = none := by
        have z : H5 ce.locals = none := I6.free
        rw [cL] at z
        exact z
      obtain ⟨m, hn, _⟩ := I6.loc
      have hn : s6.heap.Ns ce.locals m := hn
      rw [cL] at hn
      exact hRR D s3.heap.objs.size s6 m H5 I7 qq hn (I3.fpOk (Nat.le_refl _) nC)
    · have ti := T.item (X.blk s3 H3 scope ce fp) rfl rfl rfl hc i [] s5 _ H5 (fun _ _ => False) I5 (stat I5 n5) st5 go
      refine thnF ti fun r s6 ⟨u, hr, h6⟩ => ?_
      subst hr
      refine thnF h6 fun _ s7 ⟨x, H7, I7, r7, y7, st7, n7⟩ => ?_
      have I7' := I7.pinned (stat I7 n7) (T.obj _ _ st7)
      refine thnF (pg.run _ s7 _ H7 x u _ I7' r7 (step x H7 y7)) fun _ s8 ⟨σ8, H8, I8, hw8, q8⟩ => ?_
      have fin : ∀ {σ9 : L2.St} {s' : Shared} {H' : Hp}, Inv (X.blk s3 H3 scope ce fp) ([] ++ pinsAt fp s7.heap) σ9 H' s' → (wipe σ (own.map (·.2))).length = σ9.length → (∀ (j : Nat) v, (wipe σ (own.map (·.2)))[j]? = some (some v) → σ9[j]? = some (some v)) → Nx H' →
          ∃ m, m < n ∧ ∃ i H', Inv (X.blk s3 H3 scope ce fp) [] (wipe σ (own.map (·.2))) H' s' ∧ tn i s'.heap ∧ (∀ b ∈ fp, H' b = none) ∧ W i m H' := fun {σ9 s' H'} I' hl hk nx => by
        obtain ⟨m', hm, w'⟩ := hNx H' nx
        have pin' : ∀ b ∈ fp, ∀ o, s7.heap.get? b = some o → s'.heap.get? b = some o ∧ H' b = none := fun b hb o e =>
          let z := I'.pin (b, o) (List.mem_append_right _ (List.mem_append_right _ (mem_pinsAt hb e)))
          ⟨z.1, z.2.1⟩
        refine ⟨m', hm, i + 1, H', (I'.unpinned (pins := [])).weak hl hk, T.keep _ _ _ st7 fun b hb o e => (pin' b hb o e).1, fun b hb => ?_, w'⟩
        obtain ⟨o, e, _⟩ := T.obj _ _ st7 b hb
        exact (pin' b hb o e).2
      have hl8 : (wipe σ (own.map (·.2))).length = σ8.length := by rw [← hw8, wipe_length]
      have hk9 : ∀ (j : Nat) v, (wipe σ (own.map (·.2)))[j]? = some (some v) → (wipe σ8 vs1)[j]? = some (some v) := fun j v e => by
        rw [← hw8] at e
        obtain ⟨e1, e2⟩ := wipe_some e
        rw [wipe_out fun z => e2 (hv j z)]
        exact e1
      refine thnF (pi1.run _ s8 σ8 H8 _ I8 q8) fun xv s10 hx => thnF hx fun itv s11 h11 => ?_
      obtain ⟨it1, fp1, tn1, J1, H11, e1, I11, T1, st11, f11, W1, ⟨m1, w1⟩, turn1⟩ := h11
      subst e1
      have stat1 : ∀ {H' : Hp}, (∀ b ∈ fp1, H' b = none) → ∀ b ∈ fp1, FpOk (X.blk s3 H3 scope ce fp) ([] ++ pinsAt fp s7.heap) H' b := fun hn b hb => ⟨hn b hb, (f11 b hb).2⟩
      have loop1 : codeAny (model X.prog X.w) X.A (.compLoop (two kx vx tg iter tg1 iter1 scope pos) 1 (.ref it1) (.ref D) ce)
          (fun r s' => match r with
            | .ok _ => ∃ m, m < n ∧ ∃ i H', Inv (X.blk s3 H3 scope ce fp) [] (wipe σ (own.map (·.2))) H' s' ∧ tn i s'.heap ∧ (∀ b ∈ fp, H' b = none) ∧ W i m H'
            | .error _ => False) s11 := by
        refine loop2_in (fun k s' => ∃ j H', Inv (X.blk s3 H3 scope ce fp) ([] ++ pinsAt fp s7.heap) (wipe σ8 vs1) H' s' ∧ tn1 j s'.heap ∧ (∀ b ∈ fp1, H' b = none) ∧ W1 j k H') ?_ m1 ⟨0, H11, I11.weak (wipe_length _ _) (fun j v e => (wipe_some e).1), st11, fun b hb => (f11 b hb).1, w1⟩
        rintro k s12 ⟨j, H12, I12, st12, n12, w12⟩
        rcases turn1 j k H12 w12 with ⟨stop1, nx1⟩ | ⟨go1, Nx1, hNx1, step1⟩
        · refine thnF (T1.done (X.blk s3 H3 scope ce fp) rfl rfl rfl hc j _ s12 (wipe σ8 vs1) H12 (fun _ _ => False) I12 (stat1 n12) st12 stop1) fun r s13 ⟨hr, I13⟩ => ?_
          subst hr
          exact fin I13 (hl8.trans (wipe_length σ8 vs1).symm) hk9 nx1
        · refine thnF (T1.item (X.blk s3 H3 scope ce fp) rfl rfl rfl hc j _ s12 (wipe σ8 vs1) H12 (fun _ _ => False) I12 (stat1 n12) st12 go1) fun r s13 ⟨u1, hr, h13⟩ => ?_
          subst hr
          refine thnF h13 fun _ s14 ⟨x1, H14, I14, r14, y14, st14, n14⟩ => ?_
          have I14' := I14.pinned (stat1 n14) (T1.obj _ _ st14)
          refine thnF (pg1.run _ s14 (wipe σ8 vs1) H14 x1 u1 _ I14' r14 (step1 x1 H14 y14)) fun _ s15 ⟨σ15, H15, I15, hw15, q15⟩ => ?_
          have fin1 : ∀ {s' : Shared} {H' : Hp}, Inv (X.blk s3 H3 scope ce fp) (([] ++ pinsAt fp s7.heap) ++ pinsAt fp1 s14.heap) σ15 H' s' → Nx1 H' → ∃ m, m < k ∧ ∃ j H', Inv (X.blk s3 H3 scope ce fp) ([] ++ pinsAt fp s7.heap) (wipe σ8 vs1) H' s' ∧ tn1 j s'.heap ∧ (∀ b ∈ fp1, H' b = none) ∧ W1 j m H' := fun {s' H'} I' nx => by
            obtain ⟨m', hm, w'⟩ := hNx1 H' nx
            have pin' : ∀ b ∈ fp1, ∀ o, s14.heap.get? b = some o → s'.heap.get? b = some o ∧ H' b = none := fun b hb o e =>
              let z := I'.pin (b, o) (List.mem_append_right _ (List.mem_append_right _ (mem_pinsAt hb e)))
              ⟨z.1, z.2.1⟩
            refine ⟨m', hm, j + 1, H', I'.unpinned.weak (by rw [← hw15, wipe_length]) (fun j v e => by rw [← hw15] at e; exact (wipe_some e).1), T1.keep _ _ _ st14 fun b hb o e => (pin' b hb o e).1, fun b hb => ?_, w'⟩
            obtain ⟨o, e, _⟩ := T1.obj _ _ st14 b hb
            exact (pin' b hb o e).2
          refine thnF (pk.run _ s15 σ15 H15 _ I15 q15) fun z s16 ⟨yk, H16, I16, r16, q16⟩ => ?_
          refine thnF (pe.run _ s16 σ15 H16 _ I16 q16) fun z2 s17 ⟨yv, H17, I17, r17, kvs, kk, ek, hD17, hz17, nx⟩ => ?_
          subst ek
          exact d_dictSet (X := X.blk s3 H3 scope ce fp) I17 hD17 hz17 r16 r17 fun s18 I18 => fin1 I18 nx
      exact start2_in loop1 (T1.self X.A 0 _ _ _ st11 loop1)
  exact codeAny_compStart_dict loop (T.self X.A 0 _ _ _ st4 loop)
theorem pe_dc2 {kx vx tg iter tg1 iter1 : Expr} {scope : Scope} {own : List (Str × Nat)} {vs1 : List Nat} {pos : Pos} {wi wi1 : TI} {g g1 : TG} {tk tv : TE} (hc : X.calm = true) (hN : X.N.Nodup) (hi : PI X tg iter wi) (ok : BlkOk X.N X.env.scope scope own) (hv : ∀ i ∈ vs1, i ∈ own.map (·.2))
    (hg : ∀ (s : Shared) (H : Hp) (C : Addr) (cl : List (Str × Addr)) (fp : List Addr), PG (X.blk s H scope (compEnvC scope cl C X.env) fp) tg g)
    (hi1 : ∀ (s : Shared) (H : Hp) (C : Addr) (cl : List (Str × Addr)) (fp : List Addr), PI (X.blk s H scope (compEnvC scope cl C X.env) fp) tg1 iter1 wi1)
    (hg1 : ∀ (s : Shared) (H : Hp) (C : Addr) (cl : List (Str × Addr)) (fp : List Addr), PG (X.blk s H scope (compEnvC scope cl C X.env) fp) tg1 g1)
    (hk : ∀ (s : Shared) (H : Hp) (C : Addr) (cl : List (Str × Addr)) (fp : List Addr), PE (X.blk s H scope (compEnvC scope cl C X.env) fp) kx tk)
    (he : ∀ (s : Shared) (H : Hp) (C : Addr) (cl : List (Str × Addr)) (fp : List Addr), PE (X.blk s H scope (compEnvC scope cl C X.env) fp) vx tv) (hs : ∀ x, foldedSetIterable iter X.env x = pure x := by intro _; rfl) (hs1 : ∀ env x, foldedSetIterable iter1 env x = pure x := by intro _ _; rfl) :
    PE X (two kx vx tg iter tg1 iter1 scope pos) (tDc2 wi g wi1 g1 tk tv (own.map (·.2)) vs1) := by
  refine ⟨fun pins s σ H Q I h => ?_⟩
  rw [arm_eval_DictComp]
  refine dc2_core hc hN I hi ok hv hg hk he hs hi1 hg1 hs1 h fun D C s' m H' I' q hn f => ⟨m, hn, fun h'' sb => ?_⟩
  obtain ⟨f0, f1, f2, f3, f4, f5⟩ := f
  exact ⟨.ref D, H', I'.turned (t' := s'.toks) (fun b o hb e => (sb.2 b hb).trans e) f0 f1 f3 f4 f5, rfl, q⟩
end
end KW
end
section
set_option Elab.async false
set_option linter.all false
set_option maxRecDepth 100000
set_option maxHeartbeats 4000000
/-! list.remove by deep equality -/
namespace KW
open PySem PySem.Spec PyProof.Rows L2
section
variable {X : Cx}
/-- l.remove(y): the first one that is equal goes -/
def rRemD (K : PySem.W.Frag) : V → List V → Hp → VK → Prop := fun x xs H Q => ∃ (a : Addr) (vs : List V) (y : V) (d : PyData) (ds : List PyData) (j : Nat) (z : PyData), x = V.ref a ∧ xs = [y] ∧ H a = some (.lst vs) ∧ DpAll K H vs ds ∧ Dp K H y d ∧
  SeqAt.shaped (.list ds) = true ∧ SeqAt.shaped d = true ∧ ds[j]? = some z ∧ PyData.eqv z d = true ∧ (∀ (m : Nat) (z' : PyData), m < j → ds[m]? = some z' → PyData.eqv z' d = false) ∧ Q .non (upd H a (.lst (vs.eraseIdx j)))
theorem mt_removeD (hu : X.A.units + 65 < cLine) : MtR X "list.remove" (rRemD X.K) := by
  intro pins s σ H x xs v us Q I rx rxs h
  obtain ⟨a, vs, y, d, ds, j, z, rfl, rfl, hH, ha, hy, sl, sd, hz, hzj, hno, q⟩ := h
  cases rx
  obtain ⟨uy, rfl, ry⟩ := rxs.one
  obtain ⟨bs, r1⟩ := Dp.reads I d y uy hy ry
  have hxs : PyData.canLayAll0 ds = true := SeqAt.canLay_of_shaped sl
  have hroom : X.A.units + 1 + min (PyData.depthAll ds) d.depth < cLine := room_in_shaped sd hu
  obtain ⟨zl, its, n, rv, hvl, e⟩ := I.lstM hH
  obtain ⟨as, h4⟩ := Dp.readsAll I ds _ its ha rv
  have hn : its.length = ds.length := SeqAt.ReadsAll.length ds its as h4
  have hmap : its.map (SeqAt.readOf s.heap) = ds := SeqAt.readsAll_map ds its as hxs h4
  obtain ⟨hjd, _⟩ := List.getElem?_eq_some_iff.mp hz
  have hjl : j < its.length := by omega
  have hj : j < its.toArray.size := by simpa using hjl
  have at_ : ∀ (m : Nat) (hm : m < its.toArray.size) (z' : PyData), ds[m]? = some z' → SeqAt.readOf s.heap its.toArray[m] = z' := by
    intro m hm z' hz'
    have hml : m < its.length := by simpa using hm
    rw [← hmap, List.getElem?_map, List.getElem?_eq_getElem hml] at hz'
    have e1 : SeqAt.readOf s.heap its[m] = z' := Option.some.inj (show some (SeqAt.readOf s.heap its[m]) = some z' from hz')
    simpa using e1
  refine call_meets PySem.F.slot_list_remove ⟨_, e, rfl⟩ PySem.F.entry_list_remove (PySem.F.args_list_remove_2 _ _)
    (SeqAt.list_removeAt a its.toArray n none #[] uy (fun u => PyData.eqv (SeqAt.readOf s.heap u) d) j hj ?_ ?_ (by rw [List.size_toArray]; omega)) ⟨e, SeqAt.items_eqAt (vs := its.toArray) (show ReadsAll s.heap its.toArray.toList ds as from h4) r1 hxs (SeqAt.canLay_of_shaped sd) hroom, ?_⟩
  · show PyData.eqv (SeqAt.readOf s.heap its.toArray[j]) d = true
    rw [at_ j hj z hz]
    exact hzj
  · intro m hm hmj
    have hmd : m < ds.length := by
      have : m < its.length := by simpa using hm
      omega
    have hz' : ds[m]? = some ds[m] := List.getElem?_eq_getElem hmd
    show PyData.eqv (SeqAt.readOf s.heap its.toArray[m]) d = false
    rw [at_ m hm _ hz']
    exact hno m _ hmj hz'
  · refine ⟨.non, _, I.lset (its' := its.eraseIdx j) (t' := s.toks) hH e ?_ (rv.eraseIdx j) ?_, rfl, q⟩
    · show its.toArray.eraseIdxIfInBounds j = (its.eraseIdx j).toArray
      rw [List.eraseIdxIfInBounds_toArray]
    · have z2 := len_erase vs j
      omega
end
end KW
end
section
set_option Elab.async false
set_option linter.all false
set_option maxRecDepth 100000
set_option maxHeartbeats 4000000
/-! repr of what the law hands about -/
namespace KW
open PySem PySem.Spec PyProof.Rows L2
/-- the texts of repr -/
inductive ReprV (H : Hp) : V → Str → Prop
  | non : ReprV H .non "None"
  | bl (b : Bool) : ReprV H (.bl b) (if b then "True" else "False")
  | int (i : Int) : i.natAbs.log2 < 1920 → ReprV H (.int i) (toString i)
  | str (x : Str) : (reprText x).length ≤ 1000 → ReprV H (.str x) (reprText x)
  | lst {a : Addr} : H a = some (.lst [.int 0]) → ReprV H (.ref a) (PyData.list [.int 0]).shown
theorem ReprV.uniq {H H' : Hp} {x : V} {y z : Str} (h : ReprV H x y) (h' : ReprV H' x z) : y = z := by
  cases h <;> cases h' <;> rfl
theorem ReprV.same {H H' : Hp} {x : V} {y : Str} (s : Same H H') (h : ReprV H x y) : ReprV H' x y := by
  cases h with
  | non => exact .non
  | bl b => exact .bl b
  | int i h => exact .int i h
  | str x h => exact .str x h
  | lst h => exact .lst (s _ _ h)
def rRepr : List V → Hp → VK → Prop := fun xs H Q => ∃ x z, xs = [x] ∧ ReprV H x z ∧ Q (.str z) H
theorem call_repr {X : Cx} (hg : X.A.guards = some []) (hu : X.A.units + 65 < cLine) : CallR X (.builtin "repr") rRepr := by
  intro pins s σ H xs us Q I r h
  obtain ⟨x, z, rfl, hz, q⟩ := h
  obtain ⟨u, rfl, ru⟩ := vals1 r
  cases hz with
  | non =>
    cases ru
    exact PySem.P.repr_of_none ⟨.str _, H, I.tok _, ⟨_, rfl⟩, q⟩
  | bl b =>
    cases ru
    exact PySem.P.repr_of_bool ⟨.str _, H, I.tok _, ⟨_, rfl⟩, q⟩
  | int i hi =>
    obtain ⟨t, rfl⟩ := ru
    exact PySem.P.repr_of_int hi ⟨.str _, H, I.tok _, ⟨_, rfl⟩, q⟩
  | str x hx =>
    obtain ⟨t, rfl⟩ := ru
    exact PySem.P.repr_of_str ⟨.str _, H, I.tok _, ⟨_, rfl⟩, q⟩ (by rw [sizeLine_eq]; omega)
  | lst ha =>
    obtain ⟨as, hr⟩ := Dp.reads I (.list [.int 0]) _ u (.lst (SqL.of ha) (.cons (.int 0) .nil)) ru
    cases ru
    exact repr_of_reads' hr (by decide +kernel) (PyData.noDict_hsm (by decide +kernel)) hg (by show X.A.units + (PyData.depth (.list [.int 0]) + 1) < cLine; have : PyData.depth (.list [.int 0]) = 1 := by decide +kernel
                                                                                               omega) (fun _ _ e => e) (fun h' u tk hk => ⟨.str _, H, I.kept (t' := tk) hk, ⟨_, rfl⟩, q⟩) (by rw [sizeLine_eq]; decide +kernel)
end KW
end
section
set_option Elab.async false
set_option linter.all false
set_option maxRecDepth 100000
set_option maxHeartbeats 4000000
/-! What else is told of the written part: a tuple, the getters, the errors. -/
namespace KW
open PySem PySem.Spec PyProof.Rows L2
/-! where comprehensions stand -/
def e_arg0 : Expr → Expr
  | .Call _ (e :: _) _ _ => e
  | e => e
def e_elt : Expr → Expr
  | .ListComp e _ _ _ => e
  | .DictComp _ e _ _ _ => e
  | e => e
def e_scope : Expr → Scope
  | .ListComp _ _ s _ => s
  | .DictComp _ _ _ s _ => s
  | .Lambda _ _ s _ => s
  | _ => ⟨.function, [], false, false, []⟩
/-- a comprehension's scope as its own comprehensions see it -/
def relabS (sc parent : Scope) : Scope := { sc with names := sc.names.map fun (n, k) => if (k == .free && parent.kind == .function && parent.names.lookup n == some .cell) then (n, .cell) else (n, k) }
def s_val : Stmt → Expr
  | .Assign _ v _ => v
  | .Return (some e) _ => e
  | .Expr e _ => e
  | _ => .Constant .none 0 ⟨0, 0, 0, 0⟩
def s_at (l : List Stmt) (i : Nat) : Stmt := l.getD i (.Pass ⟨0, 0, 0, 0⟩)
abbrev s_BadCount : Stmt := inClass (top 5) 0
abbrev s_TooMany : Stmt := inClass (top 6) 0
abbrev s_NoRow : Stmt := inClass (top 7) 0
abbrev s_NoDeed : Stmt := inClass (top 8) 0
theorem tx_BadCount : ExcT1 s_BadCount "count" "not a number of lots" :=
  ⟨⟨_, _, _, _, _, _, _, _, _, _, _, rfl, fun env => ⟨_, rfl⟩, fun env => rfl⟩, ⟨_, rfl, rfl⟩, fun _ _ _ _ _ _ _ _ _ => rfl, ⟨by decide +kernel, by decide +kernel⟩, ⟨by decide +kernel, by decide +kernel, by decide +kernel, by decide +kernel⟩, by decide +kernel, ⟨rfl, rfl, rfl⟩⟩
theorem tx_TooMany : ExcT1 s_TooMany "lot" "a lot of rows is too many" :=
  ⟨⟨_, _, _, _, _, _, _, _, _, _, _, rfl, fun env => ⟨_, rfl⟩, fun env => rfl⟩, ⟨_, rfl, rfl⟩, fun _ _ _ _ _ _ _ _ _ => rfl, ⟨by decide +kernel, by decide +kernel⟩, ⟨by decide +kernel, by decide +kernel, by decide +kernel, by decide +kernel⟩, by decide +kernel, ⟨rfl, rfl, rfl⟩⟩
theorem tx_NoRow : ExcT1 s_NoRow "row" "no such row" :=
  ⟨⟨_, _, _, _, _, _, _, _, _, _, _, rfl, fun env => ⟨_, rfl⟩, fun env => rfl⟩, ⟨_, rfl, rfl⟩, fun _ _ _ _ _ _ _ _ _ => rfl, ⟨by decide +kernel, by decide +kernel⟩, ⟨by decide +kernel, by decide +kernel, by decide +kernel, by decide +kernel⟩, by decide +kernel, ⟨rfl, rfl, rfl⟩⟩
theorem tx_NoDeed : ExcT0 s_NoDeed "there is nothing of the kind" :=
  ⟨⟨_, _, _, _, _, _, _, rfl, fun env => ⟨_, rfl⟩⟩, ⟨_, rfl, rfl⟩, fun _ _ _ _ _ _ _ _ => rfl, ⟨by decide +kernel, by decide +kernel, by decide +kernel⟩, by decide +kernel, ⟨rfl, rfl, rfl⟩⟩
/-- an error class of the text, with a field -/
structure ErrD (P : Program) (K : PySem.W.Frag) (mg : Str → Option Value) (nm f : Str) (st : Stmt) : Prop where
  tx : ExcTxt P K mg nm (He.ga K nm) (He.ma K (He.ga K nm) "__init__") st
  no : PySem.W.findIn K (.ref (He.ga K nm)) f = some none
structure Txt2 (P : Program) (K : PySem.W.Frag) (mg : Str → Option Value) : Prop extends Txt K mg where
  fields : ∃ (o : Obj) (its : Array Value) (n : Nat), K.lookup (He.ga K "FIELDS") = some o ∧ o.cls = .type "tuple" ∧ o.data = .seq its n ∧ its.size ≤ sizeLine ∧ Vals (iV [0, 2, 3, 5, 7, 11, 13]) its.toList
  pField : ∃ p g fd, PropOf K (He.ga K "Rows") "field" p g ∧ FunD K "field" "Rows.field" (defArgs s_Rows_field) (defBody s_Rows_field) (defScope s_Rows_field) [] [] g fd
  pTable : ∃ p g fd, PropOf K (He.ga K "Keeper") "table" p g ∧ FunD K "table" "Keeper.table" (defArgs s_Keeper_table) (defBody s_Keeper_table) (defScope s_Keeper_table) [] [] g fd
  eCount : ErrD P K mg "BadCount" "count" s_BadCount
  eMany : ErrD P K mg "TooMany" "lot" s_TooMany
  eRow : ErrD P K mg "NoRow" "row" s_NoRow
  eDeed : ErrD P K mg "NoDeed" "nothing" s_NoDeed
  insR : C8.InsC K (He.ga K "Rows")
  lenR : Meth K (He.ga K "Rows") "__len__" (He.ma K (He.ga K "Rows") "__len__")
  eqR : Meth K (He.ga K "Rows") "__eq__" (He.ma K (He.ga K "Rows") "__eq__")
  neR : PySem.W.findIn K (.ref (He.ga K "Rows")) "__ne__" = some (some (.builtin "object.__ne__"))
theorem Txt2.fieldsT {P : Program} {K : PySem.W.Frag} {mg : Str → Option Value} (T : Txt2 P K mg) (H : Hp) : SqT K H (He.ga K "FIELDS") (iV [0, 2, 3, 5, 7, 11, 13]) := .inr T.fields
/-- a property's getter: the object's attribute -/
theorem pe_get {X : Cx} {C p g : Addr} {fd : FuncData} {f a qual : Str} {st : Stmt} {e : Expr} {pos : Pos} {te : TE} {j : Nat} (c : Cls X.K C) (n : NoAttr X.K C a) (hp : PropOf X.K C f p g) (F : FunD X.K f qual (defArgs st) (defBody st) (defScope st) [] [] g fd) (hr : Room j X.A) (hj : 2 ≤ j) (he : PE X e te)
    (hb : ∃ p1 p2 p3, defBody st = [.Return (some (.Attribute (.Name "self" p1) a p2)) p3]) (S : FnScope ["self"] ["self"] (defScope st)) (hbi : ∀ (kV doc pm : Value) (an : Option Addr) (cdv ct : Value) (us : List Value), us.length = 1 → bindArgs (PySem.W.fnOf f qual (defArgs st) (defBody st) (defScope st) .none kV doc pm an cdv ct) ⟨us, []⟩ = pure ([("self" : Str)].zip us))
    (hab : attributeBase e f X.env (eval e X.env) = eval e X.env := by rfl) : PE X (.Attribute e f pos) (tProp C (getSp C a) [] C8.E0 te) := by
  obtain ⟨oc, od, dV, kV, doc, pm, an, cdv, ct, osl, rfl, lk, hcd, hD, hK⟩ := F.ex
  obtain ⟨p1, p2, p3, hb⟩ := hb
  have FF : FnOk X.prog X.w X.K X.mg X.base C8.CX0 1 g _ ["self"] (getSp C a) := fn_getter (k := 0) (N := ["self"]) lk hcd S rfl hb c n
  exact pe_prop he c hp FF (hr.mono hj) (F.bindsN hbi) .nil C8.pass0 hab
end KW
end
section
set_option Elab.async false
set_option linter.all false
set_option maxRecDepth 100000
set_option maxHeartbeats 4000000
namespace KW
open PySem PySem.Spec PyProof.Rows L2
section
variable {P : Program} {w : World} {K : PySem.W.Frag} {mg : Str → Option Value} {base : Heap}
theorem boot_len : bootBuiltins "len" = some (.builtin "len") := by decide +kernel
theorem boot_all : bootBuiltins "all" = some (.builtin "all") := by decide +kernel
theorem boot_any : bootBuiltins "any" = some (.builtin "any") := by decide +kernel
theorem boot_sorted : bootBuiltins "sorted" = some (.builtin "sorted") := by decide +kernel
theorem boot_sum : bootBuiltins "sum" = some (.builtin "sum") := by decide +kernel
theorem boot_min : bootBuiltins "min" = some (.builtin "min") := by decide +kernel
theorem boot_repr : bootBuiltins "repr" = some (.builtin "repr") := by decide +kernel
theorem ite_f {c : Bool} {A B : Prop} (h : c = false) (b : B) : if c = true then A else B := by rw [h]; exact b
theorem ite_t {c : Bool} {A B : Prop} (h : c = true) (a : A) : if c = true then A else B := by rw [h]; exact a
/-! ### is_row, width_of -/
def spIsRow : Sp := fun vs H Q _ => ∃ (a : Addr) (r : List Int), vs = [.ref a, .int r.length] ∧ H a = some (.lst (iV r)) ∧ r.length ≤ 1000 ∧ ∀ H', Same H H' → Q (.bl true) H'
theorem scIsRow : FnScope ["value", "width", "number"] ["value", "width"] (defScope s_is_row) := ⟨rfl, rfl, rfl, by decide +kernel, rfl, by decide +kernel, by decide +kernel⟩
theorem all_true : ∀ (n : Nat), ((List.replicate n true).all id) = true
  | 0 => rfl
  | n + 1 => by rw [List.replicate_succ, List.all_cons, all_true n]; rfl
theorem c_is_row (T : Txt K mg) : C8.Cal P w K mg base 2 "is_row" spIsRow [] := by
  obtain ⟨fd, F⟩ := T.fn_is_row
  refine mkCal F T.g_is_row (fun _ _ _ _ _ _ us hl => match us, hl with | [_, _], _ => rfl) scIsRow (fun vs H Q E h => ?_) fun cdv A outer s H vs Q E hr h => ?_
  · obtain ⟨a, r, rfl, _⟩ := h
    rfl
  · obtain ⟨a, r, rfl, ha, hl, k⟩ := h
    refine ⟨_, pss_one (ps_ret (pe_and (C8.pe_c (c_is_list T) hr (by decide) (by rfl) (pa_cons (pv 0) pa_nil)) (pe_and (pe_cmpR op_eq (pe_callB call_len_seq (by rfl) T.f_len boot_len (pa_cons (pv 0) pa_nil)) (pv 1) (nomark _))
      (pe_one (pe_callB (cr_all rfl) (by rfl) T.f_all boot_all (pa_cons (pe_lc (own := [("number", 2)]) (g := gName 2) (tt := tYes) rfl scIsRow.nd (pi_list (pv 0)) (blkOk_by (N := ["value", "width", "number"]) (sc := defScope s_is_row) (by decide +kernel))
        (fun _ _ _ _ _ => pg_name (i := 2) scIsRow.nd rfl (Or.inl rfl)) (fun _ _ _ _ _ => pts_nil) (fun _ _ _ _ _ => C8.pe_c (c_is_integer T) hr (by decide) (by rfl) (pa_cons (pv 2) pa_nil))) pa_nil)))))), ?_⟩
    refine ⟨_, rfl, a, _, rfl, ha, fun H1 s1 => ⟨_, rfl, iteT ?_⟩⟩
    have ha1 := s1 _ _ ha
    refine ⟨_, rfl, a, iV r, rfl, .inl (SqL.of ha1), _, rfl, rfl, ?_⟩
    have e : decide (V.int ((iV r).length : Nat) = V.int (r.length : Nat)) = true := by rw [List.length_map]; exact decide_eq_true rfl
    refine ⟨_, rfl, ?_⟩
    rw [e]
    refine iteT ⟨_, rfl, a, rfl, ⟨_, SqL.of ha1⟩, fun D hD => ?_⟩
    refine lc_it (jo_list (SqL.of ha1)) (Same.refl _) (Same.refl _) hD (fun i => (List.replicate i true).map V.bl) rfl (fun i hi => by rw [List.length_map] at hi; simp; omega) (fun i x H' Nx Sk hi s2 hx kN kS => ?_) fun H' s2 d2 => ?_
    · obtain ⟨z, hz, rfl⟩ := at_map hx
      exact ⟨rfl, _, rfl, _, rfl, .inr (.inr (.inl ⟨z, rfl⟩)), kN _ _ (Same.refl _) (by rw [List.replicate_succ', List.map_append]; rfl)⟩
    · refine ⟨D, _, rfl, SqL.of d2, ?_⟩
      rw [all_true]
      exact k _ (s1.trans s2)
/-- pairs by place -/
theorem paired_at {α β : Type} {R : α → β → Prop} : ∀ {xs : List α} {ys : List β} {i : Nat} {x : α}, Paired R xs ys → xs[i]? = some x → ∃ y, ys[i]? = some y ∧ R x y
  | _, _, _, _, .nil, h => by simp at h
  | _, _, 0, _, .cons r t, h => ⟨_, rfl, by simp at h; rw [← h]; exact r⟩
  | _, _, i + 1, x, .cons r t, h => paired_at (i := i) t (by simpa using h)
theorem paired_at' {α β : Type} {R : α → β → Prop} : ∀ {xs : List α} {ys : List β} {i : Nat} {y : β}, Paired R xs ys → ys[i]? = some y → ∃ x, xs[i]? = some x ∧ R x y
  | _, _, _, _, .nil, h => by simp at h
  | _, _, 0, _, .cons r t, h => ⟨_, rfl, by simp at h; rw [← h]; exact r⟩
  | _, _, i + 1, y, .cons r t, h => paired_at' (i := i) t (by simpa using h)
theorem paired_len {α β : Type} {R : α → β → Prop} : ∀ {xs : List α} {ys : List β}, Paired R xs ys → xs.length = ys.length
  | _, _, .nil => rfl
  | _, _, .cons _ t => congrArg Nat.succ (paired_len t)
theorem paired_mono {α β : Type} {R S : α → β → Prop} (h : ∀ a b, R a b → S a b) : ∀ {xs : List α} {ys : List β}, Paired R xs ys → Paired S xs ys
  | _, _, .nil => .nil
  | _, _, .cons r t => .cons (h _ _ r) (paired_mono h t)
theorem paired_of {α β : Type} {R : α → β → Prop} : ∀ {xs : List α} {ys : List β}, xs.length = ys.length → (∀ (i : Nat) x y, xs[i]? = some x → ys[i]? = some y → R x y) → Paired R xs ys
  | [], [], _, _ => .nil
  | [], _ :: _, h, _ => by cases h
  | _ :: _, [], h, _ => by cases h
  | x :: xs, y :: ys, h, f => .cons (f 0 x y rfl rfl) (paired_of (Nat.succ.inj h) fun i a b ha hb => f (i + 1) a b ha hb)
/-- a list of lists of numbers -/
def IsRaw (H : Hp) (a : Addr) (T : List (List Int)) : Prop := ∃ rs : List Addr, H a = some (.lst (rV rs)) ∧ Paired (fun p l => H p = some (.lst (iV l))) rs T
theorem IsRaw.same {H H' : Hp} {a : Addr} {T : List (List Int)} (s : Same H H') (h : IsRaw H a T) : IsRaw H' a T :=
  let ⟨rs, x, y⟩ := h; ⟨rs, s _ _ x, paired_mono (fun _ _ z => s _ _ z) y⟩
def spWidth : Sp := fun vs H Q _ => ∃ (a : Addr) (l : List Int) (T : List (List Int)), vs = [.ref a] ∧ IsRaw H a (l :: T) ∧ l.length ≤ 12 ∧ ∀ H', Same H H' → Q (.int l.length) H'
theorem scWidth : FnScope ["rows"] ["rows"] (defScope s_width_of) := ⟨rfl, rfl, rfl, by decide +kernel, rfl, by decide +kernel, by decide +kernel⟩
theorem at0 {x : V} {xs : List V} : atI (x :: xs) 0 = some x := by
  unfold atI ixN
  rw [if_pos (Int.le_refl 0), if_pos (by rw [List.length_cons]; omega)]
  rfl
theorem atN {xs : List V} {i : Nat} {x : V} (h : xs[i]? = some x) : atI xs (i : Int) = some x := by
  obtain ⟨hi, _⟩ := List.getElem?_eq_some_iff.mp h
  unfold atI ixN
  rw [if_pos (by omega), if_pos (by omega)]
  simpa using h
theorem c_width_of (T : Txt K mg) : C8.Cal P w K mg base 2 "width_of" spWidth [] := by
  obtain ⟨fd, F⟩ := T.fn_width_of
  obtain ⟨tk, hm⟩ := T.i_MOST_WIDTH
  refine mkCal F T.g_width_of (fun _ _ _ _ _ _ us hl => match us, hl with | [_], _ => rfl) scWidth (fun vs H Q E h => ?_) fun cdv A outer s H vs Q E hr h => ?_
  · obtain ⟨a, l, T, rfl, _⟩ := h
    rfl
  · obtain ⟨a, l, T', rfl, ⟨rs, ha, hp⟩, hl, k⟩ := h
    refine ⟨_, pss_cons (ps_if (PW.pt (pw_or (pt_cmpR op_eq (pe_callB call_len_seq (by rfl) T.f_len boot_len (pa_cons (pv 0) pa_nil)) pe_int (nomark _)) (pw_or (pt_not (pt_val (C8.pe_c (c_is_list T) hr (by decide) (by rfl) (pa_cons (pe_ix ix_list (pv 0) pe_int (fun _ _ => rfl)) pa_nil))))
        (pw_or1 (pt_cmpR op_gt (pe_callB call_len_seq (by rfl) T.f_len boot_len (pa_cons (pe_ix ix_list (pv 0) pe_int (fun _ _ => rfl)) pa_nil)) (pe_glob (v := .int 12) (by rfl) hm ⟨_, rfl⟩) (nomark _))))))
        (pss_one (ps_ret pe_int)) pss_nil)
      (pss_one (ps_ret (pe_callB call_len_seq (by rfl) T.f_len boot_len (pa_cons (pe_ix ix_list (pv 0) pe_int (fun _ _ => rfl)) pa_nil)))), ?_⟩
    cases hp with
    | @cons p _ rs' _ hp0 hp1 =>
      refine ⟨_, rfl, a, _, rfl, .inl (SqL.of ha), rfl, ?_⟩
      have e : decide (V.int ((rV (p :: rs')).length : Nat) = V.int 0) = false := decide_eq_false fun z => by
        have := V.int.inj z
        simp at this
        omega
      refine ⟨_, rfl, ?_⟩
      rw [e]
      refine iteF ?_
      refine ⟨_, rfl, a, _, 0, .ref p, rfl, rfl, SqL.of ha, at0, p, _, rfl, hp0, fun H1 s1 => ⟨_, rfl, iteF ?_⟩⟩
      have ha1 := s1 _ _ ha
      have hp1 := s1 _ _ hp0
      refine ⟨_, rfl, a, _, 0, .ref p, rfl, rfl, SqL.of ha1, at0, p, _, rfl, .inl (SqL.of hp1), _, 12, rfl, rfl, _, rfl, ?_⟩
      have e2 : decide ((12 : Int) < ((iV l).length : Nat)) = false := decide_eq_false (by rw [List.length_map]; omega)
      rw [e2]
      refine iteF ⟨_, rfl, a, _, 0, .ref p, rfl, rfl, SqL.of ha1, at0, p, _, rfl, .inl (SqL.of hp1), ?_⟩
      rw [List.length_map]
      exact k _ s1
/-! ### Rows -/
/-- all but some stay -/
def SameBut (as : List Addr) (H H' : Hp) : Prop := ∀ b o, H b = some o → b ∉ as → H' b = some o
theorem SameBut.of {as : List Addr} {H H' : Hp} (s : Same H H') : SameBut as H H' := fun b o e _ => s b o e
theorem SameBut.trans {as : List Addr} {H H1 H2 : Hp} (a : SameBut as H H1) (b : SameBut as H1 H2) : SameBut as H H2 := fun c o e h => b c o (a c o e h) h
theorem SameBut.upd {as : List Addr} {H H1 : Hp} {p : Addr} {o : HO} (s : SameBut as H H1) (h : p ∈ as ∨ H p = none) : SameBut as H (L2.upd H1 p o) := fun b u e hb => by
  by_cases q : b = p
  · subst q
    rcases h with h | h
    · exact absurd h hb
    · rw [h] at e; cases e
  · rw [upd_ne q]; exact s b u e hb
theorem SameBut.same {as : List Addr} {H H1 : Hp} (s : SameBut as H H1) (h : ∀ a, a ∈ as → H a = none) : Same H H1 := fun b o e => s b o e fun hb => by rw [h b hb] at e; cases e
/-- a table: its field, width, rows -/
def IsRows (K : PySem.W.Frag) (H : Hp) (t : Addr) (f : Int) (w : Nat) (T : List (List Int)) : Prop :=
  ∃ dx r rs, H t = some (.ins (He.ga K "Rows") dx [("own_field", .int f), ("own_width", .int w), ("own_rows", .ref r)]) ∧ H r = some (.tup (rV rs)) ∧ Paired (fun p l => H p = some (.tup (iV l))) rs T
theorem IsRows.same {H H' : Hp} {t : Addr} {f : Int} {w : Nat} {T : List (List Int)} (s : Same H H') (h : IsRows K H t f w T) : IsRows K H' t f w T :=
  let ⟨dx, r, rs, a, b, c⟩ := h; ⟨dx, r, rs, s _ _ a, s _ _ b, paired_mono (fun _ _ z => s _ _ z) c⟩
def isField (f : Int) : Prop := f ∈ ([0, 2, 3, 5, 7, 11, 13] : List Int)
def spRows : Sp := fun vs H Q _ => ∃ (x dx a : Addr) (f : Int) (wd : Nat) (T : List (List Int)), vs = [.ref x, .ref a, .int f] ∧ H x = some (.ins (He.ga K "Rows") dx []) ∧ IsRaw H a T ∧ isField f ∧ (∀ l, l ∈ T → l.length = wd) ∧ wd ≤ 12 ∧ 0 < T.length ∧ T.length ≤ 60 ∧
  ∀ H', SameBut [x] H H' → IsRows K H' x f wd (T.map (KP.mdl f)) → Q .non H'
abbrev nmRows : List Str := ["self", "rows", "field", "width", "index", "row", "x"]
theorem scRows : FnScope nmRows ["self", "rows", "field"] (defScope s_Rows_DinitD) := ⟨rfl, rfl, rfl, by decide +kernel, rfl, by decide +kernel, by decide +kernel⟩
theorem mkMakD {C qual : Str} {st : Stmt} {fd : FuncData} {N ps : List Str} {k : Nat} {sp : Sp} {dvs : List V} (F : FunD K "__init__" qual (defArgs st) (defBody st) (defScope st) dvs [] (He.fAd K (C, some "__init__")) fd) (M : Mk K (He.ga K C) (He.ma K (He.ga K C) "__init__")) (g : mg C = some (.ref (He.ga K C)))
    (hb : ∃ ds, Vals [] ds ∧ Binds K fd ps ds)
    (S : FnScope N ps (defScope st)) (len : ∀ vs H Q E, sp vs H Q E → vs.length = ps.length)
    (hbody : ∀ (cdv : Value) (A : Around) (outer : List Env) (s : Shared) (H : Hp) (vs : List V) (Q : VK) (E : XK), Room k (A.deeper (envOfC qual (defScope st) s.heap.objs.size (He.fAd K (C, some "__init__")) cdv)) → sp vs H Q E →
      ∃ t, PSs (cxOf C8.CX0 P w K mg base N qual (defScope st) (He.fAd K (C, some "__init__")) cdv A outer s H E).nox (defBody st) t ∧ t { nx := fun _ H' => Q .non H', rt := Q } (start N vs) H) : C8.Mak P w K mg base (k + 1) C (He.ga K C) sp [] :=
  let ⟨ds, v, b⟩ := hb
  ⟨He.fAd K (C, some "__init__"), fd, ps, ds, M, F.ok (CX := C8.CX0) S len (fun cdv A outer s H vs Q E hr h => let ⟨t, a, b⟩ := hbody cdv A outer s H vs Q E hr h; ⟨t, a.nox, b⟩), g, b, v⟩
theorem flat_ints (l : List Int) : (iV l).all flatV = true := by
  rw [List.all_eq_true]
  intro x hx
  obtain ⟨z, _, rfl⟩ := List.mem_map.mp hx
  rfl
theorem inV_ints (k : Int) (l : List Int) : inV (.int k) (iV l) = decide (k ∈ l) := by
  unfold inV
  rw [List.any_map]
  by_cases h : k ∈ l
  · rw [decide_eq_true h, List.any_eq_true]
    exact ⟨k, h, beq_self_eq_true k⟩
  · rw [decide_eq_false h, List.any_eq_false]
    intro x hx e
    have : x = k := by simpa [eqV] using e
    exact h (this ▸ hx)
theorem mk_Rows (T : Txt2 P K mg) : C8.Mak P w K mg base 3 "Rows" (He.ga K "Rows") (spRows (K := K)) [] := by
  obtain ⟨fd, F⟩ := T.fn_Rows_DinitD
  obtain ⟨tk, hm⟩ := T.i_MOST_ROWS
  refine mkMakD F T.mk_Rows T.g_Rows (F.binds1 (ps := ["self", "rows", "field"]) 3 1 (by simp) rfl fun T kV doc pm an cdv ct us its hu hi => match us, its, hu, hi with | [_, _, _], [_], _, _ => ⟨_, rfl, rfl⟩) scRows (fun vs H Q E h => ?_) fun cdv A outer s H vs Q E hr h => ?_
  · obtain ⟨x, dx, a, f, wd, T', rfl, _⟩ := h
    rfl
  · obtain ⟨x, dx, a, f, wd, T', rfl, hx, hraw, hf, hw, hw12, hn0, hn, k⟩ := h
    refine ⟨_, (pss_cons (ps_if (PW.pt (pw_or (pt_not (pt_val (C8.pe_c (c_is_integer T.toTxt) hr (by decide) (by rfl) (pa_cons (pv 2) pa_nil)))) (pw_or1 (pt_cmpR op_notIn_seq (pv 2) (pe_glob (v := .ref (He.ga K "FIELDS")) (by rfl) T.g_FIELDS rfl) (by with_unfolding_all rfl))))) (pss_one (ps_never)) pss_nil) (pss_cons (ps_if (pt_not (pt_val (C8.pe_c (c_is_list T.toTxt) hr (by decide) (by rfl) (pa_cons (pv 1) pa_nil)))) (pss_one (ps_never)) pss_nil) (pss_cons (ps_set (i := 3) scRows.nd rfl (Or.inl rfl) (C8.pe_c (c_width_of T.toTxt) hr (by decide) (by rfl) (pa_cons (pv 1) pa_nil))) (pss_cons (ps_for PassesOwn.never rfl (pi_enum (by rfl) T.f_enumerate (pa_cons (pv 1) pa_nil)) (pg_tup rfl (pgs_cons (pg_name (i := 4) scRows.nd rfl (Or.inl rfl)) (pgs_cons (pg_name (i := 5) scRows.nd rfl (Or.inl rfl)) pgs_nil)))
          (pss_one (ps_if (pt_not (pt_val (C8.pe_c (c_is_row T.toTxt) hr (by decide) (by rfl) (pa_cons (pv 5) (pa_cons (pv 3) pa_nil))))) (pss_one (ps_never)) pss_nil))) (pss_cons (ps_if (pt_cmpR op_gt (pe_callB call_len_seq (by rfl) T.f_len boot_len (pa_cons (pv 1) pa_nil)) (pe_glob (v := .int 60) (by rfl) hm ⟨_, rfl⟩) (nomark _)) (pss_one (ps_never)) pss_nil) (pss_cons (ps_fld (pv 0) (pv 2) rfl) (pss_cons (ps_fld (pv 0) (pv 3) rfl) (pss_one (ps_fld (pv 0) (pe_tupleOf (by rfl) T.f_tuple (pe_lc (te := tThen (tLc (iList K (tVar 5)) (gName 6) tYes _ [6]) (kTup K)) (own := [("row", 5)]) (g := gName 5) (tt := tYes) rfl scRows.nd (pi_list (pv 1)) (blkOk_by (N := nmRows) (sc := defScope s_Rows_DinitD) (by decide +kernel))
          (fun _ _ _ _ _ => pg_name (i := 5) scRows.nd rfl (Or.inl rfl)) (fun _ _ _ _ _ => pts_nil) (fun _ _ _ _ _ => pe_tupleOf (by rfl) T.f_tuple (pe_lc (own := [("x", 6)]) (g := gName 6) (tt := tYes) rfl scRows.nd (pi_list (pv 5)) (blkOk_by (N := nmRows) (sc := relabS (e_scope (e_arg0 (s_val (s_at (defBody s_Rows_DinitD) 7)))) (defScope s_Rows_DinitD)) (by decide +kernel))
            (fun _ _ _ _ _ => pg_name (i := 6) scRows.nd rfl (Or.inl rfl)) (fun _ _ _ _ _ => pts_nil) (fun _ _ _ _ _ => pe_ifExp (pt_cmpR op_gt (pv 2) pe_int (nomark _)) (pe_op op_mod (pv 6) (pv 2)) (pv 6)))))) rfl))))))))), ?_⟩
    obtain ⟨rs, ha, hp⟩ := hraw
    have hax : a ≠ x := fun z => by rw [z, hx] at ha; cases ha
    have hfin : (if true = true then !inV (.int f) (iV [0, 2, 3, 5, 7, 11, 13]) else inV (.int f) (iV [0, 2, 3, 5, 7, 11, 13])) = false := by
      rw [if_pos rfl, inV_ints, decide_eq_true (show f ∈ ([0, 2, 3, 5, 7, 11, 13] : List Int) from hf)]; rfl
    refine ⟨_, rfl, .int f, rfl, .inr (.inr (.inl ⟨f, rfl⟩)), _, rfl, iteF ⟨_, rfl, _, _, rfl, .inr (T.fieldsT _), rfl, flat_ints _, _, rfl, ite_f hfin ?_⟩⟩
    refine ⟨_, rfl, a, _, rfl, ha, fun H1 s1 => ⟨_, rfl, iteF ?_⟩⟩
    cases hT : T' with
    | nil => subst hT; cases hn0
    | cons l T1 =>
      have hlw : l.length = wd := hw l (by rw [hT]; exact List.mem_cons_self)
      rw [hT] at hp
      have raw1 : IsRaw H1 a (l :: T1) := IsRaw.same s1 ⟨rs, ha, hp⟩
      refine ⟨_, rfl, a, l, T1, rfl, raw1, by omega, fun H2 s2 => ?_⟩
      have s02 := s1.trans s2
      have ha2 := s02 _ _ ha
      refine ⟨_, rfl, a, _, rfl, SqL.of ha2, ?_⟩
      rw [hlw]
      have hrl : rs.length = (l :: T1).length := paired_len hp
      refine for_it (jo_enum (SqL.of ha)) (fun i σ H' => ∃ v4 v5, σ = [some (.ref x), some (.ref a), some (.int f), some (.int wd), v4, v5, none] ∧ Same H H') ⟨none, none, rfl, s02⟩ (fun i σ H' _ ⟨_, _, _, h⟩ => h) ?_ ?_
      · rintro i v σ H3 H4 hi ⟨v4, v5, rfl, s3⟩ s4 ⟨Tp, y, rfl, hTp, hy⟩
        obtain ⟨p, hpi, rfl⟩ := at_map hy
        obtain ⟨row, hrow, hpr⟩ := paired_at hp hpi
        have hrw : row.length = wd := hw row (by rw [hT]; exact List.mem_of_getElem? hrow)
        refine ⟨Tp, _, rfl, .inl (.inl hTp), rfl, _, _, rfl, _, _, rfl, rfl, ?_⟩
        refine ⟨_, rfl, _, rfl, p, row, by rw [hrw]; rfl, (s3.trans s4) _ _ hpr, by omega, fun H5 s5 => ⟨_, rfl, iteF ⟨_, _, rfl, (s3.trans s4).trans s5⟩⟩⟩
      · rintro σ H3 ⟨v4, v5, rfl, s3⟩
        have ha3 := s3 _ _ ha
        have hx3 := s3 _ _ hx
        refine ⟨_, rfl, a, _, rfl, .inl (SqL.of ha3), _, 60, rfl, rfl, _, rfl, ite_f (decide_eq_false (by rw [List.length_map, hrl, ← hT]; omega)) ?_⟩
        refine ⟨_, rfl, _, rfl, x, _, _, _, rfl, hx3, T.c_Rows, T.n_Rows_own_field, by show 0 < 1000; omega, ?_⟩
        refine ⟨_, rfl, _, rfl, x, _, _, _, rfl, upd_same, T.c_Rows, T.n_Rows_own_width, by show 1 < 1000; omega, ?_⟩
        generalize hH7 : upd (upd H3 x _) x _ = H7
        have sb7 : SameBut [x] H H7 := by
          rw [← hH7]
          exact ((SameBut.of s3).upd (.inl List.mem_cons_self)).upd (.inl List.mem_cons_self)
        have hx7 : H7 x = some (.ins (He.ga K "Rows") dx [("own_field", .int f), ("own_width", .int wd)]) := by rw [← hH7]; exact upd_same
        have ha7 : H7 a = some (.lst (rV rs)) := sb7 _ _ ha (by simp [hax])
        have hp7 : ∀ {i : Nat} {p : Addr} {row : List Int}, rs[i]? = some p → (l :: T1)[i]? = some row → H7 p = some (.lst (iV row)) := fun {i p row} e1 e2 => by
          obtain ⟨row', e3, e4⟩ := paired_at hp e1
          rw [e2] at e3
          cases e3
          exact sb7 _ _ e4 (by simp; intro z; rw [z, hx] at e4; cases e4)
        refine ⟨_, rfl, a, rfl, ⟨_, SqL.of ha7⟩, fun D hD => ?_⟩
        refine lc_ex (jo_list (SqL.of ha7)) (Same.refl _) (Same.refl _) hD (fun i xs G => ∃ ps, xs = rV ps ∧ Paired (fun p l => G p = some (.tup (iV l))) ps (((l :: T1).take i).map (KP.mdl f))) (fun i xs G G' sG ⟨ps, e1, e2⟩ => ⟨ps, e1, paired_mono (fun _ _ z => sG _ _ z) e2⟩) ⟨[], rfl, .nil⟩
          (fun i xs G hi ⟨ps, e1, e2⟩ => by rw [e1, List.length_map, paired_len e2, List.length_map, List.length_take, ← hT]; omega) (fun i v xs H8 Nx Sk hi s8 hv hD8 hpv kN kS => ?_) fun H8 xs s8 d8 hpv => ?_
        · obtain ⟨p, hpi, rfl⟩ := at_map hv
          obtain ⟨row, hrow, _⟩ := paired_at hp hpi
          have hrw : row.length = wd := hw row (by rw [hT]; exact List.mem_of_getElem? hrow)
          have hpr := s8 _ _ (hp7 hpi hrow)
          obtain ⟨ps, rfl, hps⟩ := hpv
          refine ⟨rfl, _, rfl, p, rfl, ⟨_, SqL.of hpr⟩, fun D2 hD2 => ?_⟩
          refine lc_it (jo_list (SqL.of hpr)) (Same.refl _) (Same.refl _) hD2 (fun i => iV ((row.take i).map fun x => if 0 < f then x % f else x)) rfl (fun i _ => by simp; omega) (fun i v2 H9 Nx2 Sk2 hi s9 hv2 kN2 kS2 => ?_) fun H9 s9 d9 => ?_
          · obtain ⟨z, hz, rfl⟩ := at_map hv2
            refine ⟨rfl, _, rfl, f, 0, rfl, rfl, _, rfl, ?_⟩
            by_cases hf0 : 0 < f
            · refine ite_t (decide_eq_true hf0) ⟨_, rfl, _, rfl, z, f, rfl, rfl, hf0, kN2 _ _ (Same.refl _) ?_⟩
              rw [take_map_more _ hz, if_pos hf0]
              exact iV_snoc _ _
            · refine ite_f (decide_eq_false hf0) ⟨_, rfl, kN2 _ _ (Same.refl _) ?_⟩
              rw [take_map_more _ hz, if_neg hf0]
              exact iV_snoc _ _
          · refine .inl ⟨D2, _, rfl, SqL.of d9, fun q hq => ?_⟩
            have hqD : q ≠ D := fun z => by rw [z, s9 _ _ hD8] at hq; cases hq
            refine kN _ _ (s9.upd' hq) ⟨ps ++ [q], by rw [rV_snoc], ?_⟩
            rw [take_map_more _ hrow]
            refine Paired.snoc (paired_mono (fun b _ z => ?_) hps) (but_at ?_ hqD)
            · exact but_mono (s9.upd' hq) _ _ z
            · rw [upd_same]
              congr 2
              rw [List.take_of_length_le (Nat.le_of_eq (List.length_map ..).symm)]
              unfold KP.mdl
              by_cases hf0 : 0 < f
              · simp [hf0]
              · simp [hf0]
        · obtain ⟨ps, rfl, hps⟩ := hpv
          refine .inl ⟨D, _, rfl, SqL.of d8, fun q hq => ?_⟩
          have hx8 := s8 _ _ hx7
          have hqx : q ≠ x := Ne.symm (ne_of_none hx8 hq)
          refine ⟨_, rfl, x, _, _, _, rfl, by rw [upd_ne (Ne.symm hqx)]; exact hx8, T.c_Rows, T.n_Rows_own_rows, by show 2 < 1000; omega, ?_⟩
          refine k _ (((sb7.trans (SameBut.of s8)).upd (.inr ?_)).upd (.inl List.mem_cons_self)) ⟨dx, q, ps, upd_same, ?_, ?_⟩
          · cases e : H q with
            | none => rfl
            | some o =>
              have := s8 _ _ (sb7 _ _ e (by simp [hqx]))
              rw [hq] at this; cases this
          · rw [upd_ne hqx]; exact upd_same
          · rw [hT]
            rw [List.take_of_length_le (Nat.le_of_eq (by rw [List.length_map, hrl]))] at hps
            refine paired_mono (fun b l z => ?_) hps
            have z8 := but_same _ _ z
            have hbx : b ≠ x := fun e => by rw [e, hx8] at z8; cases z8
            rw [upd_ne hbx, upd_ne (ne_of_none z8 hq)]
            exact z8
end
end KW
end
section
set_option Elab.async false
set_option linter.all false
set_option maxRecDepth 100000
set_option maxHeartbeats 4000000
/-! What lies on the heap as data: equality is equality. -/
namespace KW
open PySem PySem.Spec PyProof.Rows L2
open PySem.W (Datum Tup)
instance datNat : Datum Nat where
  toD n := .int n
  plain _ := rfl
  eqv a b := by
    simp only [PyData.eqv]
    rw [PySem.W.beq_decide]
    exact decide_eq_decide.mpr ⟨fun h => Int.ofNat.inj h, fun h => by rw [h]⟩
  depth := 0
  depth_le _ := Nat.le_refl _
class Lay (α : Type) [DecidableEq α] [Datum α] : Prop where
  lay : ∀ a : α, (Datum.toD a).canLay0 = true
instance : Lay Nat := ⟨fun _ => rfl⟩
instance : Lay Int := ⟨fun _ => rfl⟩
instance : Lay Bool := ⟨fun _ => rfl⟩
theorem layAll_map {α : Type} [DecidableEq α] [Datum α] [Lay α] : ∀ xs : List α, PyData.canLayAll0 (xs.map Datum.toD) = true
  | [] => rfl
  | x :: xs => by
    show ((Datum.toD x).canLay0 && PyData.canLayAll0 (xs.map Datum.toD)) = true
    rw [Lay.lay x, layAll_map xs]; rfl
instance {α : Type} [DecidableEq α] [Datum α] [Lay α] : Lay (List α) := ⟨fun xs => layAll_map xs⟩
instance {α : Type} [DecidableEq α] [Datum α] [Lay α] : Lay (Tup α) := ⟨fun t => layAll_map t.items⟩
instance {α β : Type} [DecidableEq α] [Datum α] [Lay α] [DecidableEq β] [Datum β] [Lay β] : Lay (α × β) := ⟨fun p => by
  show ((Datum.toD p.1).canLay0 && ((Datum.toD p.2).canLay0 && true)) = true
  rw [Lay.lay p.1, Lay.lay p.2]; rfl⟩
theorem toD_shaped {α : Type} [DecidableEq α] [Datum α] [Lay α] (x : α) (h : Datum.depth α ≤ 64 := by decide) : SeqAt.shaped (Datum.toD x) = true := by
  unfold SeqAt.shaped
  rw [Bool.and_eq_true]
  exact ⟨Lay.lay x, decide_eq_true (Nat.le_trans (Datum.depth_le x) h)⟩
theorem any_toD {α : Type} [DecidableEq α] [Datum α] (xs : List α) (x : α) : ((xs.map Datum.toD).any fun z => PyData.eqv z (Datum.toD x)) = decide (x ∈ xs) := PySem.W.any_datum xs x
section
variable {K : PySem.W.Frag}
/-- x lies at v -/
def At {α : Type} [DecidableEq α] [Datum α] (K : PySem.W.Frag) (H : Hp) (v : V) (x : α) : Prop := Dp K H v (Datum.toD x)
theorem at_nat {H : Hp} (n : Nat) : At K H (.int n) n := .int n
theorem at_int {H : Hp} (n : Int) : At K H (.int n) n := .int n
theorem dpAll_of {α : Type} [DecidableEq α] [Datum α] {H : Hp} : ∀ {vs : List V} {xs : List α}, Paired (fun v x => At K H v x) vs xs → DpAll K H vs (xs.map Datum.toD)
  | _, _, .nil => .nil
  | _, _, .cons r t => .cons r (dpAll_of t)
theorem at_list {α : Type} [DecidableEq α] [Datum α] {H : Hp} {a : Addr} {vs : List V} {xs : List α} (h : SqL K H a vs) (p : Paired (fun v x => At K H v x) vs xs) : At K H (.ref a) xs := .lst h (dpAll_of p)
theorem at_tup {α : Type} [DecidableEq α] [Datum α] {H : Hp} {a : Addr} {vs : List V} {xs : List α} (h : SqT K H a vs) (p : Paired (fun v x => At K H v x) vs xs) : At K H (.ref a) (Tup.mk xs) := .tup h (dpAll_of p)
theorem at_pair {α β : Type} [DecidableEq α] [Datum α] [DecidableEq β] [Datum β] {H : Hp} {a : Addr} {v u : V} {x : α} {y : β} (h : SqT K H a [v, u]) (h1 : At K H v x) (h2 : At K H u y) : At K H (.ref a) (x, y) := .tup h (.cons h1 (.cons h2 .nil))
theorem paired_map {α β γ : Type} {R : β → γ → Prop} (f : α → β) (g : α → γ) (h : ∀ a, R (f a) (g a)) : ∀ l : List α, Paired R (l.map f) (l.map g)
  | [] => .nil
  | a :: l => .cons (h a) (paired_map f g h l)
theorem paired_mapL {α β γ : Type} {R : β → γ → Prop} (f : α → β) {l : List α} {m : List γ} (p : Paired (fun a c => R (f a) c) l m) : Paired R (l.map f) m := by
  induction p with
  | nil => exact .nil
  | cons r _ ih => exact .cons r ih
theorem paired_mapR {α γ δ : Type} {R : α → δ → Prop} (g : γ → δ) {l : List α} {m : List γ} (p : Paired (fun a c => R a (g c)) l m) : Paired R l (m.map g) := by
  induction p with
  | nil => exact .nil
  | cons r _ ih => exact .cons r ih
theorem at_nats {H : Hp} {a : Addr} {l : List Nat} (h : SqL K H a (nV l)) : At K H (.ref a) l := at_list h (by
  have := paired_map (R := fun v x => At K H v x) (fun r : Nat => V.int (r : Int)) (fun r : Nat => r) (fun r => at_nat r) l
  rwa [List.map_id'] at this)
theorem at_ints {H : Hp} {a : Addr} {l : List Int} (h : SqL K H a (iV l)) : At K H (.ref a) l := at_list h (by
  have := paired_map (R := fun v x => At K H v x) V.int (fun r : Int => r) (fun r => at_int r) l
  rwa [List.map_id'] at this)
theorem at_intsT {H : Hp} {a : Addr} {l : List Int} (h : SqT K H a (iV l)) : At K H (.ref a) (Tup.mk l) := at_tup h (by
  have := paired_map (R := fun v x => At K H v x) V.int (fun r : Int => r) (fun r => at_int r) l
  rwa [List.map_id'] at this)
end
end KW
end
section
set_option Elab.async false
set_option linter.all false
set_option maxRecDepth 100000
set_option maxHeartbeats 4000000
/-! Small plain facts for the walks. -/
namespace KW
open PySem PySem.Spec PyProof.Rows L2
/-! ### ascending lists -/
theorem ints_uniq : ∀ {a b : List Int}, a.Pairwise (· < ·) → b.Pairwise (· < ·) → (∀ r, r ∈ a ↔ r ∈ b) → a = b
  | [], [], _, _, _ => rfl
  | [], y :: b, _, _, h => nomatch (h y).mpr List.mem_cons_self
  | x :: a, [], _, _, h => nomatch (h x).mp List.mem_cons_self
  | x :: a, y :: b, ha, hb, h => by
    obtain ⟨a1, a2⟩ := List.pairwise_cons.mp ha
    obtain ⟨b1, b2⟩ := List.pairwise_cons.mp hb
    have e : x = y := by
      rcases List.mem_cons.mp ((h x).mp List.mem_cons_self) with z | z
      · exact z
      · rcases List.mem_cons.mp ((h y).mpr List.mem_cons_self) with u | u
        · exact u.symm
        · have := a1 y u
          have := b1 x z
          omega
    subst e
    rw [ints_uniq a2 b2 fun r => ⟨fun hr => by
      rcases List.mem_cons.mp ((h r).mp (List.mem_cons_of_mem _ hr)) with z | z
      · subst z; exact absurd (a1 r hr) (Int.lt_irrefl r)
      · exact z, fun hr => by
      rcases List.mem_cons.mp ((h r).mpr (List.mem_cons_of_mem _ hr)) with z | z
      · subst z; exact absurd (b1 r hr) (Int.lt_irrefl r)
      · exact z⟩]
theorem nats_int {ns : List Int} {ks : List Nat} (h : ns.Pairwise (· < ·)) (hk : ks.Pairwise (· < ·)) (e : ∀ r : Int, r ∈ ns ↔ ∃ k : Nat, k ∈ ks ∧ r = k) : ns = ks.map fun (r : Nat) => (r : Int) := by
  refine ints_uniq h ?_ fun r => ?_
  · rw [List.pairwise_map]
    exact hk.imp fun q => by exact_mod_cast q
  · rw [e, List.mem_map]
    exact ⟨fun ⟨k, a, b⟩ => ⟨k, a, b.symm⟩, fun ⟨k, a, b⟩ => ⟨k, a, b.symm⟩⟩
/-- a sorted arrangement of rows -/
theorem nats_le {ns : List Int} {l : List Nat} (h : ns.Perm (l.map fun (r : Nat) => (r : Int))) (hs : ns.Pairwise (· ≤ ·)) : ns = (KP.srt l).map fun (r : Nat) => (r : Int) := by
  have h1 : (ns.map Int.toNat).Perm l := by
    have := h.map Int.toNat
    rw [List.map_map] at this
    have e : (Int.toNat ∘ fun (r : Nat) => (r : Int)) = id := funext fun r => by simp
    rw [e, List.map_id] at this
    exact this
  have h2 : (ns.map Int.toNat).Pairwise (· ≤ ·) := by
    rw [List.pairwise_map]
    exact hs.imp fun q => by omega
  have h3 := KP.srt_of_perm h1 h2
  rw [← h3, List.map_map]
  have h4 : ∀ z, z ∈ ns → ((fun (r : Nat) => (r : Int)) ∘ Int.toNat) z = z := fun z hz => by
    obtain ⟨r, _, e⟩ := List.mem_map.mp (h.mem_iff.mp hz)
    show ((z.toNat : Nat) : Int) = z
    rw [← e]; simp
  have h5 : ns.map ((fun (r : Nat) => (r : Int)) ∘ Int.toNat) = ns.map id := List.map_congr_left fun z hz => h4 z hz
  rw [h5, List.map_id]
theorem nV_iV (l : List Nat) : nV l = iV (l.map fun (r : Nat) => (r : Int)) := (List.map_map ..).symm
/-! ### slices -/
theorem cut_take (xs : List V) (k : Nat) : cutV xs none (some (k : Int)) = xs.take k := by
  unfold cutV
  rw [HT.sIx_none, HT.sIx_nat, List.drop_zero, Nat.sub_zero]
  by_cases h : k ≤ xs.length
  · rw [Nat.min_eq_left h]
  · rw [Nat.min_eq_right (by omega), List.take_of_length_le (Nat.le_refl _), List.take_of_length_le (by omega)]
theorem cut_drop (xs : List V) (k : Nat) : cutV xs (some (k : Int)) none = xs.drop k := by
  unfold cutV
  rw [HT.sIx_none, HT.sIx_nat]
  by_cases h : k ≤ xs.length
  · rw [Nat.min_eq_left h, List.take_of_length_le (Nat.le_of_eq (List.length_drop ..))]
  · rw [Nat.min_eq_right (by omega), List.take_of_length_le (Nat.le_of_eq (List.length_drop ..)), List.drop_of_length_le (Nat.le_refl _), List.drop_of_length_le (by omega)]
/-! ### dicts -/
theorem valV_none' {κ : Type} [DecidableEq κ] : ∀ {kvs : List (κ × V)} {k : κ}, k ∉ kvs.map (·.1) → valV kvs k = none
  | [], _, _ => rfl
  | p :: r, k, h => by
    rw [valV_neg (fun e => h (by rw [List.map_cons, e]; exact List.mem_cons_self))]
    exact valV_none' fun m => h (List.mem_cons_of_mem _ m)
theorem mergeK_app : ∀ {more acc : List (Key × V)}, ((acc ++ more).map (·.1)).Nodup → mergeK acc more = acc ++ more
  | [], acc, _ => (List.append_nil acc).symm
  | p :: r, acc, h => by
    have hp : p.1 ∉ acc.map (·.1) := by
      rw [List.map_append, List.nodup_append] at h
      intro m
      exact h.2.2 _ m _ (List.mem_map.mpr ⟨p, List.mem_cons_self, rfl⟩) rfl
    show mergeK (putK acc p.1 p.2) r = _
    rw [putK_new _ (valV_none' hp)]
    have e : acc ++ [(p.1, p.2)] ++ r = acc ++ p :: r := by simp
    rw [mergeK_app (by rw [e]; exact h), e]
theorem mergeK_nil {more : List (Key × V)} (h : (more.map (·.1)).Nodup) : mergeK [] more = more := mergeK_app (acc := []) h
end KW
end
section
set_option Elab.async false
set_option linter.all false
set_option maxRecDepth 100000
set_option maxHeartbeats 4000000
/-! A dict comprehension that makes things; what stays of tuples. -/
namespace KW
open PySem PySem.Spec PyProof.Rows L2
theorem dc_ex {J : It} {g : TG} {tt : TT} {tk tv : TE} {vs : List Nat} {σ : L2.St} {H H0 H1 : Hp} {D : Addr} {Qd : Hp → Prop} {n : Nat} {Y : Nat → V → Hp → Prop} (jo : JOk J H0 n Y) (hS0 : Same H0 H) (hS : Same H H1) (hD : H1 D = none) (Pv : Nat → List (Key × V) → Hp → Prop) (mono : ∀ i xs G G', Same G G' → Pv i xs G → Pv i xs G')
    (h0 : Pv 0 [] H) (hz : ∀ i xs G, i ≤ n → Pv i xs G → xs.length ≤ 1000000)
    (hs : ∀ i x xs H' (Nx : V → V → Hp → Prop) (Sk : Hp → Prop), i < n → Same H H' → Y i x H' → H' D = some (.dK xs) → Pv i xs (but D H') → (∀ y z k H4, Same H' H4 → y = kV k → Pv (i + 1) (putK xs k z) (but D H4) → Nx y z H4) → (∀ H3, Same H' H3 → Pv (i + 1) xs (but D H3) → Sk H3) →
      g x (wipe σ vs) H' fun σ2 H2 => wipe σ2 vs = wipe σ vs ∧ tt σ2 H2 fun b H3 => if b = true then tk σ2 H3 fun y H4 => tv σ2 H4 fun z H5 => Nx y z H5 else Sk H3)
    (hd : ∀ H' xs, Same H H' → H' D = some (.dK xs) → Pv n xs (but D H') → Qd H') :
    ∃ W : Nat → Nat → Hp → Prop, (∃ m, W 0 m (upd H1 D (.dK []))) ∧ ∀ i m H, W i m H →
      (J.stop i H ∧ Qd H) ∨ (J.go i H ∧ ∃ Nx : Hp → Prop, (∀ H', Nx H' → ∃ m', m' < m ∧ W (i + 1) m' H') ∧ ∀ x H', J.yld i H x H' → g x (wipe σ vs) H' fun σ2 H2 => wipe σ2 vs = wipe σ vs ∧ tt σ2 H2 fun b H3 =>
        if b = true then tk σ2 H3 fun y H4 => tv σ2 H4 fun z H5 => ∃ kvs k, y = kV k ∧ H5 D = some (.dK kvs) ∧ kvs.length < sizeLine ∧ Nx (upd H5 D (.dK (putK kvs k z))) else Nx H3) := by
  have hHD : H D = none := by
    cases e : H D with
    | none => rfl
    | some o => rw [hS _ _ e] at hD; cases hD
  refine ⟨fun i m H' => m = n - i ∧ i ≤ n ∧ Same H H' ∧ ∃ xs, H' D = some (.dK xs) ∧ Pv i xs (but D H'), ⟨n, by simp, Nat.zero_le _, hS.upd' hD, [], upd_same, mono _ _ _ _ (but_none hHD (hS.upd' hD)) h0⟩, ?_⟩
  rintro i m H' ⟨rfl, hi, s, xs, d, pv⟩
  by_cases hlt : i < n
  · refine .inr ⟨jo.go i H' hlt (hS0.trans s), fun H'' => Same H H'' ∧ ∃ xs, H'' D = some (.dK xs) ∧ Pv (i + 1) xs (but D H''), fun H'' p' => ⟨n - (i + 1), by omega, rfl, hlt, p'⟩, fun x H'' y => ?_⟩
    obtain ⟨s2, y⟩ := jo.yld i x H' H'' hlt (hS0.trans s) y
    have pv2 := mono _ _ _ _ (but_mono (D := D) s2) pv
    refine hs i x xs H'' _ _ hlt (s.trans s2) y (s2 _ _ d) pv2 (fun y z k H4 s3 ek e => ⟨xs, k, ek, s3 _ _ (s2 _ _ d), szl (hz i xs _ hi pv), ((s.trans s2).trans s3).updN hHD, _, upd_same, by rw [but_upd]; exact e⟩) fun H3 s3 e => ⟨(s.trans s2).trans s3, xs, s3 _ _ (s2 _ _ d), e⟩
  · have e : i = n := by omega
    subst e
    exact .inl ⟨jo.stop H' (hS0.trans s), hd H' xs s d pv⟩
/-- the tuples stay -/
def TupSame (H H' : Hp) : Prop := ∀ a xs, H a = some (.tup xs) → H' a = some (.tup xs)
theorem TupSame.of {H H' : Hp} (s : Same H H') : TupSame H H' := fun a xs e => s _ _ e
theorem TupSame.trans {H H1 H2 : Hp} (a : TupSame H H1) (b : TupSame H1 H2) : TupSame H H2 := fun c xs e => b c xs (a c xs e)
theorem TupSame.upd {H : Hp} {d : Addr} {o o' : HO} (h : H d = some o) (ho : ∀ xs, o ≠ .tup xs) : TupSame H (L2.upd H d o') := fun a xs e => by
  have : a ≠ d := fun z => by rw [z, h] at e; exact ho _ (Option.some.inj e)
  rw [upd_ne this]; exact e
theorem paired_append {α β : Type} {R : α → β → Prop} : ∀ {xs : List α} {ys : List β} {xs2 : List α} {ys2 : List β}, Paired R xs ys → Paired R xs2 ys2 → Paired R (xs ++ xs2) (ys ++ ys2)
  | _, _, _, _, .nil, q => q
  | _, _, _, _, .cons r t, q => .cons r (paired_append t q)
end KW
end
section
set_option Elab.async false
set_option linter.all false
set_option maxRecDepth 100000
set_option maxHeartbeats 8000000
/-! The walks of Rows' methods and of Base. -/
namespace KW
open PySem PySem.Spec PyProof.Rows L2
section
variable {P : Program} {w : World} {K : PySem.W.Frag} {mg : Str → Option Value} {base : Heap}
/-! ### len, row_at, == -/
def spLen (K : PySem.W.Frag) : Sp := fun vs H Q _ => ∃ (t : Addr) (f : Int) (wd : Nat) (T : List (List Int)), vs = [.ref t] ∧ IsRows K H t f wd T ∧ Q (.int T.length) H
theorem scLen : FnScope ["self"] ["self"] (defScope s_Rows_DlenD) := ⟨rfl, rfl, rfl, by decide +kernel, rfl, by decide +kernel, by decide +kernel⟩
theorem m_len (T : Txt2 P K mg) : C8.Met P w K mg base 1 (He.ga K "Rows") "__len__" (spLen K) [] := by
  obtain ⟨fd, F⟩ := T.fn_Rows_DlenD
  refine mkMet F T.c_Rows T.lenR (fun _ _ _ _ _ _ us hl => match us, hl with | [_], _ => rfl) scLen (fun vs H Q E h => ?_) fun cdv A outer s H vs Q E hr h => ?_
  · obtain ⟨t, f, wd, T', rfl, _⟩ := h
    rfl
  · obtain ⟨t, f, wd, T', rfl, ⟨dx, r, rs, ht, hrr, hp⟩, k⟩ := h
    refine ⟨_, (pss_one (ps_ret (pe_callB call_len_seq (by rfl) T.f_len boot_len (pa_cons (pe_fld (pv 0) rfl) pa_nil)))), ?_⟩
    refine ⟨_, rfl, t, _, _, _, _, rfl, ht, T.c_Rows, T.n_Rows_own_rows, rfl, r, _, rfl, .inr (.inl (.inl hrr)), ?_⟩
    rw [List.length_map, paired_len hp]
    exact k
def spRowAt (K : PySem.W.Frag) : Sp := fun vs H Q _ => ∃ (t : Addr) (f : Int) (wd : Nat) (T : List (List Int)) (x : Nat), vs = [.ref t, .int x] ∧ IsRows K H t f wd T ∧ x < T.length ∧ ∀ p, H p = some (.tup (iV (T.getD x []))) → Q (.ref p) H
theorem scRowAt : FnScope ["self", "row"] ["self", "row"] (defScope s_Rows_row_at) := ⟨rfl, rfl, rfl, by decide +kernel, rfl, by decide +kernel, by decide +kernel⟩
theorem m_row_at (T : Txt2 P K mg) : C8.Met P w K mg base 3 (He.ga K "Rows") "row_at" (spRowAt K) [] := by
  obtain ⟨fd, F⟩ := T.fn_Rows_row_at
  refine mkMet F T.c_Rows T.m_Rows_row_at (fun _ _ _ _ _ _ us hl => match us, hl with | [_, _], _ => rfl) scRowAt (fun vs H Q E h => ?_) fun cdv A outer s H vs Q E hr h => ?_
  · obtain ⟨t, f, wd, T', x, rfl, _⟩ := h
    rfl
  · obtain ⟨t, f, wd, T', x, rfl, ⟨dx, r, rs, ht, hrr, hp⟩, hx, k⟩ := h
    refine ⟨_, (pss_cons (ps_if (pt_not (pt_val (C8.pe_c (c_is_below T.toTxt) hr (by decide) (by rfl) (pa_cons (pv 1) (pa_cons (pe_callB call_len_seq (by rfl) T.f_len boot_len (pa_cons (pe_fld (pv 0) rfl) pa_nil)) pa_nil))))) (pss_one (ps_never)) pss_nil) (pss_one (ps_ret (pe_ix ix_tup (pe_fld (pv 0) rfl) (pv 1) (fun _ _ => rfl))))), ?_⟩
    obtain ⟨row, hrow⟩ : ∃ row, T'[x]? = some row := ⟨_, List.getElem?_eq_getElem hx⟩
    obtain ⟨p, hpx, hpr⟩ := paired_at' hp hrow
    refine ⟨_, rfl, _, rfl, t, _, _, _, _, rfl, ht, T.c_Rows, T.n_Rows_own_rows, rfl, r, _, rfl, .inr (.inl (.inl hrr)), .int x, _, rfl, .inr (.inr (.inl ⟨_, rfl⟩)), _, rfl, ite_f ?_ ?_⟩
    · show (!decide ((0 : Int) ≤ x ∧ (x : Int) < ((rV rs).length : Nat))) = false
      rw [List.length_map, paired_len hp, decide_eq_true (by omega)]; rfl
    · refine ⟨_, rfl, t, _, _, _, _, rfl, ht, T.c_Rows, T.n_Rows_own_rows, rfl, _, rfl, r, _, x, .ref p, rfl, rfl, .inl (.inl hrr), atN (by rw [List.getElem?_map, hpx]; rfl), k p ?_⟩
      rw [List.getD_eq_getElem?_getD, hrow]
      exact hpr
def eqRows (K : PySem.W.Frag) (a b : Addr) (H : Hp) : Prop := ∃ (f : Int) (wd : Nat) (T : List (List Int)), IsRows K H a f wd T ∧ IsRows K H b f wd T
theorem scEq : FnScope ["self", "other"] ["self", "other"] (defScope s_Rows_DeqD) := ⟨rfl, rfl, rfl, by decide +kernel, rfl, by decide +kernel, by decide +kernel⟩
theorem rows_at {H : Hp} {r : Addr} {rs : List Addr} {T : List (List Int)} (h : H r = some (.tup (rV rs))) (p : Paired (fun p l => H p = some (.tup (iV l))) rs T) : At K H (.ref r) (PySem.W.Tup.mk (T.map PySem.W.Tup.mk)) := by
  exact at_tup (.inl (.inl h)) (paired_mapL V.ref (paired_mapR PySem.W.Tup.mk (paired_mono (fun p l e => at_intsT (.inl (.inl e))) p)))
theorem m_eq (T : Txt2 P K mg) : C8.Met P w K mg base 1 (He.ga K "Rows") "__eq__" (spEq (eqRows K)) [] := by
  obtain ⟨fd, F⟩ := T.fn_Rows_DeqD
  refine mkMet F T.c_Rows T.eqR (fun _ _ _ _ _ _ us hl => match us, hl with | [_, _], _ => rfl) scEq (fun vs H Q E h => ?_) fun cdv A outer s H vs Q E hr h => ?_
  · obtain ⟨a, b, rfl, _⟩ := h
    rfl
  · obtain ⟨a, b, rfl, ⟨f, wd, T', ⟨dx, r, rs, ht, hrr, hp⟩, ⟨dx2, r2, rs2, ht2, hrr2, hp2⟩⟩, k⟩ := h
    have hu := hr.units
    refine ⟨_, (pss_one (ps_ret (pe_and (pe_callB (C8.call_isC T.insR) (by rfl) T.f_isinstance boot_isinstance (pa_cons (pv 1) (pa_cons (pe_glob (v := .ref (He.ga K "Rows")) (by rfl) T.g_Rows rfl) pa_nil))) (pe_and (pe_cmpR op_eq (pe_fld (pv 0) rfl) (pe_fld (pv 1) rfl) (nomark _))
       (pe_one (pe_cmpR (op_eqD hu) (pe_fld (pv 0) rfl) (pe_fld (pv 1) rfl) (nomark _))))))), ?_⟩
    refine ⟨_, rfl, b, _, _, rfl, ht2, _, rfl, iteT ?_⟩
    refine ⟨_, rfl, a, _, _, _, _, rfl, ht, T.c_Rows, T.n_Rows_own_field, rfl, _, rfl, b, _, _, _, _, rfl, ht2, T.c_Rows, T.n_Rows_own_field, rfl, rfl, _, rfl, ite_t (decide_eq_true rfl) ?_⟩
    refine ⟨_, rfl, a, _, _, _, _, rfl, ht, T.c_Rows, T.n_Rows_own_rows, rfl, _, rfl, b, _, _, _, _, rfl, ht2, T.c_Rows, T.n_Rows_own_rows, rfl, _, _, rows_at hrr hp, rows_at hrr2 hp2, toD_shaped _, toD_shaped _, ?_⟩
    rw [PySem.W.Datum.eqv, decide_eq_true rfl]
    exact k _ (fun _ _ e => e)
/-! ### Base -/
/-- a dict of rows -/
abbrev kvI (l : List (Nat × Int)) : List (Key × V) := l.map fun z => (.inl (z.1 : Int), .int z.2)
theorem field_bounds {f : Int} (h : isField f) : 0 ≤ f ∧ f ≤ 13 := by
  unfold isField at h
  simp at h
  omega
theorem val_kvI : ∀ (l : List (Nat × Int)) (r : Nat), valV (kvI l) (.inl (r : Int)) = (l.lookup r).map V.int
  | [], _ => rfl
  | (a, z) :: l, r => by
    show valV ((.inl (a : Int), V.int z) :: kvI l) (.inl (r : Int)) = _
    by_cases e : a = r
    · subst e
      rw [valV_pos (p := ((Sum.inl (a : Int) : Key), V.int z)) rfl, List.lookup_cons, beq_self_eq_true]; rfl
    · have e2 : ¬ ((.inl (a : Int) : Key) = .inl (r : Int)) := fun h => e (Int.ofNat.inj (Sum.inl.inj h))
      have e3 : (r == a) = false := beq_eq_false_iff_ne.mpr (Ne.symm e)
      rw [valV_neg (p := ((Sum.inl (a : Int) : Key), V.int z)) e2, val_kvI l r, List.lookup_cons, e3]
theorem val_pf (l : List (Nat × Int)) (r : Nat) : (valV (kvI l) (.inl (r : Int))).getD (.int 0) = .int (KP.pf l r) := by
  rw [val_kvI]
  unfold KP.pf
  cases l.lookup r <;> rfl
theorem kvI_keys (l : List (Nat × Int)) : ((kvI l).map fun kv => kV kv.1) = nV (l.map (·.1)) := by rw [List.map_map, nV, List.map_map]; rfl
def IsStp (H : Hp) (t : Addr) (s : KP.Stp) : Prop := ∃ k m, H t = some (.tup [.int s.lead, .ref k, .ref m]) ∧ H k = some (.lst (iV s.known)) ∧ H m = some (.dK (kvI s.makers))
theorem IsStp.same {H H' : Hp} {t : Addr} {s : KP.Stp} (e : Same H H') (h : IsStp H t s) : IsStp H' t s := let ⟨k, m, a, b, c⟩ := h; ⟨k, m, e _ _ a, e _ _ b, e _ _ c⟩
def IsBase (K : PySem.W.Frag) (H : Hp) (b t st : Addr) (steps : List KP.Stp) : Prop :=
  (∃ dx, H b = some (.ins (He.ga K "Base") dx [("own_table", .ref t), ("steps", .ref st)])) ∧ ∃ ts, H st = some (.lst (rV ts)) ∧ Paired (IsStp H) ts steps
theorem IsBase.same {H H' : Hp} {b t st : Addr} {steps : List KP.Stp} (e : Same H H') (h : IsBase K H b t st steps) : IsBase K H' b t st steps :=
  let ⟨⟨dx, x⟩, ts, y, z⟩ := h; ⟨⟨dx, e _ _ x⟩, ts, e _ _ y, paired_mono (fun _ _ q => q.same e) z⟩
def spBaseInit (K : PySem.W.Frag) : Sp := fun vs H Q _ => ∃ (b dx t : Addr), vs = [.ref b, .ref t] ∧ H b = some (.ins (He.ga K "Base") dx []) ∧ ∀ H' st, SameBut [b] H H' → IsBase K H' b t st [] → H st = none → Q .non H'
theorem scBaseInit : FnScope ["self", "table"] ["self", "table"] (defScope s_Base_DinitD) := ⟨rfl, rfl, rfl, by decide +kernel, rfl, by decide +kernel, by decide +kernel⟩
theorem mk_Base (T : Txt2 P K mg) : C8.Mak P w K mg base 1 "Base" (He.ga K "Base") (spBaseInit K) [] := by
  obtain ⟨fd, F⟩ := T.fn_Base_DinitD
  refine mkMak F T.mk_Base T.g_Base (fun _ _ _ _ _ _ us hl => match us, hl with | [_, _], _ => rfl) scBaseInit (fun vs H Q E h => ?_) fun cdv A outer s H vs Q E hr h => ?_
  · obtain ⟨b, dx, t, rfl, _⟩ := h
    rfl
  · obtain ⟨b, dx, t, rfl, hb, k⟩ := h
    refine ⟨_, (pss_cons (ps_fld (pv 0) (pv 1) rfl) (pss_one (ps_fld (pv 0) (pe_lst pa_nil) rfl))), ?_⟩
    refine ⟨_, rfl, _, rfl, b, _, _, _, rfl, hb, T.c_Base, T.n_Base_own_table, by show 0 < 1000; omega, ?_⟩
    refine ⟨Nat.zero_le _, fun q hq => ?_⟩
    have hqb : q ≠ b := fun z => by rw [z, upd_same] at hq; cases hq
    have hq0 : H q = none := by rw [upd_ne hqb] at hq; exact hq
    refine ⟨_, rfl, b, _, _, _, rfl, by rw [upd_ne (Ne.symm hqb)]; exact upd_same, T.c_Base, T.n_Base_steps, by show 1 < 1000; omega, ?_⟩
    refine k _ q ((((SameBut.of (Same.refl H)).upd (.inl List.mem_cons_self)).upd (.inr hq0)).upd (.inl List.mem_cons_self)) ⟨⟨dx, upd_same⟩, [], ?_, .nil⟩ hq0
    rw [upd_ne hqb]
    exact upd_same
/-- what stands of a table: reduced, small, narrow -/
structure TabC (f : Int) (wd n : Nat) (T : List (List Int)) : Prop where
  D : KP.Dom f
  fld : isField f
  tab : KP.TabOk f wd n T
  wd3 : wd ≤ 3
  n5 : n ≤ 20
abbrev nmLeft : List Str := ["self", "row", "field", "numbers", "parts", "lead", "known", "makers", "up", "down", "keys", "counts", "whole", "x", "y", "key"]
theorem scLeft : FnScope nmLeft ["self", "row"] (defScope s_Base_left_of) := ⟨rfl, rfl, rfl, by decide +kernel, rfl, by decide +kernel, by decide +kernel⟩
theorem scField : FnScope ["self"] ["self"] (defScope s_Rows_field) := ⟨rfl, rfl, rfl, by decide +kernel, rfl, by decide +kernel, by decide +kernel⟩
def spLeft (K : PySem.W.Frag) : Sp := fun vs H Q _ => ∃ (b t st : Addr) (f : Int) (wd n x : Nat) (T : List (List Int)) (steps : List KP.Stp) (rows : Nat → Prop), vs = [.ref b, .int x] ∧ IsBase K H b t st steps ∧ IsRows K H t f wd T ∧ TabC f wd n T ∧ x < n ∧ ¬ rows x ∧ KP.StpsOk f wd n T rows steps ∧
  ∀ H' p a d, Same H H' → H p = none → H' p = some (.tup [.ref a, .ref d]) → H' a = some (.lst (iV (KP.leftOf f n T steps x).1)) → H' d = some (.dK (kvI (KP.leftOf f n T steps x).2)) → Q (.ref p) H'
def npAt (f : Int) (n : Nat) (T : List (List Int)) (x : Nat) (steps : List KP.Stp) (i : Nat) : List Int × List (Nat × Int) := (steps.take i).foldl (KP.redStep f n) (T.getD x [], [(x, 1)])
theorem npAt_succ {f : Int} {n x i : Nat} {T : List (List Int)} {steps : List KP.Stp} {s : KP.Stp} (h : steps[i]? = some s) : npAt f n T x steps (i + 1) = KP.redStep f n (npAt f n T x steps i) s := by
  unfold npAt
  rw [take_more h, List.foldl_append]; rfl
theorem npAt_end {f : Int} {n x : Nat} {T : List (List Int)} {steps : List KP.Stp} : npAt f n T x steps steps.length = KP.leftOf f n T steps x := by
  unfold npAt KP.leftOf
  rw [List.take_length]
theorem npAt_ok {f : Int} {wd n x : Nat} {T : List (List Int)} {steps : List KP.Stp} {rows : Nat → Prop} (tc : TabC f wd n T) (hx : x < n) (hxr : ¬ rows x) (so : KP.StpsOk f wd n T rows steps) : ∀ i, i ≤ steps.length → KP.LeftOk f wd n T rows x steps i (npAt f n T x steps i)
  | 0, _ => KP.leftOf_start tc.D tc.tab hx steps
  | i + 1, h => by
    obtain ⟨s, hs⟩ : ∃ s, steps[i]? = some s := ⟨_, List.getElem?_eq_getElem (by omega)⟩
    rw [npAt_succ hs]
    exact KP.leftOf_step tc.D (field_bounds tc.fld).1 (field_bounds tc.fld).2 hxr so (npAt_ok tc hx hxr so i (by omega)) hs
theorem getD_get {l : List Int} {i : Nat} (h : i < l.length) : l[i]? = some (l.getD i 0) := by rw [List.getD_eq_getElem?_getD, List.getElem?_eq_getElem h]; rfl
theorem atIv {l : List Int} {i : Nat} (h : i < l.length) : atI (iV l) (i : Int) = some (.int (l.getD i 0)) := atN (by rw [List.getElem?_map, getD_get h]; rfl)
theorem small64 {z : Int} {b : Nat} (h : z.natAbs ≤ 2 ^ b) (hb : b ≤ 40) : -(2 ^ 64) < z ∧ z < 2 ^ 64 := by
  have : (2 : Nat) ^ b ≤ 2 ^ 40 := Nat.pow_le_pow_right (by decide) hb
  have e : (2 : Nat) ^ 40 = 1099511627776 := by decide
  omega
theorem bet_le {i : Nat} (h : i ≤ 2) : KP.bet i ≤ 35 := by
  have := KP.bet_mono h
  have e : KP.bet 2 = 35 := rfl
  omega
theorem nd_len {l : List Nat} {n : Nat} (h : l.Pairwise (· < ·)) (hl : ∀ r, r ∈ l → r < n) : l.length ≤ n := KP.nodup_le n l (h.imp fun {_ _} => Nat.ne_of_lt) hl
theorem mem_zw {g : Int → Int → Int} : ∀ {a b : List Int} {z : Int}, z ∈ List.zipWith g a b → ∃ x y, x ∈ a ∧ y ∈ b ∧ z = g x y
  | [], _, _, h => by simp at h
  | _ :: _, [], _, h => by simp at h
  | x :: a, y :: b, z, h => by
    rw [List.zipWith_cons_cons] at h
    rcases List.mem_cons.mp h with rfl | h
    · exact ⟨x, y, List.mem_cons_self, List.mem_cons_self, rfl⟩
    · obtain ⟨p, q, h1, h2, h3⟩ := mem_zw h
      exact ⟨p, q, List.mem_cons_of_mem _ h1, List.mem_cons_of_mem _ h2, h3⟩
theorem pf_le {l : List (Nat × Int)} {b k : Nat} (h : ∀ z, z ∈ l → z.2.natAbs ≤ 2 ^ b) : (KP.pf l k).natAbs ≤ 2 ^ b := by
  by_cases e : KP.pf l k = 0
  · rw [e]; exact Nat.zero_le _
  · exact h _ (KP.pf_mem e)
theorem lin_big {f : Int} {w n : Nat} {T : List (List Int)} {r1 r2 : Nat → Prop} {b : Nat} {sp : KP.Stp} {nums : List Int} {parts : List (Nat × Int)} (M : KP.Mad f w n T r1 b nums parts) (N : KP.Mad f w n T r2 b sp.known sp.makers) (h1 : sp.lead < nums.length) (h2 : sp.lead < sp.known.length) (hb : b ≤ 35) :
    ∀ z, z ∈ KP.nums1 sp nums ++ KP.counts1 n sp nums parts → z.natAbs ≤ 2 ^ 100 := by
  intro z hz
  refine Nat.le_trans ?_ (Nat.pow_le_pow_right (by decide) (show 2 * b + 1 ≤ 100 by omega))
  rcases List.mem_append.mp hz with hz | hz
  · obtain ⟨x, y, hx, hy, rfl⟩ := mem_zw hz
    exact KP.natAbs_lin (N.big _ (KP.getD_mem0 h2)) (M.big _ hx) (M.big _ (KP.getD_mem0 h1)) (N.big _ hy)
  · obtain ⟨k, _, rfl⟩ := List.mem_map.mp hz
    exact KP.natAbs_lin (N.big _ (KP.getD_mem0 h2)) (pf_le M.bigp) (M.big _ (KP.getD_mem0 h1)) (pf_le N.bigp)
theorem kv_zipI : ∀ (ks : List Nat) (vs : List Int), (ks.map fun (r : Nat) => (Sum.inl (r : Int) : Key)).zip (iV vs) = kvI (ks.zip vs)
  | [], _ => rfl
  | _ :: _, [] => rfl
  | k :: ks, v :: vs => by
    show (_, _) :: ((ks.map fun (r : Nat) => (Sum.inl (r : Int) : Key)).zip (iV vs)) = _
    rw [kv_zipI ks vs]; rfl
theorem get_map {α β : Type} {g : α → β} {l : List α} {i : Nat} {z : β} (h : (l.map g)[i]? = some z) : ∃ k, l[i]? = some k ∧ z = g k := by
  rw [List.getElem?_map] at h
  cases e : l[i]? with
  | none => rw [e] at h; cases h
  | some k => rw [e] at h; cases h; exact ⟨k, rfl, rfl⟩
theorem kV_ks (ks : List Nat) : iV (ks.map fun (r : Nat) => (r : Int)) = (ks.map fun (r : Nat) => (Sum.inl (r : Int) : Key)).map kV := by
  show List.map _ (List.map _ _) = _
  rw [List.map_map, List.map_map]; rfl
theorem kvI_nodup {l : List (Nat × Int)} (h : (l.map (·.1)).Nodup) : ((kvI l).map (·.1)).Nodup := by
  have e : (kvI l).map (·.1) = (l.map (·.1)).map fun (r : Nat) => (Sum.inl (r : Int) : Key) := by
    show List.map _ (List.map _ _) = _
    rw [List.map_map, List.map_map]; rfl
  rw [e]
  exact List.Pairwise.map _ (fun a b hab z => hab (Int.ofNat.inj (Sum.inl.inj z))) h
theorem m_left (T : Txt2 P K mg) : C8.Met P w K mg base 4 (He.ga K "Base") "left_of" (spLeft K) [] := by
  obtain ⟨fd, F⟩ := T.fn_Base_left_of
  obtain ⟨pp, gg, fdF, hpF, FP⟩ := T.pField
  refine mkMet F T.c_Base T.m_Base_left_of (fun _ _ _ _ _ _ us hl => match us, hl with | [_, _], _ => rfl) scLeft (fun vs H Q E h => ?_) fun cdv A outer s H vs Q E hr h => ?_
  · obtain ⟨b, t, st, f, wd, n, x, T', steps, rows, rfl, _⟩ := h
    rfl
  · obtain ⟨b, t, st, f, wd, n, x, T', steps, rows, rfl, hbase, hrows, tc, hx, hxr, so, k⟩ := h
    have hu : A.units + 3 + 1 < cLine := by have := hr.un; have e : (A.deeper (envOfC "Base.left_of" (defScope s_Base_left_of) s.heap.objs.size (He.fAd K ("Base", some "left_of")) cdv)).units = A.units + 3 := rfl; omega
    refine ⟨_, (pss_cons (ps_set (i := 2) scLeft.nd rfl (Or.inl rfl) (pe_get T.c_Rows T.n_Rows_own_field hpF FP hr (by decide) (pe_fld (pv 0) rfl) ⟨_, _, _, rfl⟩ scField (fun _ _ _ _ _ _ us hl => match us, hl with | [_], _ => rfl))) (pss_cons (ps_asg (pe_tup (pa_cons (pe_callTy call_list_of (by rfl) T.f_list (boot_T "list") (pa_cons (C8.pe_mt (m_row_at T) hr (by decide) (pe_fld (pv 0) rfl) (pa_cons (pv 1) pa_nil)) pa_nil)) (pa_cons (pe_disp (pps_cons (pv 1) pe_int pps_nil) rfl rfl (by simp) (by decide)) pa_nil))) (pg_tup rfl (pgs_cons (pg_name (i := 3) scLeft.nd rfl (Or.inl rfl)) (pgs_cons (pg_name (i := 4) scLeft.nd rfl (Or.inr rfl)) pgs_nil)))) (pss_cons (ps_for PassesOwn.never rfl (pi_list (pe_fld (pv 0) rfl)) (pg_tup rfl (pgs_cons (pg_name (i := 5) scLeft.nd rfl (Or.inl rfl)) (pgs_cons (pg_name (i := 6) scLeft.nd rfl (Or.inl rfl)) (pgs_cons (pg_name (i := 7) scLeft.nd rfl (Or.inr rfl)) pgs_nil))))
        (pss_one (ps_if (pt_cmpR op_ne (pe_ix ix_list (pv 3) (pv 5) (fun _ _ => rfl)) pe_int (nomark _))
          (pss_cons (ps_asg (pe_tup (pa_cons (pe_ix ix_list (pv 6) (pv 5) (fun _ _ => rfl)) (pa_cons (pe_ix ix_list (pv 3) (pv 5) (fun _ _ => rfl)) pa_nil))) (pg_tup rfl (pgs_cons (pg_name (i := 8) scLeft.nd rfl (Or.inr rfl)) (pgs_cons (pg_name (i := 9) scLeft.nd rfl (Or.inr rfl)) pgs_nil)))) (pss_cons (ps_set (i := 10) scLeft.nd rfl (Or.inl rfl) (pe_callB (cr_sortedSet rfl) (by rfl) T.f_sorted boot_sorted (pa_cons (pe_callTy (cr_setOf rfl) (by rfl) T.f_set (boot_T "set") (pa_cons (pe_lst (pa_starD rfl (pv 4) (pa_starD rfl (pv 7) pa_nil))) pa_nil)) pa_nil))) (pss_cons (ps_setLc (i := 3) (own := [("x", 13), ("y", 14)]) (g := gTup K 2 (gCons (gName 13) (gCons (gName 14) gNil))) (tt := tYes) rfl scLeft.nd rfl rfl rfl (pi_zip (by rfl) T.f_zip (pa_cons (pv 3) (pa_cons (pv 6) pa_nil))) (blkOk_by (N := nmLeft) (sc := defScope s_Base_left_of) (by decide +kernel))
                (fun _ _ _ _ _ => pg_tup rfl (pgs_cons (pg_name (i := 13) scLeft.nd rfl (Or.inl rfl)) (pgs_cons (pg_name (i := 14) scLeft.nd rfl (Or.inl rfl)) pgs_nil))) (fun _ _ _ _ _ => pts_nil) (fun _ _ _ _ _ => pe_op op_sub (pe_op op_mul (pv 8) (pv 13)) (pe_op op_mul (pv 9) (pv 14)))) (pss_cons (ps_setLc (i := 11) (own := [("key", 15)]) (g := gName 15) (tt := tYes) rfl scLeft.nd rfl rfl rfl (pi_list (pv 10)) (blkOk_by (N := nmLeft) (sc := defScope s_Base_left_of) (by decide +kernel))
                (fun _ _ _ _ _ => pg_name (i := 15) scLeft.nd rfl (Or.inl rfl)) (fun _ _ _ _ _ => pts_nil) (fun _ _ _ _ _ => pe_op op_sub (pe_op op_mul (pv 8) (pe_dget2 hu (pv 4) (pv 15) pe_int ⟨rfl, rfl, rfl, rfl⟩)) (pe_op op_mul (pv 9) (pe_dget2 hu (pv 7) (pv 15) pe_int ⟨rfl, rfl, rfl, rfl⟩)))) (pss_cons (ps_set (i := 12) scLeft.nd rfl (Or.inl rfl) (C8.pe_c (c_leaned T.toTxt) hr (by decide) (by rfl) (pa_cons (pe_lst (StX.pa_star (pv 3) (StX.pa_star (pv 11) pa_nil))) (pa_cons (pv 2) pa_nil)))) (pss_one (ps_asg (pe_tup (pa_cons (pe_slice sl_list (pv 12) po_none (po_some (pe_callB call_len_seq (by rfl) T.f_len boot_len (pa_cons (pv 3) pa_nil)))) (pa_cons (pe_dictZip rfl (by rfl) T.f_dict (by rfl) T.f_zip (pa_cons (pv 10) (pa_cons (pe_slice sl_list (pv 12) (po_some (pe_callB call_len_seq (by rfl) T.f_len boot_len (pa_cons (pv 3) pa_nil))) po_none) pa_nil))) pa_nil))) (pg_tup rfl (pgs_cons (pg_name (i := 3) scLeft.nd rfl (Or.inl rfl)) (pgs_cons (pg_name (i := 4) scLeft.nd rfl (Or.inr rfl)) pgs_nil)))))))))) pss_nil))) (pss_one (ps_ret (pe_tup (pa_cons (pv 3) (pa_cons (pv 4) pa_nil)))))))), ?_⟩
    obtain ⟨⟨dxb, hb⟩, ts, hst, hts⟩ := hbase
    obtain ⟨dxt, r, rs, ht, hrr, hp⟩ := hrows
    have hlenT : T'.length = n := tc.tab.len
    obtain ⟨hf0, hf13⟩ := field_bounds tc.fld
    have hsl : steps.length ≤ wd := so.length
    refine ⟨_, rfl, b, _, _, _, _, rfl, hb, T.c_Base, T.n_Base_own_table, rfl, t, _, _, rfl, ht, t, _, _, .int f, rfl, ht, rfl, ?_⟩
    refine ⟨_, rfl, b, _, _, _, _, rfl, hb, T.c_Base, T.n_Base_own_table, rfl, t, _, _, rfl, ht, rfl, _, rfl, t, f, wd, T', x, rfl, ⟨dxt, r, rs, ht, hrr, hp⟩, by omega, fun p hpr => ?_⟩
    refine ⟨p, _, rfl, .inr (.inl (.inl hpr)), fun a1 ha1 d1 hd1 => ?_⟩
    refine ⟨_, rfl, upd_same, [(.inl (x : Int), .int 1)], rfl, by simp, sz (by simp), fun p2 hp2 => ?_⟩
    refine ⟨p2, _, rfl, .inl (.inl upd_same), rfl, _, _, rfl, _, _, rfl, rfl, ?_⟩
    generalize hH5 : upd (upd (upd (upd H a1 _) d1 _) d1 _) p2 _ = H5
    have s5 : Same H H5 := by
      rw [← hH5]
      have q1 : Same H (upd H a1 (.lst (iV (T'.getD x [])))) := Same.upd ha1
      have q2 : H d1 = none := q1.free hd1
      refine Same.updN (Same.updN (Same.updN q1 q2) q2) ?_
      exact (Same.updN (Same.updN q1 q2) q2).free hp2
    have n1 : a1 ≠ d1 := ne_of_none upd_same hd1
    have h4a : (upd (upd (upd H a1 (.lst (iV (T'.getD x [])))) d1 (.dK [])) d1 (.dK (mergeK [] [(.inl (x : Int), .int 1)]))) a1 = some (.lst (iV (T'.getD x []))) := by rw [upd_ne n1, upd_ne n1, upd_same]
    have h5a : H5 a1 = some (.lst (iV (T'.getD x []))) := by
      rw [← hH5, upd_ne (ne_of_none h4a hp2)]; exact h4a
    have h5d : H5 d1 = some (.dK (kvI [(x, 1)])) := by
      rw [← hH5, upd_ne (ne_of_none upd_same hp2)]; exact upd_same
    refine ⟨_, rfl, b, _, _, _, _, rfl, s5 _ _ hb, T.c_Base, T.n_Base_steps, rfl, st, rfl, ⟨_, SqL.of (s5 _ _ hst)⟩, ?_⟩
    have htl : ts.length = steps.length := paired_len hts
    refine for_it (jo_list (SqL.of hst)) (fun i σ H' => ∃ a d v5 v6 v7 v8 v9 v10 v11 v12, σ = [some (.ref b), some (.int x), some (.int f), some (.ref a), some (.ref d), v5, v6, v7, v8, v9, v10, v11, v12, none, none, none] ∧ Same H H' ∧ H' a = some (.lst (iV (npAt f n T' x steps i).1)) ∧ H' d = some (.dK (kvI (npAt f n T' x steps i).2)))
      ⟨a1, d1, none, none, none, none, none, none, none, none, rfl, s5, h5a, h5d⟩ (fun i σ H' _ ⟨_, _, _, _, _, _, _, _, _, _, _, h, _⟩ => h) ?_ ?_
    · rintro i v σ H6 H7 hi ⟨a, d, v5, v6, v7, v8, v9, v10, v11, v12, rfl, s6, ha6, hd6⟩ s67 hv
      obtain ⟨tp, hti, rfl⟩ := at_map hv
      obtain ⟨sp, hsi, kk, mm, htp, hkk, hmm⟩ := paired_at hts hti
      have s7 := s6.trans s67
      have ha := s67 _ _ ha6
      have hd := s67 _ _ hd6
      have hil : i < steps.length := (List.getElem?_eq_some_iff.mp hsi).1
      have L := npAt_ok tc hx hxr so i (by omega)
      have M := L.mad
      have N := so.made i sp hsi
      obtain ⟨hld, _⟩ := so.lead i sp hsi
      have hi2 : i ≤ 2 := by have := tc.wd3; omega
      have hb35 := bet_le hi2
      generalize hnp : npAt f n T' x steps i = np at L M ha hd
      have hz : sp.lead < np.1.length := by rw [M.len]; exact hld
      have hzk : sp.lead < sp.known.length := by rw [N.len]; exact hld
      refine ⟨tp, _, rfl, .inl (.inl (s7 _ _ htp)), rfl, _, _, rfl, _, _, rfl, _, _, rfl, rfl, ?_⟩
      refine ⟨_, rfl, _, rfl, a, _, _, _, rfl, rfl, SqL.of ha, atIv hz, rfl, _, rfl, ?_⟩
      by_cases h0 : np.1.getD sp.lead 0 = 0
      · refine ite_f (by rw [h0]; rfl) ⟨a, d, _, _, _, _, _, _, _, _, rfl, s7, ?_, ?_⟩
        · rw [npAt_succ hsi, hnp]; unfold KP.redStep; rw [if_neg (fun z => z h0)]; exact ha
        · rw [npAt_succ hsi, hnp]; unfold KP.redStep; rw [if_neg (fun z => z h0)]; exact hd
      · refine ite_t (by rw [decide_eq_false (fun z => h0 (V.int.inj z))]; rfl) ?_
        refine ⟨_, rfl, _, rfl, kk, _, _, _, rfl, rfl, SqL.of (s7 _ _ hkk), atIv hzk, _, rfl, _, rfl, a, _, _, _, rfl, rfl, SqL.of ha, atIv hz, sz (by simp), fun p8 hp8 => ?_⟩
        refine ⟨p8, _, rfl, .inl (.inl upd_same), rfl, _, _, rfl, _, _, rfl, rfl, ?_⟩
        generalize hH8 : upd H7 p8 _ = H8
        have s8 : Same H7 H8 := by rw [← hH8]; exact Same.upd hp8
        have l1 : np.2.length ≤ 20 := by
          have := nd_len M.srt (fun r hr => (M.keys r hr).2)
          rw [List.length_map] at this; have := tc.n5; omega
        have l2 : sp.makers.length ≤ 20 := by
          have := nd_len N.srt (fun r hr => (N.keys r hr).2)
          rw [List.length_map] at this; have := tc.n5; omega
        refine ⟨_, rfl, d, _, rfl, s8 _ _ hd, _, rfl, mm, _, rfl, s8 _ _ (s7 _ _ hmm), by unfold sizeLine; simp; omega, fun p9 hp9 => ?_⟩
        rw [kvI_keys, kvI_keys, List.append_nil, nV_iV, nV_iV]
        refine ⟨p9, (np.2.map (·.1) ++ sp.makers.map (·.1)).map fun (r : Nat) => (r : Int), rfl, SqL.of (by rw [upd_same, List.map_append, List.map_append]), by simp; omega, fun c p10 hc hp10 => ?_⟩
        refine ⟨p10, _, _, rfl, upd_same, by simp at hc; omega, fun ns p11 hns hnk _ hp11 => ?_⟩
        have ek : ns = (KP.keys2 n np.2 sp.makers).map fun (r : Nat) => (r : Int) := nats_int hns (KP.keys2_sorted n _ _) fun r => by
          rw [hnk r, decide_eq_true_iff]
          constructor
          · intro h
            obtain ⟨k, hk, rfl⟩ := List.mem_map.mp h
            rcases List.mem_append.mp hk with hk | hk
            · exact ⟨k, KP.mem_keys2.mpr ⟨(M.keys k hk).2, .inl hk⟩, rfl⟩
            · exact ⟨k, KP.mem_keys2.mpr ⟨(N.keys k hk).2, .inr hk⟩, rfl⟩
          · rintro ⟨k, hk, rfl⟩
            exact List.mem_map.mpr ⟨k, List.mem_append.mpr (KP.mem_keys2.mp hk).2, rfl⟩
        subst ek
        generalize hH11 : upd (upd (upd H8 p9 _) p10 _) p11 _ = H11
        have s11 : Same H8 H11 := by
          rw [← hH11]
          exact ((Same.upd hp9).upd' hp10).upd' hp11
        have hk11 : H11 p11 = some (.lst (iV ((KP.keys2 n np.2 sp.makers).map fun (r : Nat) => (r : Int)))) := by rw [← hH11, upd_same]
        clear hH11 hnk hns
        have s711 := s8.trans s11
        have hlk : np.1.length = sp.known.length := by rw [M.len, N.len]
        have hup := small64 (N.big _ (KP.getD_mem0 hzk)) (Nat.le_trans hb35 (by decide))
        have hdn := small64 (M.big _ (KP.getD_mem0 hz)) (Nat.le_trans hb35 (by decide))
        have hl1 : (KP.nums1 sp np.1).length = np.1.length := by unfold KP.nums1; rw [List.length_zipWith]; omega
        have hlc : (KP.counts1 n sp np.1 np.2).length = (KP.keys2 n np.2 sp.makers).length := List.length_map ..
        have hkl : (KP.keys2 n np.2 sp.makers).length ≤ 20 := by
          have := nd_len (KP.keys2_sorted n np.2 sp.makers) (fun r hr => (KP.mem_keys2.mp hr).1)
          have := tc.n5; omega
        have hwl : np.1.length ≤ 3 := by rw [M.len]; exact tc.wd3
        refine ⟨_, rfl, _, rfl, a, kk, _, _, rfl, SqL.of (s711 _ _ ha), SqL.of (s711 _ _ (s7 _ _ hkk)), fun D1 hD1 => ?_⟩
        refine lc_it (jo_zip (SqL.of (s711 _ _ ha)) (SqL.of (s711 _ _ (s7 _ _ hkk))) (by rw [List.length_map, List.length_map, hlk])) (Same.refl _) (Same.refl H11) hD1 (fun i => iV ((KP.nums1 sp np.1).take i)) rfl (fun i _ => by simp; omega) (fun i v H12 Nx Sk hi s12 y kN _ => ?_) (fun H12 s12 h12 => ?_)
        · obtain ⟨T2, x2, y2, rfl, hT2, hx2, hy2⟩ := y
          obtain ⟨x3, hx3, rfl⟩ := at_map hx2
          obtain ⟨y3, hy3, rfl⟩ := at_map hy2
          refine ⟨T2, _, rfl, .inl (.inl hT2), rfl, _, _, rfl, _, _, rfl, rfl, ⟨rfl, ?_⟩⟩
          refine ⟨_, rfl, _, rfl, _, _, rfl, rfl, .inl hup, _, rfl, _, rfl, _, _, rfl, rfl, .inl hdn, _, _, rfl, rfl, kN _ _ (Same.refl _) ?_⟩
          have e : (KP.nums1 sp np.1)[i]? = some (sp.known.getD sp.lead 0 * x3 - np.1.getD sp.lead 0 * y3) := by
            unfold KP.nums1; rw [List.getElem?_zipWith, hx3, hy3]
          rw [take_more e]
          exact iV_snoc _ _
        · rw [List.length_map, List.take_of_length_le (by omega)] at h12
          have hk12 := s12 _ _ hk11
          refine ⟨_, rfl, p11, rfl, ⟨_, SqL.of hk12⟩, fun D2 hD2 => ?_⟩
          refine lc_it (jo_list (SqL.of hk12)) (Same.refl _) (Same.refl H12) hD2 (fun i => iV ((KP.counts1 n sp np.1 np.2).take i)) rfl (fun i _ => by simp; omega) (fun i v H13 Nx Sk hi s13 hv kN _ => ?_) (fun H13 s13 h13 => ?_)
          · obtain ⟨z, hz3, rfl⟩ := at_map hv
            obtain ⟨k3, hk3, rfl⟩ := get_map hz3
            have s713 := (s711.trans s12).trans s13
            refine ⟨rfl, ?_⟩
            refine ⟨_, rfl, _, rfl, d, rfl, .inl ⟨_, .inl (s713 _ _ hd)⟩, _, rfl, _, DGet.k (k := .inl (k3 : Int)) (s713 _ _ hd), _, _, rfl, val_pf np.2 k3, .inl hup, ?_⟩
            refine ⟨_, rfl, _, rfl, mm, rfl, .inl ⟨_, .inl (s713 _ _ (s7 _ _ hmm))⟩, _, rfl, _, DGet.k (k := .inl (k3 : Int)) (s713 _ _ (s7 _ _ hmm)), _, _, rfl, val_pf sp.makers k3, .inl hdn, ?_⟩
            refine ⟨_, _, rfl, rfl, kN _ _ (Same.refl _) ?_⟩
            have e : (KP.counts1 n sp np.1 np.2)[i]? = some (sp.known.getD sp.lead 0 * KP.pf np.2 k3 - np.1.getD sp.lead 0 * KP.pf sp.makers k3) := by
              unfold KP.counts1; rw [List.getElem?_map, hk3]; rfl
            rw [take_more e]
            exact iV_snoc _ _
          · rw [List.length_map, List.length_map, List.take_of_length_le (by omega)] at h13
            refine ⟨_, rfl, D1, _, rfl, .inr (SqL.of (s13 _ _ h12)), _, rfl, D2, _, rfl, .inr (SqL.of h13), by unfold sizeLine; simp; omega, fun p14 hp14 => ?_⟩
            refine ⟨_, rfl, p14, f, KP.nums1 sp np.1 ++ KP.counts1 n sp np.1 np.2, rfl, by rw [upd_same, List.append_nil, ← List.map_append], by rw [List.length_append]; omega, lin_big M N hz hzk hb35, fun H15 p15 s15 hp15 hl15 => ?_⟩
            have s1315 : Same H13 H15 := (Same.upd hp14).trans s15
            have s715 := ((s711.trans s12).trans s13).trans s1315
            have h15 := s1315 _ _ (s13 _ _ h12)
            refine ⟨_, rfl, _, rfl, D1, _, rfl, .inl (SqL.of h15), _, rfl, p15, _, rfl, SqL.of hl15, fun p16 hp16 => ?_⟩
            have hne : p15 ≠ p16 := ne_of_none hl15 hp16
            refine ⟨_, rfl, _, rfl, _, rfl, D1, _, rfl, .inl (SqL.of (by rw [upd_ne (ne_of_none h15 hp16)]; exact h15)), _, rfl, p15, _, rfl, SqL.of (by rw [upd_ne hne]; exact hl15), fun p17 hp17 => ?_⟩
            have hlen : (iV (KP.nums1 sp np.1)).length = (KP.nums1 sp np.1).length := List.length_map ..
            rw [hlen] at hp17 ⊢
            rw [cut_take, ← List.map_take] at hp17 ⊢
            rw [cut_drop, ← List.map_drop]
            have hk15 := s1315 _ _ (s13 _ _ hk12)
            have h16 : upd H15 p16 (.lst (iV ((KP.leaned f (KP.nums1 sp np.1 ++ KP.counts1 n sp np.1 np.2)).take (KP.nums1 sp np.1).length))) p11 = some (.lst (iV ((KP.keys2 n np.2 sp.makers).map fun (r : Nat) => (r : Int)))) := by
              rw [upd_ne (ne_of_none hk15 hp16)]; exact hk15
            have hll : (KP.leaned f (KP.nums1 sp np.1 ++ KP.counts1 n sp np.1 np.2)).length = (KP.nums1 sp np.1).length + (KP.keys2 n np.2 sp.makers).length := by
              rw [KP.leaned_length, List.length_append, hlc]
            refine ⟨p11, p17, (KP.keys2 n np.2 sp.makers).map fun (r : Nat) => (Sum.inl (r : Int) : Key), _, rfl, SqL.of ?_, SqL.of upd_same, ?_, ?_, fun p18 hp18 => ?_⟩
            · rw [upd_ne (ne_of_none h16 hp17), h16, kV_ks]
            · rw [List.length_map, List.length_map, List.length_drop]; omega
            · rw [List.length_map]; omega
            · rw [kv_zipI, mergeK_nil (kvI_nodup (by rw [KP.zip_keys (by rw [List.length_drop]; omega)]; exact (KP.keys2_sorted n _ _).imp fun {_ _} => Nat.ne_of_lt))]
              refine ⟨sz (by simp), fun p19 hp19 => ?_⟩
              refine ⟨p19, _, rfl, .inl (.inl upd_same), rfl, _, _, rfl, _, _, rfl, rfl, ⟨p16, p18, _, _, _, _, _, _, _, _, rfl, ?_, ?_, ?_⟩⟩
              · exact ((((s7.trans s715).upd' hp16).upd' hp17).upd' hp18).upd' hp19
              · have h17 : (upd (upd H15 p16 (.lst (iV ((KP.leaned f (KP.nums1 sp np.1 ++ KP.counts1 n sp np.1 np.2)).take (KP.nums1 sp np.1).length)))) p17 (.lst (iV ((KP.leaned f (KP.nums1 sp np.1 ++ KP.counts1 n sp np.1 np.2)).drop (KP.nums1 sp np.1).length)))) p16 = some (.lst (iV ((KP.leaned f (KP.nums1 sp np.1 ++ KP.counts1 n sp np.1 np.2)).take (KP.nums1 sp np.1).length))) := by
                  rw [upd_ne (ne_of_none upd_same hp17), upd_same]
                rw [Same.upd hp19 _ _ (Same.upd hp18 _ _ h17), npAt_succ hsi, hnp]
                unfold KP.redStep; rw [if_pos h0]
              · rw [upd_ne (ne_of_none upd_same hp19), upd_same, npAt_succ hsi, hnp]
                unfold KP.redStep; rw [if_pos h0]
    · rintro σ H6 ⟨a, d, v5, v6, v7, v8, v9, v10, v11, v12, rfl, s6, ha6, hd6⟩
      rw [List.length_map, htl, npAt_end] at ha6 hd6
      refine ⟨_, rfl, _, rfl, sz (by simp), fun p hp => ?_⟩
      exact k _ p a d (s6.upd' hp) (s6.free hp) upd_same (by rw [upd_ne (ne_of_none ha6 hp)]; exact ha6) (by rw [upd_ne (ne_of_none hd6 hp)]; exact hd6)
end
end KW
end
section
set_option Elab.async false
set_option linter.all false
set_option maxRecDepth 100000
set_option maxHeartbeats 8000000
/-! Base.relation, Base.add, Rows.base_of. -/
namespace KW
open PySem PySem.Spec PyProof.Rows L2
section
variable {P : Program} {w : World} {K : PySem.W.Frag} {mg : Str → Option Value} {base : Heap}
theorem same_unlock {H H' : Hp} {d : Addr} {o : Obj} {u : HO} (h : H d = some u) (s : Same (upd H d (.frz o u)) H') : Same H (upd H' d u) := fun b x e => by
  by_cases z : b = d
  · subst z; rw [h] at e; cases e; exact upd_same
  · rw [upd_ne z]; exact s _ _ (by rw [upd_ne z]; exact e)
theorem any_ne : ∀ l : List Int, ((l.map fun z => !decide (V.int z = V.int 0)).any id) = l.any fun x => decide (x ≠ 0)
  | [] => rfl
  | z :: l => by
    rw [List.map_cons, List.any_cons, List.any_cons, any_ne l]
    congr 1
    by_cases h : z = 0
    · subst h; rfl
    · show (!decide (V.int z = V.int 0)) = _
      rw [decide_eq_false (fun q => h (V.int.inj q)), decide_eq_true h]; rfl
theorem nd_take {α : Type} {l : List (Nat × α)} {i : Nat} {z : Nat × α} (hn : (l.map (·.1)).Nodup) (h : l[i]? = some z) : z.1 ∉ (l.take i).map (·.1) := by
  have e : (l.take (i + 1)).map (·.1) = (l.take i).map (·.1) ++ [z.1] := take_map_more _ h
  have h2 : ((l.take (i + 1)).map (·.1)).Nodup := by rw [List.map_take]; exact hn.sublist (List.take_sublist _ _)
  rw [e, List.nodup_append] at h2
  exact fun m => h2.2.2 _ m _ List.mem_cons_self rfl
theorem kvI_put {l : List (Nat × Int)} {z : Nat × Int} (h : z.1 ∉ l.map (·.1)) : putK (kvI l) (.inl (z.1 : Int)) (.int z.2) = kvI (l ++ [z]) := by
  rw [putK_new _ (valV_none' fun m => ?_)]
  · show _ = List.map _ _
    rw [List.map_append]; rfl
  · obtain ⟨y, hy, e⟩ := List.mem_map.mp m
    obtain ⟨u, hu, rfl⟩ := List.mem_map.mp hy
    exact h (by rw [← Int.ofNat.inj (Sum.inl.inj e)]; exact List.mem_map.mpr ⟨u, hu, rfl⟩)
abbrev nmRel : List Str := ["self", "row", "numbers", "parts", "number", "key", "count"]
theorem scRel : FnScope nmRel ["self", "row"] (defScope s_Base_relation) := ⟨rfl, rfl, rfl, by decide +kernel, rfl, by decide +kernel, by decide +kernel⟩
def spRel (K : PySem.W.Frag) : Sp := fun vs H Q _ => ∃ (b t st : Addr) (f : Int) (wd n x : Nat) (T : List (List Int)) (steps : List KP.Stp) (rows : Nat → Prop), vs = [.ref b, .int x] ∧ IsBase K H b t st steps ∧ IsRows K H t f wd T ∧ TabC f wd n T ∧ x < n ∧ ¬ rows x ∧ KP.StpsOk f wd n T rows steps ∧
  (KP.relOf f n T steps x = none → ∀ H', Same H H' → Q .non H') ∧
  ∀ kvs, KP.relOf f n T steps x = some kvs → ∀ H' p, Same H H' → H p = none → H' p = some (.dK (kvI kvs)) → Q (.ref p) H'
theorem m_rel (T : Txt2 P K mg) : C8.Met P w K mg base 5 (He.ga K "Base") "relation" (spRel K) [] := by
  obtain ⟨fd, F⟩ := T.fn_Base_relation
  refine mkMet F T.c_Base T.m_Base_relation (fun _ _ _ _ _ _ us hl => match us, hl with | [_, _], _ => rfl) scRel (fun vs H Q E h => ?_) fun cdv A outer s H vs Q E hr h => ?_
  · obtain ⟨b, t, st, f, wd, n, x, T', steps, rows, rfl, _⟩ := h
    rfl
  · obtain ⟨b, t, st, f, wd, n, x, T', steps, rows, rfl, hbase, hrows, tc, hx, hxr, so, kn, ks⟩ := h
    refine ⟨_, (pss_cons (ps_asg (C8.pe_mt (m_left T) hr (by decide) (pv 0) (pa_cons (pv 1) pa_nil)) (pg_tup rfl (pgs_cons (pg_name (i := 2) scRel.nd rfl (Or.inl rfl)) (pgs_cons (pg_name (i := 3) scRel.nd rfl (Or.inl rfl)) pgs_nil)))) (pss_cons (ps_if (pt_val (pe_callB (cr_any rfl) (by rfl) T.f_any boot_any (pa_cons (pe_lc (own := [("number", 4)]) (g := gName 4) (tt := tYes) rfl scRel.nd (pi_list (pv 2)) (blkOk_by (N := nmRel) (sc := defScope s_Base_relation) (by decide +kernel))
          (fun _ _ _ _ _ => pg_name (i := 4) scRel.nd rfl (Or.inl rfl)) (fun _ _ _ _ _ => pts_nil) (fun _ _ _ _ _ => pe_cmpR op_ne (pv 4) pe_int (nomark _))) pa_nil))) (pss_one (ps_ret pe_non)) pss_nil) (pss_one (ps_ret (pe_lock (pe_dc (own := [("key", 5), ("count", 6)]) (g := gTup K 2 (gCons (gName 5) (gCons (gName 6) gNil))) rfl scRel.nd (pi_items (pv 3)) (blkOk_by (N := nmRel) (sc := defScope s_Base_relation) (by decide +kernel))
          (fun _ _ _ _ _ => pg_tup rfl (pgs_cons (pg_name (i := 5) scRel.nd rfl (Or.inl rfl)) (pgs_cons (pg_name (i := 6) scRel.nd rfl (Or.inl rfl)) pgs_nil))) (fun _ _ _ _ _ => pts_one (pt_cmpR op_ne (pv 6) pe_int (nomark _))) (fun _ _ _ _ _ => pv 5) (fun _ _ _ _ _ => pv 6))))))), ?_⟩
    obtain ⟨dxb, hb⟩ := hbase.1
    refine ⟨_, rfl, b, _, _, rfl, hb, rfl, _, rfl, b, t, st, f, wd, n, x, T', steps, rows, rfl, hbase, hrows, tc, hx, hxr, so, fun H1 p a d s1 hp hpt ha hd => ?_⟩
    have L := npAt_ok tc hx hxr so steps.length (Nat.le_refl _)
    rw [npAt_end] at L
    have hlen : (KP.leftOf f n T' steps x).1.length = wd := L.mad.len
    have hl20 := nd_len L.mad.srt (fun r hr => (L.mad.keys r hr).2)
    have hn20 := tc.n5
    have hwd := tc.wd3
    generalize hnp : KP.leftOf f n T' steps x = np at ha hd L hlen hl20
    rw [List.length_map] at hl20
    refine ⟨p, _, rfl, .inl (.inl hpt), rfl, _, _, rfl, _, _, rfl, rfl, ?_⟩
    refine ⟨_, rfl, a, rfl, ⟨_, SqL.of ha⟩, fun D hD => ?_⟩
    refine lc_it (jo_list (SqL.of ha)) (Same.refl _) (Same.refl _) hD (fun i => ((np.1.take i).map fun z => !decide (V.int z = V.int 0)).map V.bl) rfl (fun i _ => by simp; omega) (fun i v H2 Nx Sk hi s2 hv k _ => ?_) fun H2 s2 h2 => ?_
    · obtain ⟨z, hz, rfl⟩ := at_map hv
      exact ⟨rfl, _, rfl, rfl, k _ _ (Same.refl _) (by rw [take_map_more _ hz, List.map_append]; rfl)⟩
    · rw [List.length_map, List.take_length] at h2
      refine ⟨D, _, rfl, SqL.of h2, _, rfl, ?_⟩
      rw [any_ne]
      cases hany : np.1.any fun x => decide (x ≠ 0) with
      | true =>
        refine ite_t rfl ?_
        exact kn (by unfold KP.relOf; rw [hnp, if_pos hany]) _ (s1.trans s2)
      | false =>
        refine ite_f rfl ?_
        have hd2 := s2 _ _ hd
        refine ⟨d, _, hd2, True.intro, fun od => ?_⟩
        refine ⟨_, rfl, d, od, _, rfl, upd_same, fun D2 hD2 => ?_⟩
        refine dc_it (jo_items upd_same) (Same.refl _) (Same.refl _) hD2 (fun i => kvI ((np.2.take i).filter fun z => decide (z.2 ≠ 0))) rfl (fun i _ => ?_) (fun i v H3 Nx Sk hi s3 hv k k0 => ?_) fun H3 s3 h3 => ?_
        · have := List.length_filter_le (fun z : Nat × Int => decide (z.2 ≠ 0)) (np.2.take i)
          rw [List.length_take] at this
          rw [List.length_map]; omega
        · obtain ⟨T2, k2, x2, rfl, hT2, hk2⟩ := hv
          obtain ⟨z, hz, e⟩ := get_map hk2
          cases e
          refine ⟨T2, _, rfl, .inl (.inl hT2), rfl, _, _, rfl, _, _, rfl, rfl, ⟨rfl, _, rfl, rfl, _, rfl, ?_⟩⟩
          by_cases h0 : z.2 = 0
          · refine ite_f (by rw [h0]; rfl) (k0 _ (Same.refl _) ?_)
            rw [take_filter_more _ hz, if_neg (by simp [h0])]
          · refine ite_t (by rw [decide_eq_false (fun q => h0 (V.int.inj q))]; rfl) ⟨_, rfl, _, rfl, k _ _ _ _ (Same.refl _) rfl ?_⟩
            rw [take_filter_more _ hz, if_pos (by simp [h0])]
            exact (kvI_put fun m => nd_take (L.mad.srt.imp fun {_ _} => Nat.ne_of_lt) hz (let ⟨u, hu, e⟩ := List.mem_map.mp m; List.mem_map.mpr ⟨u, (List.mem_filter.mp hu).1, e⟩)).symm
        · have hdD : d ≠ D2 := ne_of_none upd_same hD2
          refine ⟨s3 _ _ upd_same, ?_⟩
          rw [List.length_map, List.take_length] at h3
          have hnone : H D2 = none := by
            have q : H2 D2 = none := by rw [upd_ne (Ne.symm hdD)] at hD2; exact hD2
            exact (s1.trans s2).free q
          exact ks _ (by unfold KP.relOf; rw [hnp, if_neg (by rw [hany]; simp)]) _ D2 ((s1.trans s2).trans (same_unlock hd2 s3)) hnone (by rw [upd_ne (Ne.symm hdD)]; exact h3)
abbrev nmAdd : List Str := ["self", "row", "numbers", "parts", "leads", "lead", "number"]
theorem scAdd : FnScope nmAdd ["self", "row"] (defScope s_Base_add) := ⟨rfl, rfl, rfl, by decide +kernel, rfl, by decide +kernel, by decide +kernel⟩
def spAdd (K : PySem.W.Frag) : Sp := fun vs H Q _ => ∃ (b t st : Addr) (f : Int) (wd n x : Nat) (T : List (List Int)) (steps : List KP.Stp) (rows : Nat → Prop), vs = [.ref b, .int x] ∧ IsBase K H b t st steps ∧ IsRows K H t f wd T ∧ TabC f wd n T ∧ x < n ∧ ¬ rows x ∧ KP.StpsOk f wd n T rows steps ∧
  ∀ H' c, SameBut [st] H H' → IsBase K H' b t st (KP.addRow f n T steps x) → Q (.bl c) H'
theorem iV_rV {l : List Int} {m : List Addr} (h : l ≠ []) (e : iV l = rV m) : False := by
  cases l with
  | nil => exact h rfl
  | cons a l =>
    cases m with
    | nil => cases e
    | cons b m => cases e
theorem leads_more {nums : List Int} {i : Nat} {z : Int} (h : nums[i]? = some z) : ((List.range (i + 1)).filter fun k => nums.getD k 0 ≠ 0) = if z ≠ 0 then ((List.range i).filter fun k => nums.getD k 0 ≠ 0) ++ [i] else (List.range i).filter fun k => nums.getD k 0 ≠ 0 := by
  have e : nums.getD i 0 = z := by rw [List.getD_eq_getElem?_getD, h]; rfl
  rw [List.range_succ, List.filter_append]
  by_cases q : z ≠ 0
  · rw [if_pos q, List.filter_cons_of_pos (by rw [e]; simp [q])]; rfl
  · rw [if_neg q, List.filter_cons_of_neg (by rw [e]; simp at q; simp [q]), List.filter_nil, List.append_nil]
theorem m_add (T : Txt2 P K mg) : C8.Met P w K mg base 5 (He.ga K "Base") "add" (spAdd K) [] := by
  obtain ⟨fd, F⟩ := T.fn_Base_add
  refine mkMet F T.c_Base T.m_Base_add (fun _ _ _ _ _ _ us hl => match us, hl with | [_, _], _ => rfl) scAdd (fun vs H Q E h => ?_) fun cdv A outer s H vs Q E hr h => ?_
  · obtain ⟨b, t, st, f, wd, n, x, T', steps, rows, rfl, _⟩ := h
    rfl
  · obtain ⟨b, t, st, f, wd, n, x, T', steps, rows, rfl, hbase, hrows, tc, hx, hxr, so, k⟩ := h
    refine ⟨_, (pss_cons (ps_asg (C8.pe_mt (m_left T) hr (by decide) (pv 0) (pa_cons (pv 1) pa_nil)) (pg_tup rfl (pgs_cons (pg_name (i := 2) scAdd.nd rfl (Or.inl rfl)) (pgs_cons (pg_name (i := 3) scAdd.nd rfl (Or.inl rfl)) pgs_nil)))) (pss_cons (ps_setLc (i := 4) (own := [("lead", 5), ("number", 6)]) (g := gTup K 2 (gCons (gName 5) (gCons (gName 6) gNil))) rfl scAdd.nd rfl rfl rfl (pi_enum (by rfl) T.f_enumerate (pa_cons (pv 2) pa_nil)) (blkOk_by (N := nmAdd) (sc := defScope s_Base_add) (by decide +kernel))
          (fun _ _ _ _ _ => pg_tup rfl (pgs_cons (pg_name (i := 5) scAdd.nd rfl (Or.inl rfl)) (pgs_cons (pg_name (i := 6) scAdd.nd rfl (Or.inl rfl)) pgs_nil))) (fun _ _ _ _ _ => pts_one (pt_cmpR op_ne (pv 6) pe_int (nomark _))) (fun _ _ _ _ _ => pv 5)) (pss_cons (ps_if (pt_cmpR op_gt (pe_callB call_len_seq (by rfl) T.f_len boot_len (pa_cons (pv 4) pa_nil)) pe_int (nomark _)) (pss_one (ps_expr (pe_bm PySem.F.plainAttrs_list PySem.F.slot_list_append PySem.F.type_list_append mt_append (pe_fld (pv 0) rfl) (pa_cons (pe_tup (pa_cons (pe_ix ix_list (pv 4) pe_int (fun _ _ => rfl)) (pa_cons (pv 2) (pa_cons (pv 3) pa_nil)))) pa_nil)))) pss_nil) (pss_one (ps_ret (pe_cmpR op_gt (pe_callB call_len_seq (by rfl) T.f_len boot_len (pa_cons (pv 4) pa_nil)) pe_int (nomark _))))))), ?_⟩
    obtain ⟨⟨dxb, hb⟩, ts, hst, hts⟩ := id hbase
    refine ⟨_, rfl, b, _, _, rfl, hb, rfl, _, rfl, b, t, st, f, wd, n, x, T', steps, rows, rfl, hbase, hrows, tc, hx, hxr, so, fun H1 p a d s1 hp hpt ha hd => ?_⟩
    have L := npAt_ok tc hx hxr so steps.length (Nat.le_refl _)
    rw [npAt_end] at L
    have hlen : (KP.leftOf f n T' steps x).1.length = wd := L.mad.len
    have hwd := tc.wd3
    have hsl := so.length
    have hdef : KP.addRow f n T' steps x = match KP.leadsOf (KP.leftOf f n T' steps x).1 with
      | [] => steps
      | l :: _ => steps ++ [⟨l, (KP.leftOf f n T' steps x).1, (KP.leftOf f n T' steps x).2⟩] := rfl
    generalize hnp : KP.leftOf f n T' steps x = np at ha hd L hlen hdef
    refine ⟨p, _, rfl, .inl (.inl hpt), rfl, _, _, rfl, _, _, rfl, rfl, ?_⟩
    refine ⟨_, rfl, a, _, rfl, SqL.of ha, fun D hD => ?_⟩
    refine lc_it (jo_enum (SqL.of ha)) (Same.refl _) (Same.refl _) hD (fun i => nV ((List.range i).filter fun k => np.1.getD k 0 ≠ 0)) rfl (fun i hi => ?_) (fun i v H2 Nx Sk hi s2 hv k k0 => ?_) fun H2 s2 h2 => ?_
    · rw [List.length_map] at hi ⊢
      have := List.length_filter_le (fun k => decide (np.1.getD k 0 ≠ 0)) (List.range i)
      rw [List.length_range] at this
      omega
    · obtain ⟨T2, x2, rfl, hT2, hx2⟩ := hv
      obtain ⟨z, hz, rfl⟩ := at_map hx2
      refine ⟨T2, _, rfl, .inl (.inl hT2), rfl, _, _, rfl, _, _, rfl, rfl, ⟨rfl, _, rfl, rfl, _, rfl, ?_⟩⟩
      by_cases h0 : z = 0
      · exact ite_f (by rw [h0]; rfl) (k0 _ (Same.refl _) (by rw [leads_more hz, if_neg (fun q => q h0)]))
      · exact ite_t (by rw [decide_eq_false (fun q => h0 (V.int.inj q))]; rfl) ⟨_, rfl, k _ _ (Same.refl _) (by rw [leads_more hz, if_pos h0]; exact nV_snoc _ _)⟩
    · rw [List.length_map] at h2
      change H2 D = some (.lst (nV (KP.leadsOf np.1))) at h2
      have hmem : ∀ l, l ∈ KP.leadsOf np.1 → l < np.1.length := fun l hl => (KP.mem_leadsOf.mp hl).1
      generalize hle : KP.leadsOf np.1 = leads at h2 hmem hdef
      have s12 := s1.trans s2
      cases leads with
      | nil =>
        refine ⟨_, rfl, D, _, rfl, .inl (SqL.of h2), _, _, rfl, rfl, _, rfl, ite_f rfl ?_⟩
        refine ⟨_, rfl, D, _, rfl, .inl (SqL.of h2), _, _, rfl, rfl, ?_⟩
        exact k _ _ (SameBut.of s12) (by rw [hdef]; exact hbase.same s12)
      | cons l ls =>
        have hnn : np.1 ≠ [] := fun z => by have := hmem l List.mem_cons_self; rw [z] at this; exact absurd this (Nat.not_lt_zero _)
        refine ⟨_, rfl, D, _, rfl, .inl (SqL.of h2), _, _, rfl, rfl, _, rfl, ite_t (decide_eq_true (by simp)) ?_⟩
        have hst2 := s12 _ _ hst
        refine ⟨_, rfl, b, _, _, _, _, rfl, s12 _ _ hb, T.c_Base, T.n_Base_steps, rfl, .inl ⟨rfl, _, SqL.of hst2⟩, ?_⟩
        refine ⟨_, rfl, D, _, 0, _, rfl, rfl, SqL.of h2, at0, _, rfl, _, rfl, sz (by simp), fun p3 hp3 => ?_⟩
        refine ⟨st, _, _, rfl, rfl, Same.upd hp3 _ _ hst2, ?_, ?_⟩
        · refine szl ?_
          rw [List.length_map, paired_len hts]; omega
        · have hns : ∀ q o, H q = some o → (∀ z, o ≠ .lst (rV z)) → q ≠ st := fun q o e h z => by rw [z, hst] at e; cases e; exact h _ rfl
          have hast : a ≠ st := fun z => by
            have e := s2 _ _ ha
            rw [z, hst2] at e
            exact iV_rV hnn (HO.lst.inj (Option.some.inj e)).symm
          have hdst : d ≠ st := fun z => by
            have e := s2 _ _ hd
            rw [z, hst2] at e
            cases e
          have hpst : p3 ≠ st := (ne_of_none hst2 hp3).symm
          have hbst : b ≠ st := hns _ _ hb (fun _ => by simp)
          have S : SameBut [st] H (upd (upd H2 p3 (.tup [.int l, .ref a, .ref d])) st (.lst (rV ts ++ [.ref p3]))) := ((SameBut.of s12).upd (.inr (s12.free hp3))).upd (.inl List.mem_cons_self)
          refine ⟨_, rfl, D, _, rfl, .inl (SqL.of (xs := nV (l :: ls)) ?_), _, _, rfl, rfl, ?_⟩
          · rw [upd_ne, Same.upd hp3 _ _ h2]
            exact (ne_of_none (s1 _ _ hst) hD).symm
          · refine k _ _ S ?_
            rw [hdef]
            refine ⟨⟨dxb, S _ _ hb (by simpa using hbst)⟩, ts ++ [p3], by rw [upd_same, rV_snoc], Paired.snoc (paired_of (paired_len hts) fun i q s hq hs => ?_) ⟨a, d, ?_, ?_, ?_⟩⟩
            · obtain ⟨s', hs', kk, mm, e1, e2, e3⟩ := paired_at hts hq
              rw [hs] at hs'; cases hs'
              have hld := (so.lead i s hs).1
              have hkl := (so.made i s hs).len
              have hkk : kk ≠ st := fun z => by
                rw [z, hst] at e2
                have hne : s.known ≠ [] := fun y => by rw [y] at hkl; simp at hkl; omega
                exact iV_rV hne (HO.lst.inj (Option.some.inj e2)).symm
              exact ⟨kk, mm, S _ _ e1 (by simpa using hns _ _ e1 (fun _ => by simp)), S _ _ e2 (by simpa using hkk), S _ _ e3 (by simpa using hns _ _ e3 (fun _ => by simp))⟩
            · rw [upd_ne hpst, upd_same]
            · rw [upd_ne hast]; exact Same.upd hp3 _ _ (s2 _ _ ha)
            · rw [upd_ne hdst]; exact Same.upd hp3 _ _ (s2 _ _ hd)
theorem nd_takeN {l : List Nat} {i : Nat} {z : Nat} (hn : l.Nodup) (h : l[i]? = some z) : z ∉ l.take i := by
  have h2 : (l.take (i + 1)).Nodup := hn.sublist (List.take_sublist _ _)
  rw [take_more h, List.nodup_append] at h2
  exact fun m => h2.2.2 _ m _ List.mem_cons_self rfl
theorem SameBut.fresh {a : Addr} {H H' H2 : Hp} (s : Same H H') (h : H a = none) (b : SameBut [a] H' H2) : Same H H2 := fun c o e => b c o (s _ _ e) (by simpa using ne_of_none e h)
/-- what a new instance leaves -/
theorem same_made {H H' : Hp} {x dx : Addr} {u o : HO} (hx : H x = none) (hd : H dx = none) (b : SameBut [x] (upd (upd H dx u) x o) H') : Same H H' := fun c v e => by
  have h1 := ne_of_none e hx
  refine b c v ?_ (by simpa using h1)
  rw [upd_ne h1, upd_ne (ne_of_none e hd)]; exact e
abbrev nmBaseOf : List Str := ["self", "lot", "base", "row"]
theorem scBaseOf : FnScope nmBaseOf ["self", "lot"] (defScope s_Rows_base_of) := ⟨rfl, rfl, rfl, by decide +kernel, rfl, by decide +kernel, by decide +kernel⟩
def spBaseOf (K : PySem.W.Frag) : Sp := fun vs H Q _ => ∃ (t l : Addr) (f : Int) (wd n : Nat) (T : List (List Int)) (lot : List Nat), vs = [.ref t, .ref l] ∧ H l = some (.lst (nV lot)) ∧ IsRows K H t f wd T ∧ TabC f wd n T ∧ lot.Nodup ∧ (∀ r, r ∈ lot → r < n) ∧
  ∀ H' b st, Same H H' → H st = none → IsBase K H' b t st (KP.baseOf f n T lot) → Q (.ref b) H'
theorem m_baseOf (T : Txt2 P K mg) : C8.Met P w K mg base 6 (He.ga K "Rows") "base_of" (spBaseOf K) [] := by
  obtain ⟨fd, F⟩ := T.fn_Rows_base_of
  refine mkMet F T.c_Rows T.m_Rows_base_of (fun _ _ _ _ _ _ us hl => match us, hl with | [_, _], _ => rfl) scBaseOf (fun vs H Q E h => ?_) fun cdv A outer s H vs Q E hr h => ?_
  · obtain ⟨t, l, f, wd, n, T', lot, rfl, _⟩ := h
    rfl
  · obtain ⟨t, l, f, wd, n, T', lot, rfl, hl, hrows, tc, hnd, hlt, k⟩ := h
    refine ⟨_, (pss_cons (ps_set (i := 2) scBaseOf.nd rfl (Or.inl rfl) (C8.pe_mk (mk_Base T) hr (by decide) (by rfl) (pa_cons (pv 0) pa_nil))) (pss_cons (ps_for PassesOwn.never rfl (pi_list (pv 1)) (pg_name (i := 3) scBaseOf.nd rfl (Or.inl rfl)) (pss_one (ps_expr (C8.pe_mt (m_add T) hr (by decide) (pv 2) (pa_cons (pv 3) pa_nil))))) (pss_one (ps_ret (pv 2))))), ?_⟩
    obtain ⟨dxt, r, rs, ht, hrr, hp⟩ := id hrows
    refine ⟨_, rfl, fun b0 dx0 hb0 hdx0 hne0 => ?_⟩
    refine ⟨b0, dx0, t, rfl, upd_same, fun H1 st sb hbase hst => ⟨rfl, ?_⟩⟩
    have s1 : Same H H1 := same_made hb0 hdx0 sb
    have hstb : st ≠ b0 := fun z => by rw [z, upd_same] at hst; cases hst
    have hst0 : H st = none := by
      rw [upd_ne hstb] at hst
      by_cases q : st = dx0
      · rw [q]; exact hdx0
      · rw [upd_ne q] at hst; exact hst
    refine ⟨_, rfl, l, rfl, ⟨_, SqL.of (s1 _ _ hl)⟩, ?_⟩
    refine for_it (jo_list (SqL.of hl)) (fun i σ H' => ∃ v3, σ = [some (.ref t), some (.ref l), some (.ref b0), v3] ∧ Same H H' ∧ IsBase K H' b0 t st (KP.baseOf f n T' (lot.take i)))
      ⟨none, rfl, s1, hbase⟩ (fun i σ H' _ ⟨_, _, h, _⟩ => h) ?_ ?_
    · rintro i v σ H2 H3 hi ⟨v3, rfl, s2, hb2⟩ s23 hv
      obtain ⟨z, hz, rfl⟩ := at_map hv
      have s3 := s2.trans s23
      have hb3 := hb2.same s23
      obtain ⟨dxb, hbb⟩ := hb3.1
      have hzn : z < n := hlt z (List.mem_of_getElem? hz)
      refine ⟨_, rfl, b0, _, _, rfl, hbb, rfl, _, rfl, b0, t, st, f, wd, n, z, T', _, _, rfl, hb3, ⟨dxt, r, rs, s3 _ _ ht, s3 _ _ hrr, paired_mono (fun a b q => s3 _ _ q) hp⟩, tc, hzn, nd_takeN hnd hz,
        KP.baseOf_ok tc.D (field_bounds tc.fld).1 (field_bounds tc.fld).2 tc.tab (hnd.sublist (List.take_sublist _ _)) (fun r hr => hlt r (List.mem_of_mem_take hr)), fun H4 c sb4 hb4 => ?_⟩
      refine ⟨_, rfl, sb4.fresh s3 hst0, ?_⟩
      rw [take_more hz]
      unfold KP.baseOf
      rw [List.foldl_append]
      exact hb4
    · rintro σ H2 ⟨v3, rfl, s2, hb2⟩
      rw [List.length_map, List.take_length] at hb2
      exact ⟨_, rfl, k _ _ _ s2 hst0 hb2⟩
end
end KW
end
section
set_option Elab.async false
set_option linter.all false
set_option maxRecDepth 100000
set_option maxHeartbeats 8000000
/-! The walks of Places. -/
namespace KW
open PySem PySem.Spec PyProof.Rows L2
section
variable {P : Program} {w : World} {K : PySem.W.Frag} {mg : Str → Option Value} {base : Heap}
/-- list(x) -/
abbrev rListOf (K : PySem.W.Frag) : List V → Hp → VK → Prop := fun xs H Q => ∃ p ys, xs = [V.ref p] ∧ (SqL K H p ys ∨ SqT K H p ys) ∧ ∀ l, H l = none → Q (.ref l) (upd H l (.lst ys))
def IsLots (H : Hp) (ls : List Addr) (lots : List (List Nat)) : Prop := Paired (fun l lot => H l = some (.lst (nV lot))) ls lots
theorem IsLots.same {H H' : Hp} {ls : List Addr} {lots : List (List Nat)} (s : Same H H') (h : IsLots H ls lots) : IsLots H' ls lots := paired_mono (fun _ _ q => s _ _ q) h
def IsPl (K : PySem.W.Frag) (H : Hp) (p at_ az ak t : Addr) (n : Nat) (ls : List Addr) (lots : List (List Nat)) : Prop :=
  (∃ dx, H p = some (.ins (He.ga K "Places") dx [("tables", .ref at_), ("sizes", .ref az), ("kept", .ref ak)])) ∧ H at_ = some (.lst (List.replicate lots.length (.ref t))) ∧ H az = some (.lst (List.replicate lots.length (.int n))) ∧
  H ak = some (.lst (rV ls)) ∧ IsLots H ls lots ∧ ls.Nodup
theorem IsPl.same {H H' : Hp} {p at_ az ak t : Addr} {n : Nat} {ls : List Addr} {lots : List (List Nat)} (s : Same H H') (h : IsPl K H p at_ az ak t n ls lots) : IsPl K H' p at_ az ak t n ls lots :=
  let ⟨⟨dx, a⟩, b, c, d, e, g⟩ := h; ⟨⟨dx, s _ _ a⟩, s _ _ b, s _ _ c, s _ _ d, e.same s, g⟩
theorem IsLots.at_ {H : Hp} {ls : List Addr} {lots : List (List Nat)} (h : IsLots H ls lots) {i : Nat} (hi : i < lots.length) : ∃ l, ls[i]? = some l ∧ H l = some (.lst (nV (lots.getD i []))) := by
  obtain ⟨l, hl, q⟩ := paired_at' h (List.getElem?_eq_getElem hi)
  refine ⟨l, hl, ?_⟩
  rw [List.getD_eq_getElem?_getD, List.getElem?_eq_getElem hi]; exact q
abbrev nmPlInit : List Str := ["self", "tables", "sizes", "lots", "lot"]
theorem scPlInit : FnScope nmPlInit ["self", "tables", "sizes", "lots"] (defScope s_Places_DinitD) := ⟨rfl, rfl, rfl, by decide +kernel, rfl, by decide +kernel, by decide +kernel⟩
def spPlInit (K : PySem.W.Frag) : Sp := fun vs H Q _ => ∃ (p dx at_ az al t : Addr) (n : Nat) (as : List Addr) (lots : List (List Nat)), vs = [.ref p, .ref at_, .ref az, .ref al] ∧ H p = some (.ins (He.ga K "Places") dx []) ∧
  H at_ = some (.lst (List.replicate lots.length (.ref t))) ∧ H az = some (.lst (List.replicate lots.length (.int n))) ∧ H al = some (.lst (rV as)) ∧ IsLots H as lots ∧ lots.length ≤ 100 ∧
  ∀ H' ak ls, SameBut [p] H H' → IsPl K H' p at_ az ak t n ls lots → H ak = none → (∀ l, l ∈ ls → H l = none) → ak ∉ ls → Q .non H'
theorem mk_Places (T : Txt2 P K mg) : C8.Mak P w K mg base 1 "Places" (He.ga K "Places") (spPlInit K) [] := by
  obtain ⟨fd, F⟩ := T.fn_Places_DinitD
  refine mkMak F T.mk_Places T.g_Places (fun _ _ _ _ _ _ us hl => match us, hl with | [_, _, _, _], _ => rfl) scPlInit (fun vs H Q E h => ?_) fun cdv A outer s H vs Q E hr h => ?_
  · obtain ⟨p, dx, at_, az, al, t, n, as, lots, rfl, _⟩ := h
    rfl
  · obtain ⟨p, dx, at_, az, al, t, n, as, lots, rfl, hp, hat, haz, hal, hls, hm, k⟩ := h
    refine ⟨_, (pss_cons (ps_fld (pv 0) (pv 1) rfl) (pss_cons (ps_fld (pv 0) (pv 2) rfl) (pss_one (ps_fld (pv 0) (pe_lc (te := tCB (rListOf K) (tCons (tVar 4) tNil)) (own := [("lot", 4)]) (g := gName 4) (tt := tYes) rfl scPlInit.nd (pi_list (pv 3)) (blkOk_by (N := nmPlInit) (sc := defScope s_Places_DinitD) (by decide +kernel))
          (fun _ _ _ _ _ => pg_name (i := 4) scPlInit.nd rfl (Or.inl rfl)) (fun _ _ _ _ _ => pts_nil) (fun _ _ _ _ _ => pe_callTy call_list_of (by rfl) T.f_list (boot_T "list") (pa_cons (pv 4) pa_nil))) rfl)))), ?_⟩
    refine ⟨_, rfl, _, rfl, p, _, _, _, rfl, hp, T.c_Places, T.n_Places_tables, by show 0 < 1000; omega, ?_⟩
    refine ⟨_, rfl, _, rfl, p, _, _, _, rfl, upd_same, T.c_Places, T.n_Places_sizes, by show 1 < 1000; omega, ?_⟩
    generalize hH2 : upd (upd H p _) p _ = H2
    have sb2 : SameBut [p] H H2 := by rw [← hH2]; exact ((SameBut.of (Same.refl H)).upd (.inl List.mem_cons_self)).upd (.inl List.mem_cons_self)
    have hp2 : H2 p = some (.ins (He.ga K "Places") dx [("tables", .ref at_), ("sizes", .ref az)]) := by rw [← hH2]; exact upd_same
    have hne : ∀ q o, H q = some o → (∀ d, o ≠ .ins (He.ga K "Places") d []) → q ≠ p := fun q o e h z => by rw [z, hp] at e; cases e; exact h _ rfl
    have hal2 := sb2 _ _ hal (by simpa using hne _ _ hal (fun _ => by simp))
    have hls2 : IsLots H2 as lots := paired_mono (fun l lot e => sb2 _ _ e (by simpa using hne _ _ e (fun _ => by simp))) hls
    refine ⟨_, rfl, al, rfl, ⟨_, SqL.of hal2⟩, fun D hD => ?_⟩
    have hasl : as.length = lots.length := paired_len hls
    refine lc_ex (jo_list (SqL.of hal2)) (Same.refl _) (Same.refl _) hD (fun i xs G => ∃ ls, xs = rV ls ∧ IsLots G ls (lots.take i) ∧ (∀ l, l ∈ ls → H2 l = none) ∧ D ∉ ls ∧ ls.Nodup)
      (fun i xs G G' sG ⟨ls, e1, e2, e3⟩ => ⟨ls, e1, e2.same sG, e3⟩) ⟨[], rfl, .nil, fun l h => absurd h List.not_mem_nil, List.not_mem_nil, List.nodup_nil⟩
      (fun i xs G hi ⟨ls, e1, e2, _⟩ => by rw [e1, List.length_map, paired_len e2, List.length_take]; omega) (fun i v xs H3 Nx Sk hi s3 hv hD3 hpv kN _ => ?_) fun H3 xs s3 d3 hpv => ?_
    · obtain ⟨l, hl, rfl⟩ := at_map hv
      obtain ⟨lot, hlot, hll⟩ := paired_at hls2 hl
      obtain ⟨ls, rfl, hl1, hl2, hl3, hl4⟩ := hpv
      refine ⟨rfl, _, rfl, l, _, rfl, .inl (SqL.of (s3 _ _ hll)), fun q hq => ?_⟩
      have hqD : q ≠ D := fun z => by rw [z, hD3] at hq; cases hq
      refine kN _ _ (Same.upd hq) ⟨ls ++ [q], by rw [rV_snoc], ?_, ?_, ?_, ?_⟩
      · rw [take_more hlot]
        exact Paired.snoc (hl1.same (but_mono (Same.upd hq))) (but_at upd_same hqD)
      · intro l' h'
        rcases List.mem_append.mp h' with h' | h'
        · exact hl2 l' h'
        · rw [List.mem_singleton.mp h']; exact s3.free hq
      · intro h'
        rcases List.mem_append.mp h' with h' | h'
        · exact hl3 h'
        · exact hqD (List.mem_singleton.mp h').symm
      · refine List.nodup_append.mpr ⟨hl4, by simp, fun a ha b hb z => ?_⟩
        rw [List.mem_singleton.mp hb] at z
        subst z
        obtain ⟨i2, hi2⟩ := List.getElem?_of_mem ha
        obtain ⟨lot2, _, e2⟩ := paired_at hl1 hi2
        have := but_same _ _ e2
        rw [hq] at this; cases this
    · obtain ⟨ls, rfl, hl1, hl2, hl3, hl4⟩ := hpv
      rw [List.length_map, hasl, List.take_length] at hl1
      refine ⟨_, rfl, p, _, _, _, rfl, s3 _ _ hp2, T.c_Places, T.n_Places_kept, by show 2 < 1000; omega, ?_⟩
      have hfree : ∀ q, H2 q = none → H q = none := fun q hq => by
        have hqp : q ≠ p := fun z => by rw [z, hp2] at hq; cases hq
        cases e : H q with
        | none => rfl
        | some o => rw [sb2 _ _ e (by simpa using hqp)] at hq; cases hq
      have S : SameBut [p] H (upd H3 p (.ins (He.ga K "Places") dx [("tables", .ref at_), ("sizes", .ref az), ("kept", .ref D)])) := (sb2.trans (SameBut.of s3)).upd (.inl List.mem_cons_self)
      refine k _ D ls S ⟨⟨dx, upd_same⟩, S _ _ hat (by simpa using hne _ _ hat (fun _ => by simp)), S _ _ haz (by simpa using hne _ _ haz (fun _ => by simp)), ?_, ?_, hl4⟩ (hfree _ hD) (fun l hl => hfree _ (hl2 l hl)) hl3
      · rw [upd_ne (ne_of_none hp2 hD).symm]; exact d3
      · refine paired_of (paired_len hl1) fun i l lot h1 h2 => ?_
        obtain ⟨lot', h2', e⟩ := paired_at hl1 h1
        rw [h2] at h2'; cases h2'
        rw [upd_ne (ne_of_none hp2 (hl2 l (List.mem_of_getElem? h1))).symm]
        exact but_same _ _ e
/-! ### told -/
abbrev rSorted1 (K : PySem.W.Frag) : List V → Hp → VK → Prop := rSorted K
/-- lists, new ones -/
structure NewLots (H H' : Hp) (q : Addr) (qs : List Addr) (lots : List (List Nat)) : Prop where
  sm : Same H H'
  at_ : H' q = some (.lst (rV qs))
  lots : IsLots H' qs lots
  new : H q = none
  news : ∀ l, l ∈ qs → H l = none
  nd : qs.Nodup
abbrev nmTold : List Str := ["self", "lot"]
theorem scTold : FnScope nmTold ["self"] (defScope s_Places_told) := ⟨rfl, rfl, rfl, by decide +kernel, rfl, by decide +kernel, by decide +kernel⟩
def spTold (K : PySem.W.Frag) : Sp := fun vs H Q _ => ∃ (p at_ az ak t : Addr) (n : Nat) (ls : List Addr) (lots : List (List Nat)), vs = [.ref p] ∧ IsPl K H p at_ az ak t n ls lots ∧ lots.length ≤ 100 ∧ (∀ lot, lot ∈ lots → lot.length < 64) ∧
  ∀ H' q qs, NewLots H H' q qs (lots.map KP.srt) → Q (.ref q) H'
/-- a comprehension that copies lists in another order -/
theorem lots_snoc {H2 : Hp} {D : Addr} {G G' : Hp} {ls : List Addr} {lots : List (List Nat)} {q : Addr} {lot : List Nat} (sG : Same (but D G) (but D G')) (hl1 : IsLots (but D G) ls lots) (hl2 : ∀ l, l ∈ ls → H2 l = none) (hl4 : ls.Nodup) (hq : G q = none) (hqD : q ≠ D) (s3 : Same H2 G) (hG : G' q = some (.lst (nV lot))) :
    IsLots (but D G') (ls ++ [q]) (lots ++ [lot]) ∧ (∀ l, l ∈ ls ++ [q] → H2 l = none) ∧ (ls ++ [q]).Nodup := by
  refine ⟨Paired.snoc (hl1.same sG) (but_at hG hqD), ?_, ?_⟩
  · intro l' h'
    rcases List.mem_append.mp h' with h' | h'
    · exact hl2 l' h'
    · rw [List.mem_singleton.mp h']; exact s3.free hq
  · refine List.nodup_append.mpr ⟨hl4, by simp, fun a ha b hb z => ?_⟩
    rw [List.mem_singleton.mp hb] at z
    subst z
    obtain ⟨i2, hi2⟩ := List.getElem?_of_mem ha
    obtain ⟨lot2, _, e2⟩ := paired_at hl1 hi2
    have := but_same _ _ e2
    rw [hq] at this; cases this
theorem nV_srt {lot : List Nat} {ns : List Int} (h : ns.Perm (lot.map fun (r : Nat) => (r : Int))) (hs : ns.Pairwise (· ≤ ·)) : ns.map V.int = nV (KP.srt lot) := by
  rw [nats_le h hs, nV_iV]
theorem m_told (T : Txt2 P K mg) : C8.Met P w K mg base 1 (He.ga K "Places") "told" (spTold K) [] := by
  obtain ⟨fd, F⟩ := T.fn_Places_told
  refine mkMet F T.c_Places T.m_Places_told (fun _ _ _ _ _ _ us hl => match us, hl with | [_], _ => rfl) scTold (fun vs H Q E h => ?_) fun cdv A outer s H vs Q E hr h => ?_
  · obtain ⟨p, at_, az, ak, t, n, ls, lots, rfl, _⟩ := h
    rfl
  · obtain ⟨p, at_, az, ak, t, n, ls, lots, rfl, ⟨⟨dx, hp⟩, hat, haz, hak, hls, hnd⟩, hm, h64, k⟩ := h
    refine ⟨_, (pss_one (ps_ret (pe_lc (te := tCB (rSorted K) (tCons (tVar 1) tNil)) (own := [("lot", 1)]) (g := gName 1) (tt := tYes) rfl scTold.nd (pi_list (pe_fld (pv 0) rfl)) (blkOk_by (N := nmTold) (sc := defScope s_Places_told) (by decide +kernel))
          (fun _ _ _ _ _ => pg_name (i := 1) scTold.nd rfl (Or.inl rfl)) (fun _ _ _ _ _ => pts_nil) (fun _ _ _ _ _ => pe_callB cr_sorted (by rfl) T.f_sorted boot_sorted (pa_cons (pv 1) pa_nil))))), ?_⟩
    have hasl : ls.length = lots.length := paired_len hls
    refine ⟨_, rfl, p, _, _, _, _, rfl, hp, T.c_Places, T.n_Places_kept, rfl, ak, rfl, ⟨_, SqL.of hak⟩, fun D hD => ?_⟩
    refine lc_ex (jo_list (SqL.of hak)) (Same.refl _) (Same.refl _) hD (fun i xs G => ∃ qs, xs = rV qs ∧ IsLots G qs ((lots.take i).map KP.srt) ∧ (∀ l, l ∈ qs → H l = none) ∧ qs.Nodup)
      (fun i xs G G' sG ⟨ls, e1, e2, e3⟩ => ⟨ls, e1, e2.same sG, e3⟩) ⟨[], rfl, .nil, fun l h => absurd h List.not_mem_nil, List.nodup_nil⟩
      (fun i xs G hi ⟨ls, e1, e2, _⟩ => by rw [e1, List.length_map, paired_len e2, List.length_map, List.length_take]; omega) (fun i v xs H3 Nx Sk hi s3 hv hD3 hpv kN _ => ?_) fun H3 xs s3 d3 hpv => ?_
    · obtain ⟨l, hl, rfl⟩ := at_map hv
      obtain ⟨lot, hlot, hll⟩ := paired_at hls hl
      obtain ⟨qs, rfl, hl1, hl2, hl4⟩ := hpv
      have hll3 := s3 _ _ hll
      rw [nV_iV] at hll3
      refine ⟨rfl, _, rfl, l, _, rfl, SqL.of hll3, by rw [List.length_map]; exact h64 lot (List.mem_of_getElem? hlot), fun ns q hperm hsrt hq => ?_⟩
      have hqD : q ≠ D := fun z => by rw [z, hD3] at hq; cases hq
      rw [nV_srt hperm hsrt]
      obtain ⟨c1, c2, c3⟩ := lots_snoc (D := D) (lot := KP.srt lot) (but_mono (Same.upd (o := .lst (nV (KP.srt lot))) hq)) hl1 hl2 hl4 hq hqD s3 upd_same
      exact kN _ _ (Same.upd hq) ⟨qs ++ [q], by rw [rV_snoc], by rw [take_map_more _ hlot]; exact c1, c2, c3⟩
    · obtain ⟨qs, rfl, hl1, hl2, hl4⟩ := hpv
      rw [List.length_map, hasl, List.take_length] at hl1
      exact k _ _ _ ⟨s3, d3, hl1.same but_same, hD, hl2, hl4⟩
/-! ### steps_to -/
theorem nd_eq {a b : Nat} (h : a = b) : (!decide (V.int (a : Int) = V.int (b : Int))) = false := by rw [h, decide_eq_true rfl]; rfl
theorem nd_ne {a b : Nat} (h : a ≠ b) : (!decide (V.int (a : Int) = V.int (b : Int))) = true := by rw [decide_eq_false (p := V.int (a : Int) = V.int (b : Int)) (fun q => h (Int.ofNat.inj (V.int.inj q)))]; rfl
abbrev nmSteps : List Str := ["self", "number", "bases", "thing", "lot", "relation", "other"]
theorem scSteps : FnScope nmSteps ["self", "number", "bases", "thing"] (defScope s_Places_steps_to) := ⟨rfl, rfl, rfl, by decide +kernel, rfl, by decide +kernel, by decide +kernel⟩
/-- lots whose things are rows of the table -/
structure LotsOk (n : Nat) (lots : List (List Nat)) : Prop where
  nd : ∀ i, (lots.getD i []).Nodup
  lt : ∀ i r, r ∈ lots.getD i [] → r < n
theorem LotsOk.len {n : Nat} {lots : List (List Nat)} (o : LotsOk n lots) (i : Nat) : (lots.getD i []).length ≤ n := KP.nodup_le n _ (o.nd i) (o.lt i)
def AreBases (K : PySem.W.Frag) (H : Hp) (t : Addr) (f : Int) (n : Nat) (T : List (List Int)) (bl : List Addr) (lots : List (List Nat)) : Prop := Paired (fun b lot => ∃ st, IsBase K H b t st (KP.baseOf f n T lot)) bl lots
theorem AreBases.same {H H' : Hp} {t : Addr} {f : Int} {n : Nat} {T : List (List Int)} {bl : List Addr} {lots : List (List Nat)} (s : Same H H') (h : AreBases K H t f n T bl lots) : AreBases K H' t f n T bl lots := paired_mono (fun _ _ ⟨st, q⟩ => ⟨st, q.same s⟩) h
def spSteps (K : PySem.W.Frag) : Sp := fun vs H Q _ => ∃ (p at_ az ak t bs : Addr) (f : Int) (wd n i x : Nat) (T : List (List Int)) (ls bl : List Addr) (lots : List (List Nat)), vs = [.ref p, .int i, .ref bs, .int x] ∧ IsPl K H p at_ az ak t n ls lots ∧ IsRows K H t f wd T ∧ TabC f wd n T ∧
  LotsOk n lots ∧ H bs = some (.lst (rV bl)) ∧ AreBases K H t f n T bl lots ∧ i < lots.length ∧ x < n ∧
  (KP.stepOf f n T lots i x = none → ∀ H', Same H H' → Q .non H') ∧
  ∀ os, KP.stepOf f n T lots i x = some os → ∀ H' q, Same H H' → H q = none → H' q = some (.lst (nV os)) → Q (.ref q) H'
theorem inV_nats (k : Nat) (l : List Nat) : inV (.int k) (nV l) = l.contains k := by
  rw [nV_iV, inV_ints]
  cases h : l.contains k with
  | true => exact decide_eq_true (List.mem_map.mpr ⟨k, List.contains_iff_mem.mp h, rfl⟩)
  | false =>
    refine decide_eq_false fun m => ?_
    obtain ⟨z, hz, e⟩ := List.mem_map.mp m
    rw [Int.ofNat.inj e] at hz
    rw [List.contains_iff_mem.mpr hz] at h
    cases h
theorem flat_nats (l : List Nat) : (nV l).all flatV = true := by rw [nV_iV]; exact flat_ints _
theorem m_steps (T : Txt2 P K mg) : C8.Met P w K mg base 6 (He.ga K "Places") "steps_to" (spSteps K) [] := by
  obtain ⟨fd, F⟩ := T.fn_Places_steps_to
  refine mkMet F T.c_Places T.m_Places_steps_to (fun _ _ _ _ _ _ us hl => match us, hl with | [_, _, _, _], _ => rfl) scSteps (fun vs H Q E h => ?_) fun cdv A outer s H vs Q E hr h => ?_
  · obtain ⟨p, at_, az, ak, t, bs, f, wd, n, i, x, T', ls, bl, lots, rfl, _⟩ := h
    rfl
  · obtain ⟨p, at_, az, ak, t, bs, f, wd, n, i, x, T', ls, bl, lots, rfl, ⟨⟨dx, hp⟩, hat, haz, hak, hls, hnd⟩, hrows, tc, lo, hbs, hbl, hi, hx, kn, ks⟩ := h
    refine ⟨_, (pss_cons (ps_set (i := 4) scSteps.nd rfl (Or.inl rfl) (pe_ix ix_list (pe_fld (pv 0) rfl) (pv 1) (fun _ _ => rfl))) (pss_cons (ps_if (pt_cmpR op_in_seq (pv 3) (pv 4) (by with_unfolding_all rfl)) (pss_one (ps_ret (pe_lst pa_nil))) pss_nil) (pss_cons (ps_set (i := 5) scSteps.nd rfl (Or.inl rfl) (C8.pe_mt (m_rel T) hr (by decide) (pe_ix ix_list (pv 2) (pv 1) (fun _ _ => rfl)) (pa_cons (pv 3) pa_nil))) (pss_cons (ps_if (pt_cmpR op_notN (pv 5) pe_non (nomark _)) (pss_one (ps_ret (pe_lock (pe_lc (own := [("other", 6)]) (g := gName 6) rfl scSteps.nd (pi_keys (pv 5)) (blkOk_by (N := nmSteps) (sc := defScope s_Places_steps_to) (by decide +kernel))
          (fun _ _ _ _ _ => pg_name (i := 6) scSteps.nd rfl (Or.inl rfl)) (fun _ _ _ _ _ => pts_one (pt_cmpR op_ne (pv 6) (pv 3) (nomark _))) (fun _ _ _ _ _ => pv 6))))) pss_nil) (pss_one (ps_ret (pe_ifExp (pt_cmpR op_lt (pe_callB call_len_seq (by rfl) T.f_len boot_len (pa_cons (pv 4) pa_nil)) (pe_ix ix_list (pe_fld (pv 0) rfl) (pv 1) (fun _ _ => rfl)) (nomark _)) pe_non (pe_callTy call_list_of (by rfl) T.f_list (boot_T "list") (pa_cons (pv 4) pa_nil))))))))), ?_⟩
    obtain ⟨l, hl, hll⟩ := hls.at_ hi
    refine ⟨_, rfl, p, _, _, _, _, rfl, hp, T.c_Places, T.n_Places_kept, rfl, _, rfl, ak, _, _, _, rfl, rfl, SqL.of hak, atN (by rw [List.getElem?_map, hl]; rfl), ?_⟩
    refine ⟨_, rfl, _, rfl, l, _, rfl, .inl (SqL.of hll), rfl, flat_nats _, _, rfl, ?_⟩
    show if (inV (V.int (x : Int)) (nV (lots.getD i []))) = true then _ else _
    rw [inV_nats]
    cases hc : (lots.getD i []).contains x with
    | true =>
      refine ite_t rfl ⟨Nat.zero_le _, fun q hq => ?_⟩
      exact ks [] (by unfold KP.stepOf; rw [if_pos hc]) _ q (Same.upd hq) hq upd_same
    | false =>
      have hxl : x ∉ lots.getD i [] := fun m => by rw [List.contains_iff_mem.mpr m] at hc; cases hc
      obtain ⟨bb, hbb, stb, hib⟩ := paired_at' hbl (List.getElem?_eq_getElem hi)
      have hgd : lots[i] = lots.getD i [] := by rw [List.getD_eq_getElem?_getD, List.getElem?_eq_getElem hi]; rfl
      rw [hgd] at hib
      obtain ⟨dxb, hbi⟩ := hib.1
      refine ite_f rfl ?_
      refine ⟨_, rfl, _, rfl, bs, _, _, _, rfl, rfl, SqL.of hbs, atN (by rw [List.getElem?_map, hbb]; rfl), bb, _, _, rfl, hbi, rfl, _, rfl, ?_⟩
      refine ⟨bb, t, stb, f, wd, n, x, T', _, (· ∈ lots.getD i []), rfl, hib, hrows, tc, hx, hxl, KP.baseOf_ok tc.D (field_bounds tc.fld).1 (field_bounds tc.fld).2 tc.tab (lo.nd i) (lo.lt i), fun hrn H1 s1 => ?_, fun kvs hrs H1 q s1 hq hkv => ?_⟩
      · refine ⟨_, rfl, rfl, _, rfl, ite_f rfl ?_⟩
        have hlt : (lots.getD i []).length < n := by
          have := KP.nodup_le n (x :: lots.getD i []) (List.nodup_cons.mpr ⟨hxl, lo.nd i⟩) (fun r hr => by
            rcases List.mem_cons.mp hr with rfl | hr
            · exact hx
            · exact lo.lt i r hr)
          rw [List.length_cons] at this; omega
        refine ⟨_, rfl, l, _, rfl, .inl (SqL.of (s1 _ _ hll)), _, rfl, p, _, _, _, _, rfl, s1 _ _ hp, T.c_Places, T.n_Places_sizes, rfl, _, rfl, az, _, _, .int n, rfl, rfl, SqL.of (s1 _ _ haz), atN (by rw [List.getElem?_replicate, if_pos hi]), _, _, rfl, rfl, _, rfl, ite_t (decide_eq_true (by rw [List.length_map]; omega)) ?_⟩
        exact kn (by unfold KP.stepOf; rw [if_neg (by rw [hc]; simp), hrn]; rfl) _ s1
      · refine ⟨_, rfl, rfl, _, rfl, ite_t rfl ?_⟩
        refine ⟨q, _, hkv, True.intro, fun od => ?_⟩
        refine ⟨_, rfl, q, od, rfl, .inl ⟨_, upd_same, fun D hD => ?_⟩⟩
        refine lc_it (jo_keys upd_same) (Same.refl _) (Same.refl _) hD (fun i => nV (((kvs.map (·.1)).take i).filter fun o => decide (o ≠ x))) rfl (fun i hi => ?_) (fun i v H3 Nx Sk hi s3 hv k k0 => ?_) fun H3 s3 h3 => ?_
        · obtain ⟨k1, k2⟩ := KP.rel_keys tc.D (field_bounds tc.fld).1 (field_bounds tc.fld).2 tc.tab (lo.nd _) (lo.lt _) hx hxl hrs
          have hkl := nd_len k1 (fun r hr => (k2 r hr).elim (fun e => e ▸ hx) (lo.lt _ r))
          have h1 := List.length_filter_le (fun o => decide (o ≠ x)) ((kvs.map (·.1)).take i)
          rw [List.length_take] at h1
          have := tc.n5
          rw [List.length_map]; omega
        · obtain ⟨k2, x2, hk2, rfl⟩ := hv
          obtain ⟨z, hz, e⟩ := get_map hk2
          cases e
          have hz1 : (kvs.map (·.1))[i]? = some z.1 := by rw [List.getElem?_map, hz]; rfl
          refine ⟨rfl, _, rfl, _, rfl, rfl, _, rfl, ?_⟩
          by_cases h0 : z.1 = x
          · refine ite_f (nd_eq h0) (k0 _ (Same.refl _) ?_)
            rw [take_filter_more _ hz1, if_neg (by simp [h0])]
          · refine ite_t (nd_ne h0) ⟨_, rfl, k _ _ (Same.refl _) ?_⟩
            rw [take_filter_more _ hz1, if_pos (by simp [h0])]
            exact nV_snoc _ _
        · have hdD : q ≠ D := ne_of_none upd_same hD
          refine ⟨s3 _ _ upd_same, ?_⟩
          rw [List.length_map, List.take_of_length_le (Nat.le_of_eq (List.length_map ..))] at h3
          have hnone : H D = none := by
            have q2 : H1 D = none := by rw [upd_ne (Ne.symm hdD)] at hD; exact hD
            exact s1.free q2
          exact ks _ (by unfold KP.stepOf; rw [if_neg (by rw [hc]; simp), hrs]; rfl) _ D (s1.trans (same_unlock hkv s3)) hnone (by rw [upd_ne (Ne.symm hdD)]; exact h3)
end
end KW
end
section
set_option Elab.async false
set_option linter.all false
set_option maxRecDepth 100000
set_option maxHeartbeats 8000000
/-! The walk of Places.reached_from. -/
namespace KW
open PySem PySem.Spec PyProof.Rows L2
section
variable {P : Program} {w : World} {K : PySem.W.Frag} {mg : Str → Option Value} {base : Heap}
abbrev nmReach : List Str := ["self", "starts", "bases", "thing", "reached", "level", "later", "number", "steps", "fresh", "table", "lot", "other"]
theorem scReach : FnScope nmReach ["self", "starts"] (defScope s_Places_reached_from) := ⟨rfl, rfl, rfl, by decide +kernel, rfl, by decide +kernel, by decide +kernel⟩
/-- what led to the things that are reached, as a dict -/
def viaV (H : Hp) (v : V) : Option (Nat × Nat) → Prop
  | none => v = .non
  | some z => ∃ a, v = .ref a ∧ H a = some (.tup [.int (z.1 : Int), .int (z.2 : Int)])
def IsRe (H : Hp) (kv : Key × V) (e : KP.RE) : Prop := kv.1 = .inl (e.th : Int) ∧ viaV H kv.2 e.via
def IsReach (H : Hp) (d : Addr) (R : KP.Rch) : Prop := ∃ kvs, H d = some (.dK kvs) ∧ Paired (IsRe H) kvs R
theorem viaV.mono {H H' : Hp} (s : TupSame H H') : ∀ {v : V} {o : Option (Nat × Nat)}, viaV H v o → viaV H' v o
  | _, none, h => h
  | _, some _, ⟨a, h1, h2⟩ => ⟨a, h1, s _ _ h2⟩
theorem IsRe.mono {H H' : Hp} (s : TupSame H H') {kv : Key × V} {e : KP.RE} (h : IsRe H kv e) : IsRe H' kv e := ⟨h.1, h.2.mono s⟩
theorem IsReach.same {H H' : Hp} (s : Same H H') {d : Addr} {R : KP.Rch} (h : IsReach H d R) : IsReach H' d R := let ⟨kvs, a, b⟩ := h; ⟨kvs, s _ _ a, paired_mono (fun _ _ q => q.mono (TupSame.of s)) b⟩
theorem re_keys {H : Hp} {kvs : List (Key × V)} {R : KP.Rch} (h : Paired (IsRe H) kvs R) : kvs.map (·.1) = (KP.keysR R).map fun (r : Nat) => (Sum.inl (r : Int) : Key) := by
  induction h with
  | nil => rfl
  | cons r t ih => rw [List.map_cons, ih, r.1]; rfl
theorem re_in {H : Hp} {kvs : List (Key × V)} {R : KP.Rch} (h : Paired (IsRe H) kvs R) (o : Nat) : (valV kvs (.inl (o : Int))).isSome = (KP.keysR R).contains o := by
  induction h with
  | nil => rfl
  | @cons kv e kvs R r t ih =>
    have e1 : KP.keysR (e :: R) = e.th :: KP.keysR R := rfl
    rw [e1, List.contains_cons]
    by_cases q : e.th = o
    · rw [valV_pos (p := kv) (by rw [r.1, q])]
      subst q; simp
    · rw [valV_neg (p := kv) (by rw [r.1]; exact fun z => q (Int.ofNat.inj (Sum.inl.inj z))), ih]
      have : (o == e.th) = false := beq_eq_false_iff_ne.mpr (Ne.symm q)
      rw [this, Bool.false_or]
theorem inl_inj {a b : Nat} (h : (Sum.inl (a : Int) : Key) = .inl (b : Int)) : a = b := Int.ofNat.inj (Sum.inl.inj h)
theorem re_nodup {H : Hp} {kvs : List (Key × V)} {R : KP.Rch} (h : Paired (IsRe H) kvs R) (hn : (KP.keysR R).Nodup) : (kvs.map (·.1)).Nodup := by
  rw [re_keys h]
  exact List.Pairwise.map _ (fun a b hab z => hab (inl_inj z)) hn
/-- what is reached: so many, no more than there are rows -/
structure RS (n : Nat) (R : KP.Rch) : Prop where
  nd : (KP.keysR R).Nodup
  lt : ∀ r, r ∈ KP.keysR R → r < n
theorem RS.len {n : Nat} {R : KP.Rch} (h : RS n R) : R.length ≤ n := by
  have := KP.nodup_le n _ h.nd h.lt
  unfold KP.keysR at this
  rw [List.length_map] at this
  exact this
theorem step_fact {f : Int} {wd n x i : Nat} {T : List (List Int)} {lots : List (List Nat)} (tc : TabC f wd n T) (lo : LotsOk n lots) (hx : x < n) {os : List Nat} (h : KP.stepOf f n T lots i x = some os) : os.Nodup ∧ ∀ o, o ∈ os → o < n := by
  unfold KP.stepOf at h
  split at h
  · cases h; exact ⟨List.nodup_nil, fun _ h => absurd h List.not_mem_nil⟩
  · rename_i hc
    have hxl : x ∉ lots.getD i [] := fun m => hc (List.contains_iff_mem.mpr m)
    obtain ⟨kvs, hk, rfl⟩ := Option.map_eq_some_iff.mp h
    obtain ⟨k1, k2⟩ := KP.rel_keys tc.D (field_bounds tc.fld).1 (field_bounds tc.fld).2 tc.tab (lo.nd i) (lo.lt i) hx hxl hk
    exact ⟨(k1.imp fun {_ _} => Nat.ne_of_lt).sublist List.filter_sublist, fun o ho => (k2 o (List.mem_filter.mp ho).1).elim (fun e => e ▸ hx) (lo.lt i o)⟩
/-- the new ones -/
abbrev newR (R : KP.Rch) (os : List Nat) : List Nat := os.filter fun o => !(KP.keysR R).contains o
abbrev newE (t i j : Nat) (os : List Nat) : KP.Rch := os.map fun o => ⟨o, some (t, i), j + 1⟩
theorem RS.more {n t i j : Nat} {R : KP.Rch} {os : List Nat} (h : RS n R) (hn : os.Nodup) (hl : ∀ o, o ∈ os → o < n) : RS n (R ++ newE t i j (newR R os)) := by
  have e : KP.keysR (R ++ newE t i j (newR R os)) = KP.keysR R ++ newR R os := by
    unfold KP.keysR newE
    rw [List.map_append, List.map_map]
    congr 1
    exact (List.map_congr_left fun _ _ => rfl).trans (List.map_id _)
  refine ⟨?_, ?_⟩
  · rw [e]
    refine List.nodup_append.mpr ⟨h.nd, hn.sublist List.filter_sublist, fun a ha b hb z => ?_⟩
    subst z
    have := (List.mem_filter.mp hb).2
    rw [List.contains_iff_mem.mpr ha] at this; cases this
  · intro r hr
    rw [e] at hr
    rcases List.mem_append.mp hr with hr | hr
    · exact h.lt r hr
    · exact hl r (List.mem_filter.mp hr).1
/-- what stands at each turn -/
structure Com (n : Nat) (H1 H : Hp) (dR la lvA : Addr) (R : KP.Rch) (later lv : List Nat) : Prop where
  sm : Same H1 H
  re : IsReach H dR R
  la : H la = some (.lst (nV later))
  atlv : H lvA = some (.lst (nV lv))
  rs : RS n R
  len : later.length ≤ R.length
  inn : ∀ r, r ∈ later → r ∈ KP.keysR R
  lvl : ∀ r, r ∈ lv → r ∈ KP.keysR R
theorem Com.same {n : Nat} {H1 H H' : Hp} {dR la lvA : Addr} {R : KP.Rch} {later lv : List Nat} (s : Same H H') (c : Com n H1 H dR la lvA R later lv) : Com n H1 H' dR la lvA R later lv :=
  ⟨c.sm.trans s, c.re.same s, s _ _ c.la, s _ _ c.atlv, c.rs, c.len, c.inn, c.lvl⟩
theorem Com.more {n t i j : Nat} {H1 H : Hp} {dR la lvA : Addr} {R : KP.Rch} {later lv os : List Nat} (c : Com n H1 H dR la lvA R later lv) (hd : H1 dR = none) (hla : H1 la = none) (hne : la ≠ lvA) (hn : os.Nodup) (hl : ∀ o, o ∈ os → o < n)
    {kvs more : List (Key × V)} (hk : H dR = some (.dK kvs)) (hkr : Paired (IsRe H) kvs R) (hm : Paired (IsRe H) more (newE t i j (newR R os))) :
    Com n H1 (upd (upd H dR (.dK (mergeK kvs more))) la (.lst (nV later ++ nV (newR R os)))) dR la lvA (R ++ newE t i j (newR R os)) (later ++ newR R os) lv := by
  have r2 := c.rs.more (t := t) (i := i) (j := j) hn hl
  have hp : Paired (IsRe H) (kvs ++ more) (R ++ newE t i j (newR R os)) := paired_append hkr hm
  have hdl : dR ≠ la := fun z => by have := c.la; rw [← z, hk] at this; cases this
  have hdv : lvA ≠ dR := fun z => by have := c.atlv; rw [z, hk] at this; cases this
  have ts : TupSame H (upd (upd H dR (.dK (mergeK kvs more))) la (.lst (nV later ++ nV (newR R os)))) := (TupSame.upd hk (fun _ => by simp)).trans (TupSame.upd (by rw [upd_ne hdl.symm]; exact c.la) (fun _ => by simp))
  have ekeys : KP.keysR (R ++ newE t i j (newR R os)) = KP.keysR R ++ newR R os := by
    unfold KP.keysR newE
    rw [List.map_append, List.map_map]
    congr 1
    exact (List.map_congr_left fun _ _ => rfl).trans (List.map_id _)
  refine ⟨(c.sm.updN hd).updN hla, ⟨kvs ++ more, ?_, paired_mono (fun _ _ q => q.mono ts) hp⟩, ?_, ?_, r2, ?_, fun r hr => ?_, fun r hr => ?_⟩
  · rw [upd_ne hdl, upd_same, mergeK_app (by rw [re_keys hp]; exact List.Pairwise.map _ (fun a b hab z => hab (inl_inj z)) r2.nd)]
  · rw [upd_same]
    congr 2
    exact (List.map_append ..).symm
  · rw [upd_ne hne.symm, upd_ne hdv]; exact c.atlv
  · rw [List.length_append, List.length_append, List.length_map]; have := c.len; omega
  · rw [ekeys]
    rcases List.mem_append.mp hr with hr | hr
    · exact List.mem_append.mpr (.inl (c.inn r hr))
    · exact List.mem_append.mpr (.inr hr)
  · rw [ekeys]; exact List.mem_append.mpr (.inl (c.lvl r hr))
theorem IsBase.but {H : Hp} {D b t st : Addr} {steps : List KP.Stp} {xs : List Addr} (h : IsBase K H b t st steps) (hD : H D = some (.lst (rV xs))) (hst : st ≠ D) (hk : ∀ s, s ∈ steps → s.known ≠ []) : IsBase K (but D H) b t st steps := by
  obtain ⟨⟨dx, h1⟩, ts, h2, h3⟩ := h
  have ne : ∀ q o, H q = some o → (∀ z, o ≠ .lst (rV z)) → q ≠ D := fun q o e h z => by rw [z, hD] at e; exact h _ (Option.some.inj e).symm
  refine ⟨⟨dx, but_at h1 (ne _ _ h1 fun _ => by simp)⟩, ts, but_at h2 hst, paired_of (paired_len h3) fun i q s hq hs => ?_⟩
  obtain ⟨s', hs', kk, mm, e1, e2, e3⟩ := paired_at h3 hq
  rw [hs] at hs'; cases hs'
  exact ⟨kk, mm, but_at e1 (ne _ _ e1 fun _ => by simp), but_at e2 (ne _ _ e2 fun z q => iV_rV (hk s (List.mem_of_getElem? hs)) (HO.lst.inj q)), but_at e3 (ne _ _ e3 fun _ => by simp)⟩
def spReach (K : PySem.W.Frag) : Sp := fun vs H Q _ => ∃ (p at_ az ak t sl : Addr) (f : Int) (wd n x : Nat) (T : List (List Int)) (ls : List Addr) (lots : List (List Nat)) (R : KP.Rch) (last : Option (Nat × Nat)), vs = [.ref p, .ref sl] ∧ IsPl K H p at_ az ak t n ls lots ∧ IsRows K H t f wd T ∧ TabC f wd n T ∧
  LotsOk n lots ∧ H sl = some (.lst [.int (x : Int)]) ∧ x < n ∧ lots.length ≤ 100 ∧ KP.bfs (KP.stepOf f n T lots) lots.length (n + 1) 0 [⟨x, none, 0⟩] [x] = some (R, last) ∧
  ∀ H' q d v, Same H H' → H q = none → IsReach H' d R → RS n R → viaV H' v last → H' q = some (.tup [.ref d, v]) → Q (.ref q) H'
/-- what stands ahead of each level -/
def WhInv (p sl D dR : Addr) (n cnt : Nat) (stp : Nat → Nat → Option (List Nat)) (H2 : Hp) (res : KP.Rch × Option (Nat × Nat)) : Nat → L2.St → Hp → Prop := fun m σ H' => ∃ (j : Nat) (R : KP.Rch) (lv : List Nat) (lvA : Addr) (v3 v6 v7 v8 v9 : Option V),
  σ = [some (.ref p), some (.ref sl), some (.ref D), v3, some (.ref dR), some (.ref lvA), v6, v7, v8, v9, none, none, none] ∧ Same H2 H' ∧ IsReach H' dR R ∧ H' lvA = some (.lst (nV lv)) ∧ RS n R ∧ (∀ r, r ∈ lv → r ∈ KP.keysR R) ∧ lv.length ≤ 100 ∧ KP.bfs stp cnt m j R lv = some res
theorem drop_cons {α : Type} {l : List α} {i : Nat} {z : α} (h : l[i]? = some z) : l.drop i = z :: l.drop (i + 1) := by
  obtain ⟨hi, e⟩ := List.getElem?_eq_some_iff.mp h
  rw [List.drop_eq_getElem_cons hi, e]
theorem m_reach (T : Txt2 P K mg) : C8.Met P w K mg base 7 (He.ga K "Places") "reached_from" (spReach K) [] := by
  obtain ⟨fd, F⟩ := T.fn_Places_reached_from
  refine mkMet F T.c_Places T.m_Places_reached_from (fun _ _ _ _ _ _ us hl => match us, hl with | [_, _], _ => rfl) scReach (fun vs H Q E h => ?_) fun cdv A outer s H vs Q E hr h => ?_
  · obtain ⟨p, at_, az, ak, t, sl, f, wd, n, x, T', ls, lots, R, last, rfl, _⟩ := h
    rfl
  · obtain ⟨p, at_, az, ak, t, sl, f, wd, n, x, T', ls, lots, R, last, rfl, hpl, hrows, tc, lo, hsl, hx, hl100, hbfs, k⟩ := h
    have hu : A.units + 3 + 1 < cLine := by have := hr.un; have e : (A.deeper (envOfC "Places.reached_from" (defScope s_Places_reached_from) s.heap.objs.size (He.fAd K ("Places", some "reached_from")) cdv)).units = A.units + 3 := rfl; omega
    refine ⟨_, (pss_cons (ps_setLc (i := 2) (te := tMeth (He.ga K "Rows") "base_of" (spBaseOf K) [] E0 (tVar 10) (tCons (tVar 11) tNil)) (own := [("table", 10), ("lot", 11)]) (g := gTup K 2 (gCons (gName 10) (gCons (gName 11) gNil))) (tt := tYes) rfl scReach.nd rfl rfl rfl (pi_zip (by rfl) T.f_zip (pa_cons (pe_fld (pv 0) rfl) (pa_cons (pe_fld (pv 0) rfl) pa_nil))) (blkOk_by (N := nmReach) (sc := defScope s_Places_reached_from) (by decide +kernel))
          (fun _ _ _ _ _ => pg_tup rfl (pgs_cons (pg_name (i := 10) scReach.nd rfl (Or.inl rfl)) (pgs_cons (pg_name (i := 11) scReach.nd rfl (Or.inl rfl)) pgs_nil))) (fun _ _ _ _ _ => pts_nil) (fun _ _ _ _ _ => C8.pe_mt (m_baseOf T) hr (by decide) (pv 10) (pa_cons (pv 11) pa_nil))) (pss_cons (ps_asg (pe_tup (pa_cons (pe_dc (own := [("thing", 3)]) (g := gName 3) (tt := tYes) rfl scReach.nd (pi_list (pv 1)) (blkOk_by (N := nmReach) (sc := defScope s_Places_reached_from) (by decide +kernel)) (fun _ _ _ _ _ => pg_name (i := 3) scReach.nd rfl (Or.inl rfl)) (fun _ _ _ _ _ => pts_nil) (fun _ _ _ _ _ => pv 3) (fun _ _ _ _ _ => pe_non)) (pa_cons (pe_callTy call_list_of (by rfl) T.f_list (boot_T "list") (pa_cons (pv 1) pa_nil)) pa_nil))) (pg_tup rfl (pgs_cons (pg_name (i := 4) scReach.nd rfl (Or.inr rfl)) (pgs_cons (pg_name (i := 5) scReach.nd rfl (Or.inl rfl)) pgs_nil)))) (pss_cons (ps_while PassesOwn.never (pt_cmpR op_gt (pe_callB call_len_seq (by rfl) T.f_len boot_len (pa_cons (pv 5) pa_nil)) pe_int (nomark _)) (pss_cons (ps_set (i := 6) scReach.nd rfl (Or.inl rfl) (pe_lst pa_nil)) (pss_cons (ps_for PassesOwn.never rfl (pi_list (pv 5)) (pg_name (i := 3) scReach.nd rfl (Or.inr rfl)) (pss_one (ps_for PassesOwn.never rfl (pi_range1 (by rfl) T.f_range (pa_cons (pe_callB call_len_seq (by rfl) T.f_len boot_len (pa_cons (pe_fld (pv 0) rfl) pa_nil)) pa_nil)) (pg_name (i := 7) scReach.nd rfl (Or.inr rfl))
          (pss_cons (ps_set (i := 8) scReach.nd rfl (Or.inl rfl) (C8.pe_mt (m_steps T) hr (by decide) (pv 0) (pa_cons (pv 7) (pa_cons (pv 2) (pa_cons (pv 3) pa_nil))))) (pss_cons (ps_if (pt_cmpR op_isN (pv 8) pe_non (nomark _)) (pss_one (ps_ret (pe_tup (pa_cons (pv 4) (pa_cons (pe_tup (pa_cons (pv 3) (pa_cons (pv 7) pa_nil))) pa_nil))))) pss_nil) (pss_cons (ps_setLc (i := 9) (own := [("other", 12)]) (g := gName 12) rfl scReach.nd rfl rfl rfl (pi_list (pv 8)) (blkOk_by (N := nmReach) (sc := defScope s_Places_reached_from) (by decide +kernel)) (fun _ _ _ _ _ => pg_name (i := 12) scReach.nd rfl (Or.inl rfl)) (fun _ _ _ _ _ => pts_one (pt_cmp (pc_dnotin hu (pv 12) (pv 4)) (by with_unfolding_all rfl))) (fun _ _ _ _ _ => pv 12)) (pss_cons (ps_expr (pe_bm PySem.F.plainAttrs_dict PySem.F.slot_dict_update PySem.F.type_dict_update mtd_update (pv 4) (pa_cons (pe_dc (own := [("other", 12)]) (g := gName 12) (tt := tYes) rfl scReach.nd (pi_list (pv 9)) (blkOk_by (N := nmReach) (sc := defScope s_Places_reached_from) (by decide +kernel)) (fun _ _ _ _ _ => pg_name (i := 12) scReach.nd rfl (Or.inl rfl)) (fun _ _ _ _ _ => pts_nil) (fun _ _ _ _ _ => pv 12) (fun _ _ _ _ _ => pe_tup (pa_cons (pv 3) (pa_cons (pv 7) pa_nil)))) pa_nil))) (pss_one (ps_expr (pe_bm PySem.F.plainAttrs_list PySem.F.slot_list_extend PySem.F.type_list_extend mt_extend (pv 6) (pa_cons (pv 9) pa_nil))))))))))) (pss_one (ps_set (i := 5) scReach.nd rfl (Or.inl rfl) (pv 6)))))) (pss_one (ps_ret (pe_tup (pa_cons (pv 4) (pa_cons (pe_non) pa_nil)))))))), ?_⟩
    obtain ⟨⟨dxp, hp⟩, hat, haz, hak, hls, hlnd⟩ := id hpl
    obtain ⟨dxt, r, rs, ht, hrr, hpr⟩ := id hrows
    have hlsl : ls.length = lots.length := paired_len hls
    refine ⟨_, rfl, p, _, _, _, _, rfl, hp, T.c_Places, T.n_Places_tables, rfl, _, rfl, p, _, _, _, _, rfl, hp, T.c_Places, T.n_Places_kept, rfl, ?_⟩
    refine ⟨at_, ak, _, _, rfl, SqL.of hat, SqL.of hak, fun D hD => ?_⟩
    refine lc_ex (jo_zip (SqL.of hat) (SqL.of hak) (by rw [List.length_replicate, List.length_map, hlsl])) (Same.refl _) (Same.refl _) hD (fun i xs G => ∃ bl, xs = rV bl ∧ AreBases K G t f n T' bl (lots.take i)) (fun i xs G G' sG ⟨bl, e1, e2⟩ => ⟨bl, e1, e2.same sG⟩) ⟨[], rfl, .nil⟩
      (fun i xs G hi ⟨bl, e1, e2⟩ => by rw [e1, List.length_map, paired_len e2, List.length_take]; omega) (fun i v xs H2 Nx Sk hi s2 hv hD2 hpv kN _ => ?_) fun H2 xs s2 d2 hpv => ?_
    · obtain ⟨T2, x2, y2, rfl, hT2, hx2, hy2⟩ := hv
      have hx2' : x2 = .ref t := by
        rw [List.getElem?_replicate] at hx2
        split at hx2
        · exact (Option.some.inj hx2).symm
        · cases hx2
      subst hx2'
      obtain ⟨l, hl, rfl⟩ := at_map hy2
      obtain ⟨lot, hlot, hll⟩ := paired_at hls hl
      obtain ⟨bl, rfl, hbl⟩ := hpv
      have eL : lots.getD i [] = lot := by rw [List.getD_eq_getElem?_getD, hlot]; rfl
      have hnd := lo.nd i
      have hlt := lo.lt i
      rw [eL] at hnd hlt
      refine ⟨T2, _, rfl, .inl (.inl hT2), rfl, _, _, rfl, _, _, rfl, rfl, ⟨rfl, ?_⟩⟩
      refine ⟨_, rfl, t, dxt, _, rfl, s2 _ _ ht, rfl, _, rfl, t, l, f, wd, n, T', lot, rfl, s2 _ _ hll, hrows.same s2, tc, hnd, hlt, fun H3 b st s3 hst hb => kN _ _ s3 ⟨bl ++ [b], by rw [rV_snoc], ?_⟩⟩
      rw [take_more hlot]
      refine Paired.snoc (hbl.same (but_mono s3)) ⟨st, hb.but (s3 _ _ hD2) (ne_of_none hD2 hst).symm fun s' hs' => ?_⟩
      obtain ⟨i', hi'⟩ := List.getElem?_of_mem hs'
      have so := KP.baseOf_ok tc.D (field_bounds tc.fld).1 (field_bounds tc.fld).2 tc.tab hnd hlt
      have h1 := (so.made i' s' hi').len
      have h2 := (so.lead i' s' hi').1
      intro z
      rw [z] at h1; simp at h1; omega
    · obtain ⟨bl, rfl, hbl⟩ := hpv
      rw [List.length_replicate, List.take_length] at hbl
      have hbl2 := hbl.same but_same
      have hsl2 := s2 _ _ hsl
      refine ⟨_, rfl, sl, rfl, ⟨_, SqL.of hsl2⟩, fun dR hdR => ?_⟩
      refine dc_it (jo_list (SqL.of hsl2)) (Same.refl _) (Same.refl _) hdR (fun i => if i = 0 then [] else [(.inl (x : Int), .non)]) rfl (fun i _ => by split <;> simp) (fun i v H3 Nx Sk hi s3 hv k1 _ => ?_) fun H3 s3 h3 => ?_
      · have hi0 : i = 0 := by simp at hi; omega
        subst hi0
        cases hv
        exact ⟨rfl, _, rfl, k1 _ _ (.inl (x : Int)) _ (Same.refl _) rfl rfl⟩
      · have hdR0 : H2 dR = none := hdR
        have h3' : H3 dR = some (.dK [(.inl (x : Int), .non)]) := h3
        refine ⟨_, rfl, sl, _, rfl, .inl (SqL.of (s3 _ _ hsl2)), fun lvA hlvA => ⟨sz (by simp), fun pt hpt => ?_⟩⟩
        refine ⟨pt, _, rfl, .inl (.inl upd_same), rfl, _, _, rfl, _, _, rfl, rfl, ?_⟩
        have hlots : lots.length ≤ 100 := hl100
        refine ⟨WhInv p sl D dR n lots.length (KP.stepOf f n T' lots) H2 (R, last), ⟨n + 1, 0, [⟨x, none, 0⟩], [x], lvA, _, _, _, _, _, rfl, (s3.upd' hlvA).upd' hpt, ⟨_, Same.upd hpt _ _ (Same.upd hlvA _ _ h3'), .cons ⟨rfl, rfl⟩ .nil⟩, Same.upd hpt _ _ upd_same, ⟨List.nodup_cons.mpr ⟨List.not_mem_nil, List.nodup_nil⟩, fun r hr => by rw [List.mem_singleton.mp hr]; exact hx⟩, fun r hr => hr, by simp, hbfs⟩, ?_⟩
        clear hbfs hlvA hpt h3'
        rintro m σ H4 ⟨j, R', lv, lvA, v3, v6, v7, v8, v9, rfl, s4, hre, hlv, hrs, hin, hll, hb⟩
        refine ⟨_, rfl, lvA, _, rfl, .inl (SqL.of hlv), _, _, rfl, rfl, _, rfl, ?_⟩
        cases lv with
        | nil =>
          refine ite_f rfl ⟨_, rfl, sz (by simp), fun q hq => ?_⟩
          have e : KP.bfs (KP.stepOf f n T' lots) lots.length m j R' [] = some (R', none) := by cases m <;> rfl
          rw [e] at hb
          cases hb
          have s04 := s2.trans s4
          exact k _ q dR .non (s04.upd' hq) (s04.free hq) (hre.same (Same.upd hq)) hrs rfl upd_same
        | cons t0 ts =>
          cases m with
          | zero => cases hb
          | succ m =>
            refine ite_t (decide_eq_true (by simp)) ⟨WhInv p sl D dR n lots.length (KP.stepOf f n T' lots) H2 (R, last) m, fun σ' H' w => ⟨m, Nat.lt_succ_self m, w⟩, Nat.zero_le _, fun la hla => ?_⟩
            have hb' : (match KP.bfsLev (KP.stepOf f n T' lots) lots.length j (t0 :: ts) R' [] with
              | .inl (R', z) => some (R', some z)
              | .inr (R', later) => KP.bfs (KP.stepOf f n T' lots) lots.length m (j + 1) R' later) = some (R, last) := hb
            generalize hz1 : KP.bfsLev (KP.stepOf f n T' lots) lots.length j (t0 :: ts) R' [] = z1 at hb'
            have hlv5 := Same.upd (o := .lst []) hla _ _ hlv
            have hla2 : H2 la = none := s4.free hla
            have hlaN : la ≠ lvA := (ne_of_none hlv hla).symm
            refine ⟨_, rfl, lvA, rfl, ⟨_, SqL.of hlv5⟩, ?_⟩
            refine for_it (jo_list (SqL.of (sub_at (as := [lvA]) hlv5 List.mem_cons_self))) (fun i σ H' => ∃ (v3 v7 v8 v9 : Option V) (R2 : KP.Rch) (later : List Nat), σ = [some (.ref p), some (.ref sl), some (.ref D), v3, some (.ref dR), some (.ref lvA), some (.ref la), v7, v8, v9, none, none, none] ∧ Com n H2 H' dR la lvA R2 later (t0 :: ts) ∧
                KP.bfsLev (KP.stepOf f n T' lots) lots.length j ((t0 :: ts).drop i) R2 later = z1)
              ⟨_, _, _, _, R', [], rfl, ⟨s4.upd' hla, hre.same (Same.upd hla), upd_same, hlv5, hrs, Nat.zero_le _, fun _ h => absurd h List.not_mem_nil, hin⟩, hz1⟩ (fun i σ H' _ ⟨_, _, _, _, _, _, _, c, _⟩ => sub_same fun a ha => by rw [List.mem_singleton.mp ha, c.atlv, hlv5]) ?_ ?_
            · rintro i v σ H6 H7 hi ⟨v3, v7, v8, v9, R2, later, rfl, c6, hz⟩ s67 hv
              obtain ⟨th, hth, rfl⟩ := at_map hv
              have c7 := c6.same s67
              rw [drop_cons hth] at hz
              have hthn : th < n := c7.rs.lt th (c7.lvl th (List.mem_of_getElem? hth))
              have hz' : (match KP.bfsNum (KP.stepOf f n T' lots) th j (List.range lots.length) R2 later with
                | .inl z => .inl z
                | .inr (R', later') => KP.bfsLev (KP.stepOf f n T' lots) lots.length j ((t0 :: ts).drop (i + 1)) R' later') = z1 := hz
              generalize hz2 : KP.bfsNum (KP.stepOf f n T' lots) th j (List.range lots.length) R2 later = z2 at hz'
              have s07 := s2.trans c7.sm
              have hcnt : (((rV ls).length : Nat) : Int).toNat = lots.length := by rw [List.length_map, hlsl]; simp
              refine ⟨_, rfl, p, _, _, _, _, rfl, s07 _ _ hp, T.c_Places, T.n_Places_kept, rfl, ak, _, rfl, .inl (SqL.of (s07 _ _ hak)), _, rfl, by omega, by rw [List.length_map, hlsl]; omega, ?_⟩
              rw [hcnt]
              refine for_it (H0 := fun _ => none) (jo_range 0 lots.length) (fun k σ H' => ∃ (v7 v8 v9 : Option V) (R3 : KP.Rch) (later3 : List Nat), σ = [some (.ref p), some (.ref sl), some (.ref D), some (.int (th : Int)), some (.ref dR), some (.ref lvA), some (.ref la), v7, v8, v9, none, none, none] ∧ Com n H2 H' dR la lvA R3 later3 (t0 :: ts) ∧
                  KP.bfsNum (KP.stepOf f n T' lots) th j ((List.range lots.length).drop k) R3 later3 = z2)
                ⟨_, _, _, R2, later, rfl, c7, hz2⟩ (fun _ _ _ _ _ _ _ e => by cases e) ?_ ?_
              · rintro i3 v σ H8 H9 hi3 ⟨v7, v8, v9, R3, later3, rfl, c8, hz3⟩ s89 rfl
                have c9 := c8.same s89
                have s09 := s2.trans c9.sm
                rw [drop_cons (z := i3) (by rw [List.getElem?_range hi3])] at hz3
                have hz3' : (match KP.stepOf f n T' lots i3 th with
                  | none => .inl (R3, th, i3)
                  | some os => KP.bfsNum (KP.stepOf f n T' lots) th j ((List.range lots.length).drop (i3 + 1)) (R3 ++ newE th i3 j (newR R3 os)) (later3 ++ newR R3 os)) = z2 := hz3
                rw [Int.zero_add]
                refine ⟨_, rfl, p, dxp, _, rfl, s09 _ _ hp, rfl, _, rfl, _, rfl, _, rfl, p, at_, az, ak, t, D, f, wd, n, i3, th, T', ls, bl, lots, rfl, hpl.same s09, hrows.same s09, tc, lo, c9.sm _ _ d2, hbl2.same c9.sm, hi3, hthn, fun hs H10 s10 => ?_, fun os hs H10 q s10 hq hqv => ?_⟩
                · rw [hs] at hz3'
                  change Sum.inl (R3, th, i3) = z2 at hz3'
                  subst hz3'
                  change Sum.inl (R3, th, i3) = z1 at hz'
                  subst hz'
                  change some (R3, some (th, i3)) = some (R, last) at hb'
                  cases hb'
                  refine ⟨_, rfl, rfl, _, rfl, ite_t rfl ⟨_, rfl, _, rfl, _, rfl, sz (by simp), fun a ha => ⟨sz (by simp), fun q hq => ?_⟩⟩⟩
                  have s0a := s09.trans s10
                  exact k _ q dR (.ref a) ((s0a.upd' ha).upd' hq) ((s0a.upd' ha).free hq) (((c9.same s10).re.same (Same.upd ha)).same (Same.upd hq)) c9.rs ⟨a, rfl, Same.upd hq _ _ upd_same⟩ upd_same
                · rw [hs] at hz3'
                  have c10 := c9.same s10
                  obtain ⟨ond, olt⟩ := step_fact tc lo hthn hs
                  have osl : os.length ≤ n := KP.nodup_le n os ond olt
                  have hn20 := tc.n5
                  have hRl := c10.rs.len
                  obtain ⟨kvs, hk10, hkr⟩ := c10.re
                  refine ⟨_, rfl, rfl, _, rfl, ite_f rfl ⟨_, rfl, q, rfl, ⟨_, SqL.of hqv⟩, fun fr hfr => ?_⟩⟩
                  refine lc_it (jo_list (SqL.of hqv)) (Same.refl _) (Same.refl _) hfr (fun i => nV ((os.take i).filter fun o => !(KP.keysR R3).contains o)) rfl (fun i _ => ?_) (fun i v H11 Nx Sk hi s11 hv k1 k0 => ?_) fun H11 s11 h11 => ?_
                  · have := List.length_filter_le (fun o => !(KP.keysR R3).contains o) (os.take i)
                    rw [List.length_take] at this
                    rw [List.length_map]; omega
                  · obtain ⟨z, hz, rfl⟩ := at_map hv
                    refine ⟨rfl, _, rfl, _, rfl, dR, _, rfl, DGet.k (k := .inl (z : Int)) (s11 _ _ hk10), _, rfl, ?_⟩
                    rw [re_in hkr]
                    cases hc : (KP.keysR R3).contains z with
                    | true => exact ite_f rfl (k0 _ (Same.refl _) (by rw [take_filter_more _ hz, if_neg (by rw [hc]; simp)]))
                    | false => exact ite_t rfl ⟨_, rfl, k1 _ _ (Same.refl _) (by rw [take_filter_more _ hz, if_pos (by rw [hc]; rfl)]; exact nV_snoc _ _)⟩
                  · rw [List.length_map, List.take_length] at h11
                    change H11 fr = some (.lst (nV (newR R3 os))) at h11
                    have c11 := c10.same s11
                    have nnd : (newR R3 os).Nodup := ond.sublist List.filter_sublist
                    have nle : (newR R3 os).length ≤ os.length := List.length_filter_le _ _
                    refine ⟨_, rfl, .inr (.inr (.inl ⟨rfl, .inl ⟨_, s11 _ _ hk10⟩⟩)), _, rfl, fr, rfl, ⟨_, SqL.of h11⟩, fun DD hDD => ?_⟩
                    refine dc_ex (jo_list (SqL.of h11)) (Same.refl _) (Same.refl _) hDD (fun i kvs G => Paired (IsRe G) kvs (newE th i3 j ((newR R3 os).take i))) (fun i xs G G' sG h => paired_mono (fun _ _ q => q.mono (TupSame.of sG)) h) .nil
                      (fun i xs G hi h => by rw [paired_len h, List.length_map, List.length_take]; omega) (fun i v kv1 H12 Nx Sk hi s12 hv hD12 hpv k1 _ => ?_) fun H13 more s13 h13 hpv => ?_
                    · obtain ⟨z, hz, rfl⟩ := at_map hv
                      refine ⟨rfl, _, rfl, _, rfl, _, rfl, sz (by simp), fun a ha => k1 _ _ (.inl (z : Int)) _ (Same.upd ha) rfl ?_⟩
                      have haD : a ≠ DD := fun y => by rw [y, hD12] at ha; cases ha
                      have hkn : (.inl (z : Int) : Key) ∉ kv1.map (·.1) := fun m => by
                        rw [re_keys hpv] at m
                        obtain ⟨z2, hz2, e⟩ := List.mem_map.mp m
                        have e2 : KP.keysR (newE th i3 j ((newR R3 os).take i)) = (newR R3 os).take i := by
                          unfold KP.keysR newE
                          rw [List.map_map]
                          exact (List.map_congr_left fun _ _ => rfl).trans (List.map_id _)
                        rw [e2, inl_inj e] at hz2
                        exact nd_takeN nnd hz hz2
                      rw [putK_new _ (valV_none' hkn), take_more hz]
                      have e3 : newE th i3 j ((newR R3 os).take i ++ [z]) = newE th i3 j ((newR R3 os).take i) ++ [⟨z, some (th, i3), j + 1⟩] := List.map_append ..
                      rw [e3]
                      exact Paired.snoc (paired_mono (fun _ _ q => q.mono (TupSame.of (but_mono (Same.upd ha)))) hpv) ⟨rfl, a, rfl, but_at upd_same haD⟩
                    · rw [List.length_map, List.take_length] at hpv
                      have c13 := c11.same s13
                      have hk13 := s13 _ _ (s11 _ _ hk10)
                      have hm := paired_mono (fun _ _ q => q.mono (TupSame.of but_same)) hpv
                      have hkr13 := paired_mono (fun _ _ q => q.mono (TupSame.of (s11.trans s13))) hkr
                      have hdl : la ≠ dR := fun y => by have := c13.la; rw [y, hk13] at this; cases this
                      have hfd : fr ≠ dR := fun y => by rw [y, s11 _ _ hk10] at h11; cases h11
                      refine ⟨dR, DD, kvs, more, rfl, rfl, ne_of_none (s11 _ _ hk10) hDD, hk13, h13, ?_, ?_⟩
                      · rw [paired_len hkr, paired_len hm, List.length_map]; omega
                      · refine ⟨_, rfl, .inl ⟨rfl, _, SqL.of (by rw [upd_ne hdl]; exact c13.la)⟩, _, rfl, la, fr, _, _, rfl, rfl, by rw [upd_ne hdl]; exact c13.la, by rw [upd_ne hfd]; exact s13 _ _ h11, ?_, ?_⟩
                        · have := c13.len
                          refine sz ?_
                          rw [List.length_map, List.length_map]; omega
                        · exact ⟨_, _, _, _, _, rfl, c13.more (j := j) (i := i3) (t := th) hdR0 hla2 hlaN ond olt hk13 hkr13 hm, hz3'⟩
              · rintro σ H8 ⟨v7, v8, v9, R3, later3, rfl, c8, hz3⟩
                rw [List.drop_of_length_le (by simp)] at hz3
                cases hz3
                exact ⟨_, _, _, _, R3, later3, rfl, c8, hz'⟩
            · rintro σ H6 ⟨v3, v7, v8, v9, R2, later, rfl, c6, hz⟩
              rw [List.length_map, List.drop_length] at hz
              cases hz
              refine ⟨_, rfl, ?_⟩
              have hrl := c6.rs.len
              have := tc.n5
              have := c6.len
              exact ⟨j + 1, R2, later, la, _, _, _, _, _, rfl, c6.sm, c6.re, c6.la, c6.rs, c6.inn, by omega, hb'⟩
end
end KW
end
section
set_option Elab.async false
set_option linter.all false
set_option maxRecDepth 100000
set_option maxHeartbeats 8000000
set_option pp.maxSteps 400
/-! The walk of Places.put. -/
namespace KW
open PySem PySem.Spec PyProof.Rows L2
section
variable {P : Program} {w : World} {K : PySem.W.Frag} {mg : Str → Option Value} {base : Heap}
abbrev nmPut : List Str := ["self", "thing", "reached", "last", "moves", "mover", "number", "lot"]
theorem scPut : FnScope nmPut ["self", "thing"] (defScope s_Places_put) := ⟨rfl, rfl, rfl, by decide +kernel, rfl, by decide +kernel, by decide +kernel⟩
def movesD (pl : List (Nat × Nat)) : List (Key × V) := pl.map fun z => (.inl (z.1 : Int), .int (z.2 : Int))
/-- what put tells -/
def toldD (pl : List (Nat × Nat)) : List (Key × V) := (KP.srt (pl.map (·.1))).map fun (m : Nat) => (.inl (m : Int), .int (((pl.lookup m).getD 0 : Nat) : Int))
def spPut (K : PySem.W.Frag) : Sp := fun vs H Q _ => ∃ (p at_ az ak t : Addr) (f : Int) (wd n x : Nat) (T : List (List Int)) (ls : List Addr) (lots : List (List Nat)), vs = [.ref p, .int (x : Int)] ∧ IsPl K H p at_ az ak t n ls lots ∧ IsRows K H t f wd T ∧ TabC f wd n T ∧ LotsOk n lots ∧ x < n ∧ lots.length ≤ 100 ∧
  ((∃ R, KP.bfs (KP.stepOf f n T lots) lots.length (n + 1) 0 [⟨x, none, 0⟩] [x] = some (R, none) ∧ ∀ H', Same H H' → Q .non H') ∨
   ∃ R th i pl rest j, KP.bfs (KP.stepOf f n T lots) lots.length (n + 1) 0 [⟨x, none, 0⟩] [x] = some (R, some (th, i)) ∧ KP.Path R x pl j ∧ pl = (th, i) :: rest ∧ (pl.map (·.1)).Nodup ∧ (∀ z, z ∈ pl → z.2 < lots.length ∧ z.1 < n) ∧
    ∀ H' q, SameBut ls H H' → IsPl K H' p at_ az ak t n ls (KP.putLots lots pl) → H q = none → H' q = some (.dK (toldD pl)) → Q (.ref q) H')
theorem re_val {H : Hp} {kvs : List (Key × V)} {R : KP.Rch} (h : Paired (IsRe H) kvs R) (hn : (KP.keysR R).Nodup) {e : KP.RE} (he : e ∈ R) : ∃ v, valV kvs (.inl (e.th : Int)) = some v ∧ viaV H v e.via := by
  induction h with
  | nil => cases he
  | @cons kv e' kvs R r t ih =>
    have hn' : (e'.th :: KP.keysR R).Nodup := hn
    obtain ⟨n1, n2⟩ := List.nodup_cons.mp hn'
    rcases List.mem_cons.mp he with rfl | he
    · exact ⟨kv.2, by rw [valV_pos (p := kv) r.1], r.2⟩
    · obtain ⟨v, h1, h2⟩ := ih n2 he
      refine ⟨v, ?_, h2⟩
      rw [valV_neg (p := kv) (by rw [r.1]; exact fun z => n1 (by rw [inl_inj z]; exact List.mem_map.mpr ⟨e, he, rfl⟩)), h1]
theorem movesD_keys (pl : List (Nat × Nat)) : (movesD pl).map (·.1) = (pl.map (·.1)).map fun (m : Nat) => (Sum.inl (m : Int) : Key) := by
  unfold movesD
  rw [List.map_map, List.map_map]; rfl
theorem movesD_keys2 (pl : List (Nat × Nat)) : (movesD pl).map (·.1) = ((pl.map (·.1)).map fun (r : Nat) => (r : Int)).map Sum.inl := by
  unfold movesD
  simp only [List.map_map]; rfl
theorem movesD_put {l : List (Nat × Nat)} {z : Nat × Nat} (h : z.1 ∉ l.map (·.1)) : putK (movesD l) (.inl (z.1 : Int)) (.int (z.2 : Int)) = movesD (l ++ [z]) := by
  rw [putK_new _ (valV_none' fun m => ?_)]
  · unfold movesD; rw [List.map_append]; rfl
  · rw [movesD_keys] at m
    obtain ⟨y, hy, e⟩ := List.mem_map.mp m
    exact h (by rw [← inl_inj e]; exact hy)
theorem movesD_val : ∀ (pl : List (Nat × Nat)) (m : Nat), valV (movesD pl) (.inl (m : Int)) = (pl.lookup m).map fun i => V.int (i : Int)
  | [], _ => rfl
  | (a, z) :: l, r => by
    show valV ((.inl (a : Int), V.int (z : Int)) :: movesD l) (.inl (r : Int)) = _
    by_cases e : a = r
    · subst e
      rw [valV_pos (p := ((Sum.inl (a : Int) : Key), V.int (z : Int))) rfl, List.lookup_cons, beq_self_eq_true]; rfl
    · have e3 : (r == a) = false := beq_eq_false_iff_ne.mpr (Ne.symm e)
      rw [valV_neg (p := ((Sum.inl (a : Int) : Key), V.int (z : Int))) (fun h => e (inl_inj h)), movesD_val l r, List.lookup_cons, e3]
/-- the lots by their places -/
def LF (H : Hp) (ls : List Addr) (g : Nat → List Nat) : Prop := ∀ (j : Nat) (l : Addr), ls[j]? = some l → H l = some (.lst (nV (g j)))
theorem LF.of {H : Hp} {ls : List Addr} {lots : List (List Nat)} (h : IsLots H ls lots) : LF H ls fun j => lots.getD j [] := fun j l hj => by
  obtain ⟨lot, h1, h2⟩ := paired_at h hj
  have e : lots.getD j [] = lot := by rw [List.getD_eq_getElem?_getD, h1]; rfl
  rw [h2]; show some (HO.lst (nV lot)) = some (HO.lst (nV (lots.getD j []))); rw [e]
theorem LF.to {H : Hp} {ls : List Addr} {lots : List (List Nat)} (hl : ls.length = lots.length) (h : LF H ls fun j => lots.getD j []) : IsLots H ls lots := paired_of hl fun j l lot h1 h2 => by
  have e : lots.getD j [] = lot := by rw [List.getD_eq_getElem?_getD, h2]; rfl
  have := h j l h1
  rw [this]; show some (HO.lst (nV (lots.getD j []))) = _; rw [e]
theorem nd_at {ls : List Addr} (h : ls.Nodup) {i j : Nat} {l : Addr} (h1 : ls[i]? = some l) (h2 : ls[j]? = some l) : i = j := by
  obtain ⟨a1, b1⟩ := List.getElem?_eq_some_iff.mp h1
  obtain ⟨a2, b2⟩ := List.getElem?_eq_some_iff.mp h2
  have pw := List.pairwise_iff_getElem.mp h
  rcases Nat.lt_trichotomy i j with q | q | q
  · exact absurd (b1.trans b2.symm) (pw i j a1 a2 q)
  · exact q
  · exact absurd (b2.trans b1.symm) (pw j i a2 a1 q)
theorem LF.upd {H : Hp} {ls : List Addr} {g g' : Nat → List Nat} {k : Nat} {l : Addr} (h : LF H ls g) (hn : ls.Nodup) (hk : ls[k]? = some l) (e : ∀ j, j ≠ k → j < ls.length → g' j = g j) : LF (L2.upd H l (.lst (nV (g' k)))) ls g' := fun j l' hj => by
  by_cases q : j = k
  · subst q
    rw [hk] at hj; cases hj
    exact upd_same
  · have : l' ≠ l := fun z => q (nd_at hn (z ▸ hj) hk)
    rw [upd_ne this, e j q (List.getElem?_eq_some_iff.mp hj).1]
    exact h j l' hj
theorem LF.cong {H : Hp} {ls : List Addr} {g g' : Nat → List Nat} (h : LF H ls g) (e : ∀ j, j < ls.length → g' j = g j) : LF H ls g' := fun j l hj => by rw [e j (List.getElem?_eq_some_iff.mp hj).1]; exact h j l hj
theorem LF.same {H H' : Hp} {ls : List Addr} {g : Nat → List Nat} (h : LF H ls g) (s : Same H H') : LF H' ls g := fun j l hj => s _ _ (h j l hj)
theorem IsPl.apart {H : Hp} {p at_ az ak t : Addr} {n : Nat} {ls : List Addr} {lots : List (List Nat)} (h : IsPl K H p at_ az ak t n ls lots) (lo : LotsOk n lots) : p ∉ ls ∧ at_ ∉ ls ∧ az ∉ ls ∧ ak ∉ ls := by
  obtain ⟨⟨dx, hp⟩, hat, haz, hak, hls, hnd⟩ := h
  have key : ∀ a, a ∈ ls → ∃ i, i < lots.length ∧ H a = some (.lst (nV (lots.getD i []))) := fun a ha => by
    obtain ⟨i, hi⟩ := List.getElem?_of_mem ha
    refine ⟨i, ?_, LF.of hls i a hi⟩
    rw [← paired_len hls]; exact (List.getElem?_eq_some_iff.mp hi).1
  have hll : ls.length = lots.length := paired_len hls
  refine ⟨fun m => ?_, fun m => ?_, fun m => ?_, fun m => ?_⟩
  · obtain ⟨i, _, e⟩ := key _ m
    rw [hp] at e; cases e
  · obtain ⟨i, hi, e⟩ := key _ m
    rw [hat] at e
    have e2 := HO.lst.inj (Option.some.inj e)
    cases hL : lots.length with
    | zero => omega
    | succ k =>
      rw [hL, List.replicate_succ] at e2
      cases hg : lots.getD i [] with
      | nil => rw [hg] at e2; cases e2
      | cons a b => rw [hg] at e2; cases e2
  · obtain ⟨i, hi, e⟩ := key _ m
    rw [haz] at e
    have e2 := HO.lst.inj (Option.some.inj e)
    cases hL : lots.length with
    | zero => omega
    | succ k =>
      rw [hL, List.replicate_succ] at e2
      cases hg : lots.getD i [] with
      | nil => rw [hg] at e2; cases e2
      | cons a b =>
        rw [hg] at e2
        have e3 := Int.ofNat.inj (V.int.inj (List.cons.inj e2).1)
        have := lo.lt i a (by rw [hg]; exact List.mem_cons_self)
        omega
  · obtain ⟨i, hi, e⟩ := key _ m
    rw [hak] at e
    have e2 := HO.lst.inj (Option.some.inj e)
    cases hls' : ls with
    | nil => rw [hls'] at m; cases m
    | cons a b =>
      rw [hls'] at e2
      cases hg : lots.getD i [] with
      | nil => rw [hg] at e2; cases e2
      | cons a b => rw [hg] at e2; cases e2
theorem erase_at : ∀ {l : List Nat} {a : Nat}, a ∈ l → ∃ j, l[j]? = some a ∧ (∀ m : Nat, m < j → l[m]? ≠ some a) ∧ l.eraseIdx j = l.erase a
  | [], _, h => absurd h List.not_mem_nil
  | b :: l, a, h => by
    by_cases e : b = a
    · subst e
      exact ⟨0, rfl, fun m hm => absurd hm (Nat.not_lt_zero _), by simp⟩
    · rcases List.mem_cons.mp h with q | h
      · exact absurd q.symm e
      · obtain ⟨j, h1, h2, h3⟩ := erase_at h
        refine ⟨j + 1, h1, fun m hm => ?_, ?_⟩
        · cases m with
          | zero => intro q; exact e (Option.some.inj q)
          | succ m => exact h2 m (by omega)
        · rw [List.eraseIdx_cons_succ, h3, List.erase_cons_tail (by simpa using e)]
theorem eraseIdx_mapG {α β : Type} (g : α → β) : ∀ (l : List α) (j : Nat), (l.map g).eraseIdx j = (l.eraseIdx j).map g
  | [], j => by simp
  | _ :: _, 0 => rfl
  | a :: r, j + 1 => by rw [List.map_cons, List.eraseIdx_cons_succ, List.eraseIdx_cons_succ, List.map_cons, eraseIdx_mapG g r j]
abbrev putK1 (ks : List (List Nat)) (z : Nat × Nat) : List (List Nat) := ks.set z.2 (ks.getD z.2 [] ++ [z.1])
theorem app_len : ∀ (pl : List (Nat × Nat)) (K : List (List Nat)) (j : Nat), ((pl.foldl putK1 K).getD j []).length ≤ (K.getD j []).length + pl.length
  | [], _, _ => Nat.le_add_right _ _
  | z :: pl, K, j => by
    have h := app_len pl (putK1 K z) j
    rw [List.foldl_cons, List.length_cons]
    have h2 : ((putK1 K z).getD j []).length ≤ (K.getD j []).length + 1 := by
      by_cases hz : z.2 < K.length
      · rw [KP.getD_set hz]
        split
        · rename_i e; subst e; rw [List.length_append]; simp
        · omega
      · have : putK1 K z = K := List.set_eq_of_length_le (by omega)
        rw [this]; omega
    omega
theorem app_length : ∀ (pl : List (Nat × Nat)) (K : List (List Nat)), (pl.foldl putK1 K).length = K.length
  | [], _ => rfl
  | z :: pl, K => by rw [List.foldl_cons, app_length pl]; exact List.length_set
theorem dropAll_len : ∀ (ms lot : List Nat), (KP.dropAll lot ms).length ≤ lot.length
  | [], _ => Nat.le_refl _
  | m :: ms, lot => Nat.le_trans (dropAll_len ms (lot.erase m)) (List.length_erase_le)
theorem dropAll_more (lot ms : List Nat) (m : Nat) : KP.dropAll lot (ms ++ [m]) = (KP.dropAll lot ms).erase m := by
  unfold KP.dropAll
  rw [List.foldl_append]; rfl
theorem getD_mapL {g : List Nat → List Nat} {L : List (List Nat)} {j : Nat} (h : j < L.length) : (L.map g).getD j [] = g (L.getD j []) := by
  rw [List.getD_eq_getElem?_getD, List.getD_eq_getElem?_getD, List.getElem?_map, List.getElem?_eq_getElem h]; rfl
theorem SameBut.at_ {as : List Addr} {H H' : Hp} (s : SameBut as H H') {a : Addr} {o : HO} (h : H a = some o) (ha : a ∉ as) : H' a = some o := s _ _ h ha
theorem m_put (T : Txt2 P K mg) : C8.Met P w K mg base 8 (He.ga K "Places") "put" (spPut K) [] := by
  obtain ⟨fd, F⟩ := T.fn_Places_put
  refine mkMet F T.c_Places T.m_Places_put (fun _ _ _ _ _ _ us hl => match us, hl with | [_, _], _ => rfl) scPut (fun vs H Q E h => ?_) fun cdv A outer s H vs Q E hr h => ?_
  · obtain ⟨p, at_, az, ak, t, f, wd, n, x, T', ls, lots, rfl, _⟩ := h
    rfl
  · obtain ⟨p, at_, az, ak, t, f, wd, n, x, T', ls, lots, rfl, hpl, hrows, tc, lo, hx, hl100, hcase⟩ := h
    have hu : A.units + 3 + 1 < cLine := by have := hr.un; have e : (A.deeper (envOfC "Places.put" (defScope s_Places_put) s.heap.objs.size (He.fAd K ("Places", some "put")) cdv)).units = A.units + 3 := rfl; omega
    refine ⟨_, (pss_cons (ps_asg (C8.pe_mt (m_reach T) hr (by decide) (pv 0) (pa_cons (pe_lst (pa_cons (pv 1) pa_nil)) pa_nil)) (pg_tup rfl (pgs_cons (pg_name (i := 2) scPut.nd rfl (Or.inl rfl)) (pgs_cons (pg_name (i := 3) scPut.nd rfl (Or.inl rfl)) pgs_nil)))) (pss_cons (ps_if (pt_cmpR op_isN (pv 3) pe_non (nomark _)) (pss_one (ps_ret pe_non)) pss_nil) (pss_cons (ps_set (i := 4) scPut.nd rfl (Or.inr rfl) pe_dnewK) (pss_cons (ps_asg (pv 3) (pg_tup rfl (pgs_cons (pg_name (i := 5) scPut.nd rfl (Or.inl rfl)) (pgs_cons (pg_name (i := 6) scPut.nd rfl (Or.inl rfl)) pgs_nil)))) (pss_cons (ps_while PassesOwn.never (pt_cmpR op_notN (pv 5) pe_non (nomark _)) (pss_cons (ps_dput hu (pv 4) (pv 5) (pv 6) rfl) (pss_one (ps_asg (pe_ifExp (pt_cmpR op_isN (pe_dget hu (pv 2) (pv 5) (fun _ _ => rfl)) pe_non (nomark _)) (pe_tup (pa_cons (pe_non) (pa_cons (pe_non) pa_nil))) (pe_dget hu (pv 2) (pv 5) (fun _ _ => rfl))) (pg_tup rfl (pgs_cons (pg_name (i := 5) scPut.nd rfl (Or.inl rfl)) (pgs_cons (pg_name (i := 6) scPut.nd rfl (Or.inl rfl)) pgs_nil))))))) (pss_cons (ps_lock (ps_for PassesOwn.never rfl (pi_keys (pv 4)) (pg_name (i := 5) scPut.nd rfl (Or.inl rfl)) (pss_one (ps_for PassesOwn.never rfl (pi_list (pe_fld (pv 0) rfl)) (pg_name (i := 7) scPut.nd rfl (Or.inl rfl))
          (pss_one (ps_if (pt_cmpR op_in_seq (pv 5) (pv 7) (by with_unfolding_all rfl)) (pss_one (ps_expr (pe_bm PySem.F.plainAttrs_list PySem.F.slot_list_remove PySem.F.type_list_remove mt_remove (pv 7) (pa_cons (pv 5) pa_nil)))) pss_nil)))))) (pss_cons (ps_lock (ps_for PassesOwn.never rfl (pi_items (pv 4)) (pg_tup rfl (pgs_cons (pg_name (i := 5) scPut.nd rfl (Or.inl rfl)) (pgs_cons (pg_name (i := 6) scPut.nd rfl (Or.inl rfl)) pgs_nil)))
          (pss_one (ps_expr (pe_bm PySem.F.plainAttrs_list PySem.F.slot_list_append PySem.F.type_list_append mt_append (pe_ix ix_list (pe_fld (pv 0) rfl) (pv 6) (fun _ _ => rfl)) (pa_cons (pv 5) pa_nil)))))) (pss_one (ps_ret (pe_dc (own := [("mover", 5)]) (g := gName 5) (tt := tYes) rfl scPut.nd (pi_list (pe_callB (call_sortedDI rfl) (by rfl) T.f_sorted boot_sorted (pa_cons (pv 4) pa_nil))) (blkOk_by (N := nmPut) (sc := defScope s_Places_put) (by decide +kernel)) (fun _ _ _ _ _ => pg_name (i := 5) scPut.nd rfl (Or.inl rfl)) (fun _ _ _ _ _ => pts_nil) (fun _ _ _ _ _ => pv 5) (fun _ _ _ _ _ => pe_dget hu (pv 4) (pv 5) (fun _ _ => rfl)))))))))))), ?_⟩
    obtain ⟨⟨dxp, hp⟩, hat, haz, hak, hls, hlnd⟩ := id hpl
    obtain ⟨ap, aat, aaz, aak⟩ := hpl.apart lo
    have hlsl : ls.length = lots.length := paired_len hls
    refine ⟨_, rfl, p, _, _, rfl, hp, rfl, _, rfl, sz (by simp), fun sl hsl => ?_⟩
    rcases hcase with ⟨R, hbfs, k⟩ | ⟨R, th, i, pl, rest, j, hbfs, hpath, hpl1, hplnd, hpllt, k⟩
    · refine ⟨p, at_, az, ak, t, sl, f, wd, n, x, T', ls, lots, R, none, rfl, hpl.same (Same.upd hsl), hrows.same (Same.upd hsl), tc, lo, upd_same, hx, hl100, hbfs, fun H1 q d v s1 hq hre hrs hv hqt => ?_⟩
      cases hv
      refine ⟨q, _, rfl, .inl (.inl hqt), rfl, _, _, rfl, _, _, rfl, rfl, ?_⟩
      exact ⟨_, rfl, rfl, _, rfl, ite_t rfl (k _ ((Same.upd hsl).trans s1))⟩
    · refine ⟨p, at_, az, ak, t, sl, f, wd, n, x, T', ls, lots, R, some (th, i), rfl, hpl.same (Same.upd hsl), hrows.same (Same.upd hsl), tc, lo, upd_same, hx, hl100, hbfs, fun H1 q d v s1 hq hre hrs hv hqt => ?_⟩
      obtain ⟨a, rfl, ha⟩ := hv
      refine ⟨q, _, rfl, .inl (.inl hqt), rfl, _, _, rfl, _, _, rfl, rfl, ?_⟩
      refine ⟨_, rfl, rfl, _, rfl, ite_f rfl fun dM hdM => ?_⟩
      refine ⟨_, rfl, a, _, rfl, .inl (.inl (Same.upd hdM _ _ ha)), rfl, _, _, rfl, _, _, rfl, rfl, ?_⟩
      obtain ⟨kvs, hkd, hkr⟩ := id hre
      have hdd : d ≠ dM := ne_of_none hkd hdM
      have sH1 : Same H H1 := (Same.upd hsl).trans s1
      refine ⟨fun m σ H' => ∃ (done todo : List (Nat × Nat)) (mv nb : V), pl = done ++ todo ∧ m = todo.length ∧ σ = [some (.ref p), some (.int (x : Int)), some (.ref d), some (.ref a), some (.ref dM), some mv, some nb, none] ∧
          (match todo with | [] => mv = .non ∧ nb = .non | z :: _ => mv = .int (z.1 : Int) ∧ nb = .int (z.2 : Int)) ∧ Same H1 H' ∧ H' dM = some (.dK (movesD done)) ∧ (todo = [] ∨ ∃ l, KP.Path R x todo l),
        ⟨_, [], pl, _, _, rfl, rfl, rfl, by rw [hpl1]; exact ⟨rfl, rfl⟩, Same.upd hdM, upd_same, .inr ⟨j, hpath⟩⟩, ?_⟩
      rintro m σ H2 ⟨done, todo, mv, nb, hsplit, rfl, rfl, hmv, s2, hM2, hpt⟩
      have hkd2 := s2 _ _ hkd
      cases todo with
      | cons z rest2 =>
        obtain ⟨rfl, rfl⟩ := hmv
        refine ⟨_, rfl, rfl, _, rfl, ite_t rfl ?_⟩
        refine ⟨fun σ H' => ∃ (done todo : List (Nat × Nat)) (mv nb : V), pl = done ++ todo ∧ rest2.length = todo.length ∧ σ = [some (.ref p), some (.int (x : Int)), some (.ref d), some (.ref a), some (.ref dM), some mv, some nb, none] ∧
          (match todo with | [] => mv = .non ∧ nb = .non | z :: _ => mv = .int (z.1 : Int) ∧ nb = .int (z.2 : Int)) ∧ Same H1 H' ∧ H' dM = some (.dK (movesD done)) ∧ (todo = [] ∨ ∃ l, KP.Path R x todo l), fun σ' H' w => ⟨rest2.length, Nat.lt_succ_self _, w⟩, ?_⟩
        have hzd : z.1 ∉ done.map (·.1) := fun mm => by
          rw [hsplit, List.map_append, List.nodup_append] at hplnd
          exact hplnd.2.2 _ mm _ List.mem_cons_self rfl
        have hdl : done.length ≤ n := by
          rw [hsplit, List.map_append, List.nodup_append] at hplnd
          have := KP.nodup_le n (done.map (·.1)) hplnd.1 (fun r hr => by
            obtain ⟨y, hy, rfl⟩ := List.mem_map.mp hr
            exact (hpllt y (by rw [hsplit]; exact List.mem_append.mpr (.inl hy))).2)
          rw [List.length_map] at this; exact this
        have hn20 := tc.n5
        refine ⟨_, rfl, _, rfl, _, rfl, dM, _, rfl, .inl ⟨_, .inl (z.1 : Int), hM2, rfl, szl (by unfold movesD; rw [List.length_map]; omega), rfl⟩, ?_⟩
        rw [movesD_put hzd]
        generalize hH3 : upd H2 dM _ = H3
        have s3 : Same H1 H3 := by rw [← hH3]; exact s2.updN hdM
        have hM3 : H3 dM = some (.dK (movesD (done ++ [z]))) := by rw [← hH3]; exact upd_same
        have hkd3 := s3 _ _ hkd
        have hkr3 := paired_mono (fun _ _ q => q.mono (TupSame.of s3)) hkr
        have hsp2 : pl = (done ++ [z]) ++ rest2 := by rw [hsplit, List.append_assoc]; rfl
        rcases hpt with hpt | ⟨l, hpt⟩
        · cases hpt
        · cases hpt with
          | root i0 he =>
            obtain ⟨v, hv1, hv2⟩ := re_val hkr3 hrs.nd he
            cases hv2
            refine ⟨_, rfl, _, rfl, d, .non, rfl, ?_, rfl, _, rfl, ite_t rfl ⟨sz (by simp), fun a2 ha2 => ?_⟩⟩
            · exact hv1 ▸ DGet.k (k := .inl (x : Int)) hkd3
            · refine ⟨a2, _, rfl, .inl (.inl upd_same), rfl, _, _, rfl, _, _, rfl, rfl, ⟨done ++ [(x, i0)], [], _, _, hsp2, rfl, rfl, ⟨rfl, rfl⟩, s3.upd' ha2, Same.upd ha2 _ _ hM3, .inl rfl⟩⟩
          | @cons th2 p2 i2 i3 l2 rest3 he hp2 =>
            obtain ⟨v, hv1, a2, hv2, hv3⟩ := re_val hkr3 hrs.nd he
            subst hv2
            have hget : DGet H3 d (.int (th2 : Int)) (some (.ref a2)) := hv1 ▸ DGet.k (k := .inl (th2 : Int)) hkd3
            refine ⟨_, rfl, _, rfl, d, _, rfl, hget, rfl, _, rfl, ite_f rfl ⟨_, rfl, _, rfl, d, _, rfl, hget, ?_⟩⟩
            exact ⟨a2, _, rfl, .inl (.inl hv3), rfl, _, _, rfl, _, _, rfl, rfl, ⟨done ++ [(th2, i2)], (p2, i3) :: rest3, _, _, hsp2, rfl, rfl, ⟨rfl, rfl⟩, s3, hM3, .inr ⟨_, hp2⟩⟩⟩
      | nil =>
        obtain ⟨rfl, rfl⟩ := hmv
        refine ⟨_, rfl, rfl, _, rfl, ite_f rfl ?_⟩
        rw [List.append_nil] at hsplit
        subst hsplit
        have hMH : H dM = none := sH1.free hdM
        have hMl : dM ∉ ls := fun m => by
          obtain ⟨i0, hi0⟩ := List.getElem?_of_mem m
          have := LF.of hls i0 dM hi0
          rw [hMH] at this; cases this
        have hneM : ∀ (j : Nat) (l : Addr), ls[j]? = some l → l ≠ dM := fun j l hj z => hMl (by rw [← z]; exact List.mem_of_getElem? hj)
        have hpl20 : pl.length ≤ n := by
          have := KP.nodup_le n (pl.map (·.1)) hplnd (fun r hr => by
            obtain ⟨y, hy, rfl⟩ := List.mem_map.mp hr
            exact (hpllt y hy).2)
          rw [List.length_map] at this; exact this
        have hn20 := tc.n5
        refine ⟨dM, _, hM2, True.intro, fun od => ?_⟩
        refine ⟨_, rfl, dM, od, rfl, .inl ⟨_, upd_same, ?_⟩⟩
        have sHs : Same H (upd H2 dM (.frz od (.dK (movesD pl)))) := (sH1.trans s2).updN hMH
        have hMs : (upd H2 dM (.frz od (.dK (movesD pl)))) dM = some (.frz od (.dK (movesD pl))) := upd_same
        generalize hHs : upd H2 dM (.frz od (.dK (movesD pl))) = Hs at sHs hMs
        refine for_it (jo_keys (sub_at (as := [dM]) hMs List.mem_cons_self)) (fun i σ H' => ∃ (v5 v6 v7 : Option V), σ = [some (.ref p), some (.int (x : Int)), some (.ref d), some (.ref a), some (.ref dM), v5, v6, v7] ∧ SameBut ls Hs H' ∧ LF H' ls (fun j => KP.dropAll (lots.getD j []) ((pl.take i).map (·.1))))
          ⟨_, _, _, rfl, SameBut.of (Same.refl _), (LF.of hls).same sHs⟩ (fun i σ H' _ ⟨_, _, _, _, sb, _⟩ => sub_same fun a ha => by rw [List.mem_singleton.mp ha, hMs]; exact sb _ _ hMs hMl) ?_ ?_
        · rintro i1 v σ H3 H4 hi1 ⟨v5, v6, v7, rfl, sb3, lf3⟩ s34 ⟨kk, vv, hkv, rfl⟩
          obtain ⟨z, hz, e⟩ := get_map hkv
          cases e
          have sb4 := sb3.trans (SameBut.of s34)
          have lf4 := lf3.same s34
          have hak4 := sb4 _ _ (sHs _ _ hak) aak
          refine ⟨_, rfl, p, _, _, _, _, rfl, sb4 _ _ (sHs _ _ hp) ap, T.c_Places, T.n_Places_kept, rfl, ak, rfl, ⟨_, SqL.of hak4⟩, ?_⟩
          refine for_it (jo_list (SqL.of (sub_at (as := [ak]) hak4 List.mem_cons_self))) (fun k σ H' => ∃ (v7 : Option V), σ = [some (.ref p), some (.int (x : Int)), some (.ref d), some (.ref a), some (.ref dM), some (.int (z.1 : Int)), v6, v7] ∧ SameBut ls Hs H' ∧
              LF H' ls (fun j => if j < k then (KP.dropAll (lots.getD j []) ((pl.take i1).map (·.1))).erase z.1 else KP.dropAll (lots.getD j []) ((pl.take i1).map (·.1))))
            ⟨_, rfl, sb4, lf4.cong fun j _ => if_neg (Nat.not_lt_zero j)⟩ (fun i σ H' _ ⟨_, _, sb, _⟩ => sub_same fun a ha => by rw [List.mem_singleton.mp ha, hak4]; exact sb _ _ (sHs _ _ hak) aak) ?_ ?_
          · rintro k1 v σ H5 H6 hk1 ⟨v7, rfl, sb5, lf5⟩ s56 hv
            obtain ⟨l, hl, rfl⟩ := at_map hv
            have sb6 := sb5.trans (SameBut.of s56)
            have lf6 := lf5.same s56
            have hl6 : H6 l = some (.lst (nV (if k1 < k1 then (KP.dropAll (lots.getD k1 []) ((pl.take i1).map (·.1))).erase z.1 else KP.dropAll (lots.getD k1 []) ((pl.take i1).map (·.1))))) := lf6 k1 l hl
            rw [if_neg (Nat.lt_irrefl k1)] at hl6
            generalize hg : KP.dropAll (lots.getD k1 []) ((pl.take i1).map (·.1)) = lot at hl6
            have step : ∀ j, j ≠ k1 → j < ls.length → (if j < k1 + 1 then (KP.dropAll (lots.getD j []) ((pl.take i1).map (·.1))).erase z.1 else KP.dropAll (lots.getD j []) ((pl.take i1).map (·.1))) = if j < k1 then (KP.dropAll (lots.getD j []) ((pl.take i1).map (·.1))).erase z.1 else KP.dropAll (lots.getD j []) ((pl.take i1).map (·.1)) := fun j h1 _ => by
              by_cases q : j < k1
              · rw [if_pos q, if_pos (by omega)]
              · rw [if_neg q, if_neg (by omega)]
            refine ⟨_, rfl, _, rfl, l, _, rfl, .inl (SqL.of hl6), rfl, flat_nats _, _, rfl, ?_⟩
            show if (inV (V.int (z.1 : Int)) (nV lot)) = true then _ else _
            rw [inV_nats]
            cases hc : lot.contains z.1 with
            | true =>
              obtain ⟨j0, e1, e2, e3⟩ := erase_at (List.contains_iff_mem.mp hc)
              refine ite_t rfl ⟨_, rfl, .inl ⟨rfl, _, SqL.of hl6⟩, _, rfl, l, lot.map fun (r : Nat) => (r : Int), (z.1 : Int), j0, rfl, rfl, by rw [hl6, nV_iV], by rw [List.getElem?_map, e1]; rfl, fun m hm q => ?_, ?_⟩
              · obtain ⟨y, hy, ey⟩ := get_map q
                rw [← Int.ofNat.inj ey] at hy
                exact e2 m hm hy
              · refine ⟨_, rfl, sb6.upd (.inl (List.mem_of_getElem? hl)), ?_⟩
                have q := LF.upd (g' := fun j => if j < k1 + 1 then (KP.dropAll (lots.getD j []) ((pl.take i1).map (·.1))).erase z.1 else KP.dropAll (lots.getD j []) ((pl.take i1).map (·.1))) lf6 hlnd hl step
                have e4 : ((lot.map fun (r : Nat) => (r : Int)).eraseIdx j0).map V.int = nV (lot.erase z.1) := by rw [eraseIdx_mapG, e3, nV_iV]
                rw [e4]
                simp only [if_pos (Nat.lt_succ_self k1), hg] at q
                exact q
            | false =>
              refine ite_f rfl ⟨_, rfl, sb6, fun j l' hj => ?_⟩
              by_cases q : j = k1
              · subst q
                rw [hl] at hj; cases hj
                show H6 l = some (.lst (nV (if j < j + 1 then _ else _)))
                rw [if_pos (Nat.lt_succ_self j), hg, List.erase_of_not_mem (fun m => by rw [List.contains_iff_mem.mpr m] at hc; cases hc)]
                exact hl6
              · show H6 l' = some (.lst (nV (if j < k1 + 1 then _ else _)))
                rw [step j q (List.getElem?_eq_some_iff.mp hj).1]
                exact lf6 j l' hj
          · rintro σ H5 ⟨v7, rfl, sb5, lf5⟩
            refine ⟨_, _, _, rfl, sb5, lf5.cong fun j hj => ?_⟩
            rw [List.length_map, if_pos hj, take_map_more (·.1) hz, dropAll_more]
        · rintro σ H3 ⟨v5, v6, v7, rfl, sb3, lf3⟩
          refine ⟨sb3 _ _ hMs hMl, ?_⟩
          unfold movesD at lf3
          rw [List.length_map, List.take_length] at lf3
          obtain ⟨K0, hK0⟩ : ∃ K0, K0 = lots.map fun lot => KP.dropAll lot (pl.map (·.1)) := ⟨_, rfl⟩
          have sb4 : SameBut ls H (upd H3 dM (.dK (movesD pl))) := ((SameBut.of sHs).trans sb3).upd (.inr hMH)
          have lf4 : LF (upd H3 dM (.dK (movesD pl))) ls (fun j => KP.dropAll (lots.getD j []) (pl.map (·.1))) := fun j l hj => by
            rw [upd_ne (hneM j l hj)]; exact lf3 j l hj
          have hM4 : (upd H3 dM (.dK (movesD pl))) dM = some (.dK (movesD pl)) := upd_same
          generalize hH4 : upd H3 dM (.dK (movesD pl)) = H4 at sb4 lf4 hM4
          refine ⟨dM, _, hM4, True.intro, fun od2 => ?_⟩
          refine ⟨_, rfl, dM, od2, _, rfl, upd_same, ?_⟩
          have sb5 : SameBut ls H (upd H4 dM (.frz od2 (.dK (movesD pl)))) := sb4.upd (.inr hMH)
          have lf5 : LF (upd H4 dM (.frz od2 (.dK (movesD pl)))) ls (fun j => K0.getD j []) := fun j l hj => by
            rw [upd_ne (hneM j l hj)]
            show H4 l = some (.lst (nV (K0.getD j [])))
            rw [hK0, getD_mapL (g := fun lot => KP.dropAll lot (pl.map (·.1))) (by rw [← hlsl]; exact (List.getElem?_eq_some_iff.mp hj).1)]
            exact lf4 j l hj
          have hM5 : (upd H4 dM (.frz od2 (.dK (movesD pl)))) dM = some (.frz od2 (.dK (movesD pl))) := upd_same
          generalize hH5 : upd H4 dM (.frz od2 (.dK (movesD pl))) = H5 at sb5 lf5 hM5
          refine for_it (jo_items (sub_at (as := [dM]) hM5 List.mem_cons_self)) (fun i σ H' => ∃ (v5 v6 v7 : Option V), σ = [some (.ref p), some (.int (x : Int)), some (.ref d), some (.ref a), some (.ref dM), v5, v6, v7] ∧ SameBut ls H5 H' ∧ LF H' ls (fun j => ((pl.take i).foldl putK1 K0).getD j []))
            ⟨_, _, _, rfl, SameBut.of (Same.refl _), lf5⟩ (fun i σ H' _ ⟨_, _, _, _, sb, _⟩ => sub_same fun a ha => by rw [List.mem_singleton.mp ha, hM5]; exact sb _ _ hM5 hMl) ?_ ?_
          · rintro i1 v σ H6 H7 hi1 ⟨v5, v6, v7, rfl, sb6, lf6⟩ s67 ⟨T2, kk, vv, rfl, hT2, hkv⟩
            obtain ⟨z, hz, e⟩ := get_map hkv
            cases e
            have sb7 := (sb5.trans sb6).trans (SameBut.of s67)
            have lf7 := lf6.same s67
            have hz2 : z.2 < lots.length := (hpllt z (List.mem_of_getElem? hz)).1
            obtain ⟨l, hl⟩ : ∃ l, ls[z.2]? = some l := ⟨_, List.getElem?_eq_getElem (by rw [hlsl]; exact hz2)⟩
            generalize hKi : (pl.take i1).foldl putK1 K0 = Ki at lf7
            have hKil : Ki.length = lots.length := by rw [← hKi, app_length, hK0, List.length_map]
            have hl7 : H7 l = some (.lst (nV (Ki.getD z.2 []))) := lf7 z.2 l hl
            have hsz : (Ki.getD z.2 []).length ≤ 1000 := by
              have h1 := app_len (pl.take i1) K0 z.2
              rw [hKi, hK0, getD_mapL (g := fun lot => KP.dropAll lot (pl.map (·.1))) hz2, List.length_take] at h1
              have h2 := dropAll_len (pl.map (·.1)) (lots.getD z.2 [])
              have h3 := lo.len z.2
              omega
            refine ⟨T2, _, rfl, .inl (.inl hT2), rfl, _, _, rfl, _, _, rfl, rfl, ?_⟩
            refine ⟨_, rfl, p, _, _, _, _, rfl, sb7 _ _ hp ap, T.c_Places, T.n_Places_kept, rfl, _, rfl, ak, _, _, .ref l, rfl, rfl, SqL.of (sb7 _ _ hak aak), atN (by rw [List.getElem?_map, hl]; rfl), .inl ⟨rfl, _, SqL.of hl7⟩, _, rfl, l, _, _, rfl, rfl, hl7, szl (by rw [List.length_map]; omega), ?_⟩
            refine ⟨_, _, _, rfl, (sb6.trans (SameBut.of s67)).upd (.inl (List.mem_of_getElem? hl)), ?_⟩
            rw [take_more hz, List.foldl_append, hKi]
            have q := LF.upd (g' := fun j => (putK1 Ki z).getD j []) lf7 hlnd hl (fun j h1 _ => by
              show (putK1 Ki z).getD j [] = _
              rw [KP.getD_set (by omega), if_neg h1])
            have e2 : (putK1 Ki z).getD z.2 [] = Ki.getD z.2 [] ++ [z.1] := by rw [KP.getD_set (by omega), if_pos rfl]
            rw [e2, nV_snoc] at q
            exact q
          · rintro σ H6 ⟨v5, v6, v7, rfl, sb6, lf6⟩
            refine ⟨sb6 _ _ hM5 hMl, ?_⟩
            unfold movesD at lf6
            rw [List.length_map, List.take_length] at lf6
            have sb7 : SameBut ls H (upd H6 dM (.dK (movesD pl))) := (sb5.trans sb6).upd (.inr hMH)
            have lf7 : LF (upd H6 dM (.dK (movesD pl))) ls (fun j => (KP.putLots lots pl).getD j []) := fun j l hj => by
              rw [upd_ne (hneM j l hj)]; have := lf6 j l hj; rw [hK0] at this; exact this
            have hM7 : (upd H6 dM (.dK (movesD pl))) dM = some (.dK (movesD pl)) := upd_same
            generalize hH7 : upd H6 dM (.dK (movesD pl)) = H7 at sb7 lf7 hM7
            have hplen : (KP.putLots lots pl).length = lots.length := by
              show (pl.foldl putK1 _).length = _
              rw [app_length, List.length_map]
            have hips : IsPl K H7 p at_ az ak t n ls (KP.putLots lots pl) := ⟨⟨dxp, sb7 _ _ hp ap⟩, by rw [hplen]; exact sb7 _ _ hat aat, by rw [hplen]; exact sb7 _ _ haz aaz, sb7 _ _ hak aak, LF.to (by rw [hplen]; exact hlsl) lf7, hlnd⟩
            refine ⟨_, rfl, dM, _, (pl.map (·.1)).map fun (r : Nat) => (r : Int), rfl, .inl hM7, movesD_keys2 pl, by rw [List.length_map, List.length_map]; omega, fun ys q2 hperm hs hq2 => ?_⟩
            rw [nats_le hperm hs]
            refine ⟨q2, rfl, ⟨_, SqL.of upd_same⟩, fun DD hDD => ?_⟩
            have hM8 := Same.upd (o := .lst (((KP.srt (pl.map (·.1))).map fun (r : Nat) => (r : Int)).map V.int)) hq2 _ _ hM7
            refine dc_it (jo_list (SqL.of upd_same)) (Same.refl _) (Same.refl _) hDD (fun i => ((KP.srt (pl.map (·.1))).take i).map fun (m : Nat) => ((.inl (m : Int) : Key), V.int (((pl.lookup m).getD 0 : Nat) : Int))) rfl (fun i _ => ?_) (fun i v H8 Nx Sk hi s8 hv k1 _ => ?_) fun H8 s8 h8 => ?_
            · rw [List.length_map, List.length_take, (KP.srt_perm (pl.map (·.1))).length_eq, List.length_map]; omega
            · obtain ⟨z1, hz1, rfl⟩ := at_map hv
              obtain ⟨m, hm, rfl⟩ := get_map hz1
              have hmem : m ∈ pl.map (·.1) := KP.mem_srt.mp (List.mem_of_getElem? hm)
              have hval : valV (movesD pl) (.inl (m : Int)) = some (.int (((pl.lookup m).getD 0 : Nat) : Int)) := by
                rw [movesD_val]
                cases e : pl.lookup m with
                | none => exact absurd hmem (KP.lookup_none.mp e)
                | some i => rfl
              refine ⟨rfl, _, rfl, _, rfl, _, rfl, dM, _, rfl, hval ▸ DGet.k (k := .inl (m : Int)) (s8 _ _ hM8), k1 _ _ (.inl (m : Int)) _ (Same.refl _) rfl ?_⟩
              rw [take_map_more _ hm, putK_new _ (valV_none' fun mm => ?_)]
              obtain ⟨y, hy, e⟩ := List.mem_map.mp mm
              obtain ⟨u, hu2, rfl⟩ := List.mem_map.mp hy
              rw [inl_inj e] at hu2
              exact nd_takeN (KP.srt_nodup hplnd) hm hu2
            · rw [List.length_map, List.length_map, List.take_length] at h8
              have s78 : Same H7 H8 := (Same.upd hq2).trans s8
              have hDDH : H DD = none := by
                cases e : H DD with
                | none => rfl
                | some o =>
                  exfalso
                  by_cases hm : DD ∈ ls
                  · obtain ⟨i0, hi0⟩ := List.getElem?_of_mem hm
                    have := Same.upd (o := .lst (((KP.srt (pl.map (·.1))).map fun (r : Nat) => (r : Int)).map V.int)) hq2 _ _ (lf7 i0 DD hi0)
                    rw [hDD] at this; cases this
                  · have := Same.upd (o := .lst (((KP.srt (pl.map (·.1))).map fun (r : Nat) => (r : Int)).map V.int)) hq2 _ _ (sb7 _ _ e hm)
                    rw [hDD] at this; cases this
              exact k _ DD (sb7.trans (SameBut.of s78)) (hips.same s78) hDDH h8
end
end KW
end
section
set_option Elab.async false
set_option linter.all false
set_option maxRecDepth 100000
set_option maxHeartbeats 8000000
set_option pp.maxSteps 600
/-! check_count, Keeper: __init__, lots, note, places, more. -/
namespace KW
open PySem PySem.Spec PyProof.Rows L2
section
variable {P : Program} {w : World} {K : PySem.W.Frag} {mg : Str → Option Value} {base : Heap}
theorem scCheck : FnScope ["count"] ["count"] (defScope s_check_count) := ⟨rfl, rfl, rfl, by decide +kernel, rfl, by decide +kernel, by decide +kernel⟩
def spCheck : Sp := fun vs H Q _ => ∃ c : Nat, vs = [.int (c : Int)] ∧ c ≤ 60 ∧ Q .non H
theorem c_check (T : Txt2 P K mg) : C8.Cal P w K mg base 4 "check_count" spCheck [] := by
  obtain ⟨fd, F⟩ := T.fn_check_count
  refine mkCal F T.g_check_count (fun _ _ _ _ _ _ us hl => match us, hl with | [_], _ => rfl) scCheck (fun vs H Q E h => ?_) fun cdv A outer s H vs Q E hr h => ?_
  · obtain ⟨c, rfl, _⟩ := h
    rfl
  · obtain ⟨c, rfl, hc, k⟩ := h
    refine ⟨_, (pss_one (ps_if (pt_not (pt_val (C8.pe_c (c_is_count T.toTxt) hr (by decide) (by rfl) (pa_cons (pv 0) pa_nil)))) (pss_one (ps_never)) pss_nil)), ?_⟩
    refine ⟨_, rfl, _, rfl, .inr (.inr (.inl ⟨_, rfl⟩)), _, rfl, ite_f ?_ k⟩
    show (!decide ((0 : Int) ≤ c ∧ (c : Int) < 61)) = false
    rw [decide_eq_true (by omega)]; rfl
/-- a list of lots -/
def IsLL (H : Hp) (a : Addr) (lots : List (List Nat)) : Prop := ∃ ls, H a = some (.lst (rV ls)) ∧ IsLots H ls lots
theorem IsLL.same {H H' : Hp} {a : Addr} {lots : List (List Nat)} (s : Same H H') (h : IsLL H a lots) : IsLL H' a lots := let ⟨ls, x, y⟩ := h; ⟨ls, s _ _ x, y.same s⟩
def IsKeep (K : PySem.W.Frag) (H : Hp) (kp t : Addr) (at_ : Nat) (ms : List (List (List Nat))) : Prop := ∃ dx am mas, H kp = some (.ins (He.ga K "Keeper") dx [("own_table", .ref t), ("moments", .ref am), ("at", .int (at_ : Int))]) ∧ H am = some (.lst (rV mas)) ∧ Paired (IsLL H) mas ms
theorem IsKeep.same {H H' : Hp} {kp t : Addr} {at_ : Nat} {ms : List (List (List Nat))} (s : Same H H') (h : IsKeep K H kp t at_ ms) : IsKeep K H' kp t at_ ms :=
  let ⟨dx, am, mas, a, b, c⟩ := h; ⟨dx, am, mas, s _ _ a, s _ _ b, paired_mono (fun _ _ q => q.same s) c⟩
theorem LL_but {H H' : Hp} {p a : Addr} {o : HO} {lots : List (List Nat)} (hp : H p = some o) (ho : ∀ z, o ≠ .lst z) (s : SameBut [p] H H') (h : IsLL H a lots) : IsLL H' a lots := by
  obtain ⟨ls, x, y⟩ := h
  have ne : ∀ q z, H q = some (.lst z) → q ≠ p := fun q z e w => by rw [w, hp] at e; exact ho _ (Option.some.inj e)
  exact ⟨ls, s _ _ x (by simpa using ne _ _ x), paired_mono (fun l lot e => s _ _ e (by simpa using ne _ _ e)) y⟩
/-- what has come to a heap -/
def newH (H H' : Hp) : Hp := fun b => if H b = none then H' b else none
theorem new_same {H H' : Hp} : Same (newH H H') H' := fun b o e => by
  unfold newH at e
  split at e
  · exact e
  · cases e
theorem new_mono {H G G' : Hp} (s : Same G G') : Same (newH H G) (newH H G') := fun b o e => by
  unfold newH at e ⊢
  split at e
  · rename_i h; rw [if_pos h]; exact s _ _ e
  · cases e
theorem new_at {H H' : Hp} {p : Addr} {o : HO} (h : H p = none) (e : H' p = some o) : newH H H' p = some o := by unfold newH; rw [if_pos h]; exact e
theorem new_upd {H H' : Hp} {p : Addr} {o : HO} (h : H p = none) : newH H (L2.upd H' p o) = L2.upd (newH H H') p o := funext fun b => by
  unfold newH
  by_cases hb : b = p
  · rw [hb, if_pos h, upd_same, upd_same]
  · rw [upd_ne hb, upd_ne hb]
theorem new_ne {H H' : Hp} {p : Addr} {o : HO} (e : newH H H' p = some o) : H p = none := by
  unfold newH at e
  split at e
  · assumption
  · cases e
/-- what has come since an earlier time, all the more -/
theorem new_later {H G G' : Hp} (s : Same H G) : Same (newH G G') (newH H G') := fun b o e => by
  have h1 := new_ne e
  have h2 : H b = none := by
    cases q : H b with
    | none => rfl
    | some u => rw [s _ _ q] at h1; cases h1
  exact new_at h2 (new_same _ _ e)
theorem but_new {H G G' : Hp} {D : Addr} (hD : G D = none) (s : Same G G') : Same (newH H G) (but D (newH H G')) := fun b o e => but_at (new_mono s _ _ e) (ne_of_none (new_same _ _ e) hD)
theorem new_but {H H' : Hp} {D : Addr} (h : H D ≠ none) : Same (newH H H') (but D H') := fun b u e => but_at (new_same _ _ e) fun z => by have := new_ne e; rw [z] at this; exact h this
theorem SameBut.but_ {as : List Addr} {z : Addr} {H H' : Hp} (s : SameBut as H H') : SameBut as (but z H) (but z H') := fun b o e hb => by
  unfold but at e ⊢
  split at e
  · cases e
  · rename_i h; rw [if_neg h]; exact s _ _ e hb
theorem but_upd_ne {a q : Addr} {H : Hp} {o : HO} (h : q ≠ a) : but a (L2.upd H q o) = L2.upd (but a H) q o := funext fun b => by
  unfold but
  by_cases hb : b = a
  · rw [if_pos hb, hb, upd_ne h.symm, if_pos rfl]
  · rw [if_neg hb]
    by_cases hq : b = q
    · rw [hq, upd_same, upd_same]
    · rw [upd_ne hq, upd_ne hq, if_neg hb]
theorem rV_inj : ∀ {a b : List Addr}, rV a = rV b → a = b
  | [], [], _ => rfl
  | [], _ :: _, h => by cases h
  | _ :: _, [], h => by cases h
  | x :: a, y :: b, h => by
    injection h with h1 h2
    injection h1 with h3
    rw [h3, rV_inj h2]
/-- the keeper's objects stand there behind a deed; what was none of them is none of them -/
def KeepTo (K : PySem.W.Frag) (H H' : Hp) (kp t : Addr) (at1 : Nat) (ms1 : List (List (List Nat))) (at2 : Nat) (ms2 : List (List (List Nat))) : Prop :=
  IsKeep K H' kp t at2 ms2 ∧ ∀ z, z ≠ kp → H z ≠ none → IsKeep K (but z H) kp t at1 ms1 → IsKeep K (but z H') kp t at2 ms2
theorem KeepTo.pre {H H1 H' : Hp} {kp t : Addr} {at1 at2 : Nat} {ms1 ms2 : List (List (List Nat))} (s : Same H H1) (h : KeepTo K H1 H' kp t at1 ms1 at2 ms2) : KeepTo K H H' kp t at1 ms1 at2 ms2 :=
  ⟨h.1, fun z hz hn hk => h.2 z hz (fun e => by
    cases q : H z with
    | none => exact hn q
    | some o => rw [s _ _ q] at e; cases e) (hk.same (but_mono s))⟩
theorem KeepTo.post {H H' H2 : Hp} {kp t : Addr} {at1 at2 : Nat} {ms1 ms2 : List (List (List Nat))} (s : Same H' H2) (h : KeepTo K H H' kp t at1 ms1 at2 ms2) : KeepTo K H H2 kp t at1 ms1 at2 ms2 :=
  ⟨h.1.same s, fun z hz hn hk => (h.2 z hz hn hk).same (but_mono s)⟩
theorem keep_inj {C dx dx' am am' t t' : Addr} {at1 at2 : Nat} (h : some (HO.ins C dx [("own_table", .ref t), ("moments", .ref am), ("at", .int (at1 : Int))]) = some (.ins C dx' [("own_table", .ref t'), ("moments", .ref am'), ("at", .int (at2 : Int))])) : dx = dx' ∧ am = am' := by
  simp only [Option.some.injEq, HO.ins.injEq, List.cons.injEq, Prod.mk.injEq, V.ref.injEq] at h
  exact ⟨h.2.1, h.2.2.2.1.2⟩
/-! ### Keeper.lots -/
abbrev nmLots : List Str := ["self", "lot"]
theorem scLots : FnScope nmLots ["self"] (defScope s_Keeper_lots) := ⟨rfl, rfl, rfl, by decide +kernel, rfl, by decide +kernel, by decide +kernel⟩
def spLots (K : PySem.W.Frag) : Sp := fun vs H Q _ => ∃ (kp t : Addr) (at_ : Nat) (ms : List (List (List Nat))), vs = [.ref kp] ∧ IsKeep K H kp t at_ ms ∧ at_ < ms.length ∧ (ms.getD at_ []).length ≤ 100 ∧
  ∀ H' q qs, NewLots H H' q qs (ms.getD at_ []) → Q (.ref q) H'
theorem m_lots (T : Txt2 P K mg) : C8.Met P w K mg base 1 (He.ga K "Keeper") "lots" (spLots K) [] := by
  obtain ⟨fd, F⟩ := T.fn_Keeper_lots
  refine mkMet F T.c_Keeper T.m_Keeper_lots (fun _ _ _ _ _ _ us hl => match us, hl with | [_], _ => rfl) scLots (fun vs H Q E h => ?_) fun cdv A outer s H vs Q E hr h => ?_
  · obtain ⟨kp, t, at_, ms, rfl, _⟩ := h
    rfl
  · obtain ⟨kp, t, at_, ms, rfl, ⟨dx, am, mas, hk, ham, hms⟩, hat, h100, k⟩ := h
    refine ⟨_, (pss_one (ps_ret (pe_lc (te := tCB (rListOf K) (tCons (tVar 1) tNil)) (own := [("lot", 1)]) (g := gName 1) (tt := tYes) rfl scLots.nd (pi_list (pe_ix ix_list (pe_fld (pv 0) rfl) (pe_fld (pv 0) rfl) (fun _ _ => rfl))) (blkOk_by (N := nmLots) (sc := defScope s_Keeper_lots) (by decide +kernel))
          (fun _ _ _ _ _ => pg_name (i := 1) scLots.nd rfl (Or.inl rfl)) (fun _ _ _ _ _ => pts_nil) (fun _ _ _ _ _ => pe_callTy call_list_of (by rfl) T.f_list (boot_T "list") (pa_cons (pv 1) pa_nil))))), ?_⟩
    obtain ⟨m, hm, ls, hml, hls⟩ := paired_at' hms (List.getElem?_eq_getElem hat)
    have egd : ms[at_] = ms.getD at_ [] := by rw [List.getD_eq_getElem?_getD, List.getElem?_eq_getElem hat]; rfl
    rw [egd] at hls
    generalize hlo : ms.getD at_ [] = lots at hls h100 k
    have hasl : ls.length = lots.length := paired_len hls
    refine ⟨_, rfl, kp, _, _, _, _, rfl, hk, T.c_Keeper, T.n_Keeper_moments, rfl, _, rfl, kp, _, _, _, _, rfl, hk, T.c_Keeper, T.n_Keeper_at, rfl, am, _, _, .ref m, rfl, rfl, SqL.of ham, atN (by rw [List.getElem?_map, hm]; rfl), m, rfl, ⟨_, SqL.of hml⟩, fun D hD => ?_⟩
    refine lc_ex (jo_list (SqL.of hml)) (Same.refl _) (Same.refl _) hD (fun i xs G => ∃ qs, xs = rV qs ∧ IsLots G qs (lots.take i) ∧ (∀ l, l ∈ qs → H l = none) ∧ qs.Nodup)
      (fun i xs G G' sG ⟨ls, e1, e2, e3⟩ => ⟨ls, e1, e2.same sG, e3⟩) ⟨[], rfl, .nil, fun l h => absurd h List.not_mem_nil, List.nodup_nil⟩
      (fun i xs G hi ⟨ls, e1, e2, _⟩ => by rw [e1, List.length_map, paired_len e2, List.length_take]; omega) (fun i v xs H3 Nx Sk hi s3 hv hD3 hpv kN _ => ?_) fun H3 xs s3 d3 hpv => ?_
    · obtain ⟨l, hl, rfl⟩ := at_map hv
      obtain ⟨lot, hlot, hll⟩ := paired_at hls hl
      obtain ⟨qs, rfl, hl1, hl2, hl4⟩ := hpv
      refine ⟨rfl, _, rfl, l, _, rfl, .inl (SqL.of (s3 _ _ hll)), fun q hq => ?_⟩
      have hqD : q ≠ D := fun z => by rw [z, hD3] at hq; cases hq
      obtain ⟨c1, c2, c3⟩ := lots_snoc (D := D) (lot := lot) (but_mono (Same.upd (o := .lst (nV lot)) hq)) hl1 hl2 hl4 hq hqD s3 upd_same
      exact kN _ _ (Same.upd hq) ⟨qs ++ [q], by rw [rV_snoc], by rw [take_more hlot]; exact c1, c2, c3⟩
    · obtain ⟨qs, rfl, hl1, hl2, hl4⟩ := hpv
      rw [List.length_map, hasl, List.take_length] at hl1
      exact k _ _ _ ⟨s3, d3, hl1.same but_same, hD, hl2, hl4⟩
/-! ### Keeper.__init__ -/
abbrev nmKInit : List Str := ["self", "table", "count", "number"]
theorem scKInit : FnScope nmKInit ["self", "table", "count"] (defScope s_Keeper_DinitD) := ⟨rfl, rfl, rfl, by decide +kernel, rfl, by decide +kernel, by decide +kernel⟩
def spKInit (K : PySem.W.Frag) : Sp := fun vs H Q _ => ∃ (kp dx t : Addr) (c : Nat), vs = [.ref kp, .ref t, .int (c : Int)] ∧ H kp = some (.ins (He.ga K "Keeper") dx []) ∧ c ≤ 60 ∧
  ∀ H', SameBut [kp] H H' → IsKeep K H' kp t 0 [List.replicate c []] → (∀ z, z ≠ kp → H z ≠ none → IsKeep K (but z H') kp t 0 [List.replicate c []]) → Q .non H'
theorem mk_Keeper (T : Txt2 P K mg) : C8.Mak P w K mg base 5 "Keeper" (He.ga K "Keeper") (spKInit K) [] := by
  obtain ⟨fd, F⟩ := T.fn_Keeper_DinitD
  refine mkMak F T.mk_Keeper T.g_Keeper (fun _ _ _ _ _ _ us hl => match us, hl with | [_, _, _], _ => rfl) scKInit (fun vs H Q E h => ?_) fun cdv A outer s H vs Q E hr h => ?_
  · obtain ⟨kp, dx, t, c, rfl, _⟩ := h
    rfl
  · obtain ⟨kp, dx, t, c, rfl, hk, hc, k⟩ := h
    refine ⟨_, (pss_cons (ps_expr (C8.pe_c (c_check T) hr (by decide) (by rfl) (pa_cons (pv 2) pa_nil))) (pss_cons (ps_fld (pv 0) (pv 1) rfl) (pss_cons (ps_fld (pv 0) (pe_lst (pa_cons (pe_lc (own := [("number", 3)]) (g := gName 3) (tt := tYes) rfl scKInit.nd (pi_range1 (by rfl) T.f_range (pa_cons (pv 2) pa_nil)) (blkOk_by (N := nmKInit) (sc := defScope s_Keeper_DinitD) (by decide +kernel))
          (fun _ _ _ _ _ => pg_name (i := 3) scKInit.nd rfl (Or.inl rfl)) (fun _ _ _ _ _ => pts_nil) (fun _ _ _ _ _ => pe_lst pa_nil)) pa_nil)) rfl) (pss_one (ps_fld (pv 0) pe_int rfl))))), ?_⟩
    refine ⟨_, rfl, c, rfl, hc, _, rfl, _, rfl, kp, _, _, _, rfl, hk, T.c_Keeper, T.n_Keeper_own_table, by show 0 < 1000; omega, ?_⟩
    generalize hH1 : upd H kp _ = H1
    have sb1 : SameBut [kp] H H1 := by rw [← hH1]; exact (SameBut.of (Same.refl H)).upd (.inl List.mem_cons_self)
    have hk1 : H1 kp = some (.ins (He.ga K "Keeper") dx [("own_table", .ref t)]) := by rw [← hH1]; exact upd_same
    refine ⟨_, rfl, _, rfl, by omega, by omega, fun D hD => ?_⟩
    have hcn : (c : Int).toNat = c := by simp
    rw [hcn]
    refine lc_ex (H0 := fun _ => none) (jo_range 0 c) (fun _ _ e => by cases e) (Same.refl _) hD (fun i xs G => ∃ qs, xs = rV qs ∧ IsLots (newH H1 G) qs (List.replicate i []))
      (fun i xs G G' sG ⟨ls, e1, e2⟩ => ⟨ls, e1, e2.same (new_mono sG)⟩) ⟨[], rfl, .nil⟩
      (fun i xs G hi ⟨ls, e1, e2⟩ => by rw [e1, List.length_map, paired_len e2, List.length_replicate]; omega) (fun i v xs H3 Nx Sk hi s3 hv hD3 hpv kN _ => ?_) fun H3 xs s3 d3 hpv => ?_
    · obtain ⟨qs, rfl, hl1⟩ := hpv
      refine ⟨rfl, Nat.zero_le _, fun q hq => ?_⟩
      have hqD : q ≠ D := fun z => by rw [z, hD3] at hq; cases hq
      refine kN _ _ (Same.upd hq) ⟨qs ++ [q], by rw [rV_snoc], ?_⟩
      rw [List.replicate_succ']
      exact Paired.snoc (hl1.same (new_mono (but_mono (Same.upd hq)))) (new_at (s3.free hq) (but_at upd_same hqD))
    · obtain ⟨qs, rfl, hlN⟩ := hpv
      have hl1 := hlN.same (new_same (H := H1) (H' := but D H3))
      refine ⟨sz (by simp), fun am ham => ?_⟩
      have hk3 := s3 _ _ hk1
      have hamk : am ≠ kp := (ne_of_none hk3 ham).symm
      refine ⟨_, rfl, kp, _, _, _, rfl, by rw [upd_ne hamk.symm]; exact hk3, T.c_Keeper, T.n_Keeper_moments, by show 1 < 1000; omega, ?_⟩
      refine ⟨_, rfl, kp, _, _, _, rfl, upd_same, T.c_Keeper, T.n_Keeper_at, by show 2 < 1000; omega, ?_⟩
      have hDk : D ≠ kp := (ne_of_none hk1 hD).symm
      have hz1 : ∀ z, z ≠ kp → H z ≠ none → H1 z ≠ none := fun z hzk hzn e => by
        cases q : H z with
        | none => exact hzn q
        | some o => rw [sb1 _ _ q (by simpa using hzk)] at e; cases e
      have ham0 : H am = none := by
        have h1 : H1 am = none := s3.free ham
        cases e : H am with
        | none => rfl
        | some o => rw [sb1 _ _ e (by simpa using hamk)] at h1; cases h1
      refine k _ ((((sb1.trans (SameBut.of s3)).upd (.inr ham0)).upd (.inl List.mem_cons_self)).upd (.inl List.mem_cons_self)) ⟨dx, am, [D], upd_same, ?_, .cons ⟨qs, ?_, ?_⟩ .nil⟩ fun z hzk hzn => ⟨dx, am, [D], but_at upd_same hzk.symm, but_at (by rw [upd_ne hamk, upd_ne hamk]; exact upd_same) (fun w => by rw [w] at ham0; exact hzn ham0), .cons ⟨qs, but_at (by rw [upd_ne hDk, upd_ne hDk]; exact Same.upd ham _ _ d3) (fun w => hz1 z hzk hzn (by rw [← w]; exact hD)), ?_⟩ .nil⟩
      · rw [upd_ne hamk, upd_ne hamk]; exact upd_same
      · rw [upd_ne hDk, upd_ne hDk]; exact Same.upd ham _ _ d3
      · refine paired_of (paired_len hl1) fun i l lot h1 h2 => ?_
        obtain ⟨lot', h2', e⟩ := paired_at hl1 h1
        rw [h2] at h2'; cases h2'
        have e3 := but_same _ _ e
        have hlk : l ≠ kp := fun z => by rw [z, hk3] at e3; cases e3
        rw [upd_ne hlk, upd_ne hlk]
        exact Same.upd ham _ _ e3
      · refine paired_of (paired_len hlN) fun i l lot h1 h2 => ?_
        obtain ⟨lot', h2', e⟩ := paired_at hlN h1
        rw [h2] at h2'; cases h2'
        have e3 := but_same _ _ (new_same _ _ e)
        have hlk : l ≠ kp := fun z => by rw [z, hk3] at e3; cases e3
        refine but_at ?_ fun w => hz1 z hzk hzn (by rw [← w]; exact new_ne e)
        rw [upd_ne hlk, upd_ne hlk]
        exact Same.upd ham _ _ e3
end
end KW
end
section
set_option Elab.async false
set_option linter.all false
set_option maxRecDepth 100000
set_option maxHeartbeats 8000000
set_option pp.maxSteps 600
/-! Keeper: note, places, more. -/
namespace KW
open PySem PySem.Spec PyProof.Rows L2
section
variable {P : Program} {w : World} {K : PySem.W.Frag} {mg : Str → Option Value} {base : Heap}
/-! ### note -/
abbrev nmNote : List Str := ["self", "lots", "lot"]
theorem scNote : FnScope nmNote ["self", "lots"] (defScope s_Keeper_note) := ⟨rfl, rfl, rfl, by decide +kernel, rfl, by decide +kernel, by decide +kernel⟩
def spNote (K : PySem.W.Frag) : Sp := fun vs H Q _ => ∃ (kp t a : Addr) (at_ : Nat) (ms : List (List (List Nat))) (lots : List (List Nat)), vs = [.ref kp, .ref a] ∧ IsKeep K H kp t at_ ms ∧ IsLL H a lots ∧ lots.length ≤ 100 ∧ (∀ lot, lot ∈ lots → lot.length < 64) ∧ ms.length ≤ 1000 ∧
  ∀ H', SameBut [kp] H H' → KeepTo K H H' kp t at_ ms (at_ + 1) (ms.take (at_ + 1) ++ [lots.map KP.srt]) → Q .non H'
theorem m_note (T : Txt2 P K mg) : C8.Met P w K mg base 1 (He.ga K "Keeper") "note" (spNote K) [] := by
  obtain ⟨fd, F⟩ := T.fn_Keeper_note
  refine mkMet F T.c_Keeper T.m_Keeper_note (fun _ _ _ _ _ _ us hl => match us, hl with | [_, _], _ => rfl) scNote (fun vs H Q E h => ?_) fun cdv A outer s H vs Q E hr h => ?_
  · obtain ⟨kp, t, a, at_, ms, lots, rfl, _⟩ := h
    rfl
  · obtain ⟨kp, t, a, at_, ms, lots, rfl, ⟨dx, am, mas, hk, ham, hms⟩, ⟨ls, ha, hls⟩, h100, h64, hm1000, k⟩ := h
    refine ⟨_, (pss_cons (ps_fld (pv 0) (pe_lst (StX.pa_star (pe_slice sl_list (pe_fld (pv 0) rfl) po_none (po_some (pe_op op_add (pe_fld (pv 0) rfl) pe_int))) (pa_cons (pe_lc (te := tCB (rSorted K) (tCons (tVar 2) tNil)) (own := [("lot", 2)]) (g := gName 2) (tt := tYes) rfl scNote.nd (pi_list (pv 1)) (blkOk_by (N := nmNote) (sc := defScope s_Keeper_note) (by decide +kernel))
          (fun _ _ _ _ _ => pg_name (i := 2) scNote.nd rfl (Or.inl rfl)) (fun _ _ _ _ _ => pts_nil) (fun _ _ _ _ _ => pe_callB cr_sorted (by rfl) T.f_sorted boot_sorted (pa_cons (pv 2) pa_nil))) pa_nil))) rfl) (pss_one (ps_fldaug (pv 0) pe_int in_add))), ?_⟩
    have hasl : ls.length = lots.length := paired_len hls
    have hmsl : mas.length = ms.length := paired_len hms
    refine ⟨_, rfl, kp, _, _, _, _, rfl, hk, T.c_Keeper, T.n_Keeper_moments, rfl, _, rfl, kp, _, _, _, _, rfl, hk, T.c_Keeper, T.n_Keeper_at, rfl, _, _, rfl, rfl, _, rfl, am, _, rfl, SqL.of ham, fun pm hpm => ?_⟩
    have ecut : cutV (rV mas) none (some ((at_ : Int) + 1)) = rV (mas.take (at_ + 1)) := by
      have := cut_take (rV mas) (at_ + 1)
      rw [← List.map_take] at this
      exact this
    rw [ecut]
    generalize hH1 : upd H pm (.lst (rV (mas.take (at_ + 1)))) = H1
    have s1 : Same H H1 := by rw [← hH1]; exact Same.upd hpm
    have hpm1 : H1 pm = some (.lst (rV (mas.take (at_ + 1)))) := by rw [← hH1]; exact upd_same
    refine ⟨pm, _, rfl, .inr (SqL.of hpm1), ?_⟩
    have ha1 := s1 _ _ ha
    have hls1 := hls.same s1
    refine ⟨_, rfl, a, rfl, ⟨_, SqL.of ha1⟩, fun D hD => ?_⟩
    refine lc_ex (jo_list (SqL.of ha1)) (Same.refl _) (Same.refl _) hD (fun i xs G => ∃ qs, xs = rV qs ∧ IsLots (newH H1 G) qs ((lots.take i).map KP.srt))
      (fun i xs G G' sG ⟨ls, e1, e2⟩ => ⟨ls, e1, e2.same (new_mono sG)⟩) ⟨[], rfl, .nil⟩
      (fun i xs G hi ⟨ls, e1, e2⟩ => by rw [e1, List.length_map, paired_len e2, List.length_map, List.length_take]; omega) (fun i v xs H3 Nx Sk hi s3 hv hD3 hpv kN _ => ?_) fun H3 xs s3 d3 hpv => ?_
    · obtain ⟨l, hl, rfl⟩ := at_map hv
      obtain ⟨lot, hlot, hll⟩ := paired_at hls1 hl
      obtain ⟨qs, rfl, hl1⟩ := hpv
      have hll3 := s3 _ _ hll
      rw [nV_iV] at hll3
      refine ⟨rfl, _, rfl, l, _, rfl, SqL.of hll3, by rw [List.length_map]; exact h64 lot (List.mem_of_getElem? hlot), fun ns q hperm hsrt hq => ?_⟩
      have hqD : q ≠ D := fun z => by rw [z, hD3] at hq; cases hq
      rw [nV_srt hperm hsrt]
      refine kN _ _ (Same.upd hq) ⟨qs ++ [q], by rw [rV_snoc], ?_⟩
      rw [take_map_more _ hlot]
      exact Paired.snoc (hl1.same (new_mono (but_mono (Same.upd hq)))) (new_at (s3.free hq) (but_at upd_same hqD))
    · obtain ⟨qs, rfl, hlN⟩ := hpv
      rw [List.length_map, hasl, List.take_length] at hlN
      have hl1 := hlN.same (new_same (H := H1) (H' := but D H3))
      have e0 : rV (mas.take (at_ + 1)) ++ [V.ref D] = rV (mas.take (at_ + 1) ++ [D]) := (rV_snoc _ _).symm
      refine ⟨sz ?_, fun am2 ham2 => ?_⟩
      · rw [e0, List.length_map, List.length_append, List.length_take]; simp; omega
      · rw [e0]
        have s13 := s1.trans s3
        have hk3 := s13 _ _ hk
        have hak : am2 ≠ kp := (ne_of_none hk3 ham2).symm
        refine ⟨_, rfl, kp, _, _, _, rfl, by rw [upd_ne hak.symm]; exact hk3, T.c_Keeper, T.n_Keeper_moments, by show 3 < 1000; omega, ?_⟩
        refine ⟨_, rfl, kp, _, _, _, _, rfl, upd_same, T.c_Keeper, T.n_Keeper_at, rfl, _, _, rfl, rfl, _, _, upd_same, by show 3 < 1000; omega, ?_⟩
        have ham0 : H am2 = none := s13.free ham2
        refine k _ ((((SameBut.of s13).upd (.inr ham0)).upd (.inl List.mem_cons_self)).upd (.inl List.mem_cons_self)) ⟨⟨dx, am2, mas.take (at_ + 1) ++ [D], upd_same, ?_, ?_⟩, fun z hzk hzn hkz => ?_⟩
        · rw [upd_ne hak, upd_ne hak]; exact upd_same
        rotate_left
        · obtain ⟨dx', am', mas', a1, a2, a3⟩ := hkz
          obtain ⟨rfl, rfl⟩ := keep_inj ((but_same _ _ a1).symm.trans hk)
          have emas : mas' = mas := rV_inj (HO.lst.inj (Option.some.inj ((but_same _ _ a2).symm.trans ham)))
          subst emas
          have hDH : H D = none := s1.free hD
          have hDz : D ≠ z := fun w => hzn (by rw [← w]; exact hDH)
          have haz : am2 ≠ z := fun w => hzn (by rw [← w]; exact ham0)
          have hz1 : H1 z ≠ none := fun e => by
            cases q : H z with
            | none => exact hzn q
            | some o => rw [s1 _ _ q] at e; cases e
          have SB0 : SameBut [kp] H (upd (upd (upd H3 am2 (.lst (rV (mas'.take (at_ + 1) ++ [D])))) kp (.ins (He.ga K "Keeper") dx' (putF "moments" (.ref am2) [("own_table", .ref t), ("moments", .ref am'), ("at", .int (at_ : Int))]))) kp (.ins (He.ga K "Keeper") dx' (putF "at" (.int ((at_ : Int) + 1)) (putF "moments" (.ref am2) [("own_table", .ref t), ("moments", .ref am'), ("at", .int (at_ : Int))])))) :=
            ((((SameBut.of s13).upd (.inr ham0)).upd (.inl List.mem_cons_self)).upd (.inl List.mem_cons_self))
          have SB3 : SameBut [kp] H3 (upd (upd (upd H3 am2 (.lst (rV (mas'.take (at_ + 1) ++ [D])))) kp (.ins (He.ga K "Keeper") dx' (putF "moments" (.ref am2) [("own_table", .ref t), ("moments", .ref am'), ("at", .int (at_ : Int))]))) kp (.ins (He.ga K "Keeper") dx' (putF "at" (.int ((at_ : Int) + 1)) (putF "moments" (.ref am2) [("own_table", .ref t), ("moments", .ref am'), ("at", .int (at_ : Int))])))) :=
            ((((SameBut.of (Same.refl H3)).upd (.inr ham2)).upd (.inl List.mem_cons_self)).upd (.inl List.mem_cons_self))
          refine ⟨dx', am2, mas'.take (at_ + 1) ++ [D], but_at upd_same hzk.symm, but_at (by rw [upd_ne hak, upd_ne hak]; exact upd_same) haz, Paired.snoc ?_ ?_⟩
          · refine paired_of (by rw [List.length_take, List.length_take, hmsl]) fun i m lots' h1 h2 => ?_
            have hi : i < at_ + 1 := by
              have := (List.getElem?_eq_some_iff.mp h1).1
              rw [List.length_take] at this; omega
            rw [List.getElem?_take_of_lt hi] at h1 h2
            obtain ⟨lots2, h3, q⟩ := paired_at a3 h1
            rw [h2] at h3; cases h3
            exact LL_but (but_at hk hzk.symm) (fun _ => by simp) SB0.but_ q
          · have hl3 : IsLots (but z H3) qs (lots.map KP.srt) := hlN.same ((new_mono but_same).trans (new_but hz1))
            exact LL_but (but_at hk3 hzk.symm) (fun _ => by simp) SB3.but_ ⟨qs, but_at d3 hDz, hl3⟩
        · have SB : SameBut [kp] H3 (upd (upd (upd H3 am2 (.lst (rV (mas.take (at_ + 1) ++ [D])))) kp (.ins (He.ga K "Keeper") dx (putF "moments" (.ref am2) [("own_table", .ref t), ("moments", .ref am), ("at", .int (at_ : Int))]))) kp (.ins (He.ga K "Keeper") dx (putF "at" (.int ((at_ : Int) + 1)) (putF "moments" (.ref am2) [("own_table", .ref t), ("moments", .ref am), ("at", .int (at_ : Int))])))) :=
            ((((SameBut.of (Same.refl H3)).upd (.inr ham2)).upd (.inl List.mem_cons_self)).upd (.inl List.mem_cons_self))
          refine Paired.snoc ?_ ?_
          · refine paired_of (by rw [List.length_take, List.length_take, hmsl]) fun i m lots' h1 h2 => ?_
            have hi : i < at_ + 1 := by
              have := (List.getElem?_eq_some_iff.mp h1).1
              rw [List.length_take] at this; omega
            rw [List.getElem?_take_of_lt hi] at h1 h2
            obtain ⟨lots2, h3, q⟩ := paired_at hms h1
            rw [h2] at h3; cases h3
            exact LL_but hk3 (fun _ => by simp) SB (q.same s13)
          · exact LL_but hk3 (fun _ => by simp) SB ⟨qs, d3, hl1.same but_same⟩
/-! ### places -/
abbrev nmPlaces : List Str := ["self", "lots"]
theorem scPlaces : FnScope nmPlaces ["self", "lots"] (defScope s_Keeper_places) := ⟨rfl, rfl, rfl, by decide +kernel, rfl, by decide +kernel, by decide +kernel⟩
def spPlaces (K : PySem.W.Frag) : Sp := fun vs H Q _ => ∃ (kp t a : Addr) (at_ : Nat) (ms : List (List (List Nat))) (lots : List (List Nat)) (f : Int) (wd n : Nat) (T : List (List Int)), vs = [.ref kp, .ref a] ∧ IsKeep K H kp t at_ ms ∧ IsRows K H t f wd T ∧ T.length = n ∧ n ≤ 100 ∧ IsLL H a lots ∧ lots.length ≤ 100 ∧
  ∀ H' p at2 az ak ls, Same H H' → IsPl K H' p at2 az ak t n ls lots → H p = none → (∀ l, l ∈ ls → H l = none) → Q (.ref p) H'
theorem m_places (T : Txt2 P K mg) : C8.Met P w K mg base 3 (He.ga K "Keeper") "places" (spPlaces K) [] := by
  obtain ⟨fd, F⟩ := T.fn_Keeper_places
  refine mkMet F T.c_Keeper T.m_Keeper_places (fun _ _ _ _ _ _ us hl => match us, hl with | [_, _], _ => rfl) scPlaces (fun vs H Q E h => ?_) fun cdv A outer s H vs Q E hr h => ?_
  · obtain ⟨kp, t, a, at_, ms, lots, f, wd, n, T', rfl, _⟩ := h
    rfl
  · obtain ⟨kp, t, a, at_, ms, lots, f, wd, n, T', rfl, ⟨dx, am, mas, hk, ham, hms⟩, hrows, hTn, hn100, ⟨ls, ha, hls⟩, h100, k⟩ := h
    refine ⟨_, (pss_one (ps_ret (C8.pe_mk (mk_Places T) hr (by decide) (by rfl) (pa_cons (pe_op op_rep (pe_lst (pa_cons (pe_fld (pv 0) rfl) pa_nil)) (pe_callB call_len_seq (by rfl) T.f_len boot_len (pa_cons (pv 1) pa_nil))) (pa_cons (pe_op op_rep (pe_lst (pa_cons (pe_callB (call_lenO (m_len T) hr (by decide)) (by rfl) T.f_len boot_len (pa_cons (pe_fld (pv 0) rfl) pa_nil)) pa_nil)) (pe_callB call_len_seq (by rfl) T.f_len boot_len (pa_cons (pv 1) pa_nil))) (pa_cons (pv 1) pa_nil)))))), ?_⟩
    have hasl : ls.length = lots.length := paired_len hls
    obtain ⟨dxt, r, rs, ht, hrr, hpr⟩ := id hrows
    refine ⟨_, rfl, kp, _, _, _, _, rfl, hk, T.c_Keeper, T.n_Keeper_own_table, rfl, sz (by simp), fun p1 hp1 => ?_⟩
    have s1 : Same H (upd H p1 (.lst [.ref t])) := Same.upd hp1
    have e1 : (upd H p1 (.lst [.ref t])) p1 = some (.lst [.ref t]) := upd_same
    generalize hH1 : upd H p1 (.lst [.ref t]) = H1 at s1 e1
    refine ⟨_, rfl, a, _, rfl, .inl (SqL.of (s1 _ _ ha)), p1, _, _, rfl, rfl, e1, by omega, by rw [List.length_map]; omega, ?_, fun p2 hp2 => ?_⟩
    · rw [List.length_map, hasl]; exact sz (by simp; omega)
    have er : (List.replicate (((rV ls).length : Nat) : Int).toNat [V.ref t]).flatten = List.replicate lots.length (.ref t) := by
      rw [List.flatten_replicate_singleton, List.length_map, hasl]; simp
    rw [er] at *
    have s2 := Same.upd (o := .lst (List.replicate lots.length (.ref t))) hp2
    have e2 : (upd H1 p2 (.lst (List.replicate lots.length (.ref t)))) p2 = some (.lst (List.replicate lots.length (.ref t))) := upd_same
    generalize hH2 : upd H1 p2 (.lst (List.replicate lots.length (.ref t))) = H2 at s2 e2
    have s02 := s1.trans s2
    refine ⟨_, rfl, kp, _, _, _, _, rfl, s02 _ _ hk, T.c_Keeper, T.n_Keeper_own_table, rfl, t, _, _, rfl, s02 _ _ ht, t, f, wd, T', rfl, hrows.same s02, _, rfl, ⟨by omega, by omega⟩, sz (by simp), fun p3 hp3 => ?_⟩
    rw [hTn] at *
    have s3 := Same.upd (o := .lst [.int (n : Int)]) hp3
    have e3 : (upd H2 p3 (.lst [.int (n : Int)])) p3 = some (.lst [.int (n : Int)]) := upd_same
    generalize hH3 : upd H2 p3 (.lst [.int (n : Int)]) = H3 at s3 e3
    have s03 := s02.trans s3
    refine ⟨_, rfl, a, _, rfl, .inl (SqL.of (s03 _ _ ha)), p3, _, _, rfl, rfl, e3, by omega, by rw [List.length_map]; omega, ?_, fun p4 hp4 => ?_⟩
    · rw [List.length_map, hasl]; exact sz (by simp; omega)
    have er2 : (List.replicate (((rV ls).length : Nat) : Int).toNat [V.int (n : Int)]).flatten = List.replicate lots.length (.int (n : Int)) := by
      rw [List.flatten_replicate_singleton, List.length_map, hasl]; simp
    rw [er2] at *
    have s4 := Same.upd (o := .lst (List.replicate lots.length (.int (n : Int)))) hp4
    have e4 : (upd H3 p4 (.lst (List.replicate lots.length (.int (n : Int))))) p4 = some (.lst (List.replicate lots.length (.int (n : Int)))) := upd_same
    generalize hH4 : upd H3 p4 (.lst (List.replicate lots.length (.int (n : Int)))) = H4 at s4 e4
    have s04 := s03.trans s4
    refine ⟨_, rfl, fun p dx hp hdx hne => ?_⟩
    have sG : Same H4 (upd (upd H4 dx (.own p)) p (.ins (He.ga K "Places") dx [])) := (Same.upd hdx).trans (Same.upd (by rw [upd_ne hne.symm]; exact hp))
    refine ⟨p, dx, p2, p4, a, t, n, ls, lots, rfl, upd_same, sG _ _ (s4 _ _ (s3 _ _ e2)), sG _ _ e4, sG _ _ (s04 _ _ ha), hls.same (s04.trans sG), h100, fun H' ak qs sb hpl hak hqs _ => ⟨rfl, ?_⟩⟩
    exact k H' p p2 p4 ak qs (s04.trans (same_made hp hdx sb)) hpl (s04.free hp) fun l hl => (s04.trans sG).free (hqs l hl)
/-! ### more -/
abbrev nmMore : List Str := ["self", "lots"]
theorem scMore : FnScope nmMore ["self"] (defScope s_Keeper_more) := ⟨rfl, rfl, rfl, by decide +kernel, rfl, by decide +kernel, by decide +kernel⟩
def spMore (K : PySem.W.Frag) : Sp := fun vs H Q _ => ∃ (kp t : Addr) (at_ : Nat) (ms : List (List (List Nat))), vs = [.ref kp] ∧ IsKeep K H kp t at_ ms ∧ at_ < ms.length ∧ (ms.getD at_ []).length ≤ 50 ∧ (∀ lot, lot ∈ ms.getD at_ [] → lot.length < 64) ∧ ms.length ≤ 1000 ∧
  ∀ H', SameBut [kp] H H' → KeepTo K H H' kp t at_ ms (at_ + 1) (ms.take (at_ + 1) ++ [(ms.getD at_ [] ++ [[]]).map KP.srt]) → Q (.int (ms.getD at_ []).length) H'
theorem m_more (T : Txt2 P K mg) : C8.Met P w K mg base 2 (He.ga K "Keeper") "more" (spMore K) [] := by
  obtain ⟨fd, F⟩ := T.fn_Keeper_more
  obtain ⟨tk, hm60⟩ := T.i_MOST_LOTS
  refine mkMet F T.c_Keeper T.m_Keeper_more (fun _ _ _ _ _ _ us hl => match us, hl with | [_], _ => rfl) scMore (fun vs H Q E h => ?_) fun cdv A outer s H vs Q E hr h => ?_
  · obtain ⟨kp, t, at_, ms, rfl, _⟩ := h
    rfl
  · obtain ⟨kp, t, at_, ms, rfl, hkeep, hat, h50, h64, hm1000, k⟩ := h
    refine ⟨_, (pss_cons (ps_set (i := 1) scMore.nd rfl (Or.inl rfl) (C8.pe_mt0 (m_lots T) hr (by decide) (pv 0))) (pss_cons (ps_if (pt_cmpR op_eq (pe_callB call_len_seq (by rfl) T.f_len boot_len (pa_cons (pv 1) pa_nil)) (pe_glob (v := .int 60) (by rfl) hm60 ⟨_, rfl⟩) (nomark _)) (pss_one (ps_never)) pss_nil) (pss_cons (ps_expr (C8.pe_mt (m_note T) hr (by decide) (pv 0) (pa_cons (pe_lst (StX.pa_star (pv 1) (pa_cons (pe_lst pa_nil) pa_nil))) pa_nil))) (pss_one (ps_ret (pe_callB call_len_seq (by rfl) T.f_len boot_len (pa_cons (pv 1) pa_nil))))))), ?_⟩
    obtain ⟨dx, am, mas, hk, ham, hms⟩ := id hkeep
    generalize hlo : ms.getD at_ [] = lots at h50 h64 k
    refine ⟨_, rfl, kp, _, _, rfl, hk, rfl, kp, t, at_, ms, rfl, hkeep, hat, by rw [hlo]; omega, fun H1 q qs nl => ?_⟩
    rw [hlo] at nl
    have hql : qs.length = lots.length := paired_len nl.lots
    refine ⟨_, rfl, q, _, rfl, .inl (SqL.of nl.at_), rfl, _, rfl, ite_f (decide_eq_false fun z => ?_) ?_⟩
    · have := V.int.inj z
      rw [List.length_map] at this; omega
    · refine ⟨_, rfl, kp, _, _, rfl, nl.sm _ _ hk, rfl, _, rfl, q, _, rfl, .inr (SqL.of nl.at_), Nat.zero_le _, fun e he => ?_⟩
      have e0 : rV qs ++ [V.ref e] = rV (qs ++ [e]) := (rV_snoc _ _).symm
      refine ⟨sz ?_, fun p hp => ?_⟩
      · rw [e0, List.length_map, List.length_append, hql]; simp; omega
      · rw [e0] at *
        have s2 : Same H1 (upd (upd H1 e (.lst [])) p (.lst (rV (qs ++ [e])))) := (Same.upd he).upd' hp
        have hll : IsLL (upd (upd H1 e (.lst [])) p (.lst (rV (qs ++ [e])))) p (lots ++ [[]]) := ⟨qs ++ [e], upd_same, Paired.snoc (nl.lots.same s2) (Same.upd hp _ _ upd_same)⟩
        refine ⟨kp, t, p, at_, ms, lots ++ [[]], rfl, hkeep.same (nl.sm.trans s2), hll, by rw [List.length_append]; simp; omega, fun lot hl => ?_, hm1000, fun H2 sb hk2 => ?_⟩
        · rcases List.mem_append.mp hl with hl | hl
          · exact h64 lot hl
          · rw [List.mem_singleton.mp hl]; simp
        · have hqk : q ≠ kp := fun z => by have := nl.new; rw [z, hk] at this; cases this
          refine ⟨_, rfl, q, _, rfl, .inl (SqL.of (sb _ _ (s2 _ _ nl.at_) (by simpa using hqk))), ?_⟩
          rw [List.length_map, hql]
          exact k H2 ((SameBut.of (nl.sm.trans s2)).trans sb) (hk2.pre (nl.sm.trans s2))
end
end KW
end
section
set_option Elab.async false
set_option linter.all false
set_option maxRecDepth 100000
set_option maxHeartbeats 8000000
set_option pp.maxSteps 600
/-! Methods that may raise: undo, again, go. -/
namespace KW
open PySem PySem.Spec PyProof.Rows L2
structure MetX (P : Program) (w : World) (K : PySem.W.Frag) (mg : Str → Option Value) (base : Heap) (k : Nat) (C : Addr) (m : Str) (sp : Sp) : Prop where
  ex : ∃ (f : Addr) (fd : FuncData) (ps : List Str), Cls K C ∧ Meth K C m f ∧ FnOk P w K mg base (L2.CX P w) k f fd ps sp ∧ Binds K fd ps []
section
variable {P : Program} {w : World} {K : PySem.W.Frag} {mg : Str → Option Value} {base : Heap}
theorem mkMetX {C m qual : Str} {st : Stmt} {fd : FuncData} {N ps : List Str} {k : Nat} {sp : Sp} (F : FunD K m qual (defArgs st) (defBody st) (defScope st) [] [] (He.fAd K (C, some m)) fd) (c : Cls K (He.ga K C)) (me : Meth K (He.ga K C) m (He.ma K (He.ga K C) m))
    (hb : ∀ (kV doc pm : Value) (an : Option Addr) (cdv ct : Value) (us : List Value), us.length = ps.length → bindArgs (PySem.W.fnOf m qual (defArgs st) (defBody st) (defScope st) .none kV doc pm an cdv ct) ⟨us, []⟩ = pure (ps.zip us))
    (S : FnScope N ps (defScope st)) (len : ∀ vs H Q E, sp vs H Q E → vs.length = ps.length)
    (hbody : ∀ (cdv : Value) (A : Around) (outer : List Env) (s : Shared) (H : Hp) (vs : List V) (Q : VK) (E : XK), Room k (A.deeper (envOfC qual (defScope st) s.heap.objs.size (He.fAd K (C, some m)) cdv)) → sp vs H Q E →
      ∃ t, PSs (cxOf (L2.CX P w) P w K mg base N qual (defScope st) (He.fAd K (C, some m)) cdv A outer s H E) (defBody st) t ∧ t { nx := fun _ H' => Q .non H', rt := Q } (start N vs) H) : MetX P w K mg base (k + 1) (He.ga K C) m sp :=
  ⟨He.fAd K (C, some m), fd, ps, c, me, F.ok (CX := L2.CX P w) S len hbody, F.bindsN hb⟩
theorem scUndo : FnScope ["self"] ["self"] (defScope s_Keeper_undo) := ⟨rfl, rfl, rfl, by decide +kernel, rfl, by decide +kernel, by decide +kernel⟩
def spUndo (K : PySem.W.Frag) : Sp := fun vs H Q E => ∃ (kp t : Addr) (at_ : Nat) (ms : List (List (List Nat))), vs = [.ref kp] ∧ IsKeep K H kp t at_ ms ∧
  ((at_ = 0 ∧ E (.ref (He.ga K "NoDeed")) none H) ∨ (0 < at_ ∧ ∀ H', SameBut [kp] H H' → KeepTo K H H' kp t at_ ms (at_ - 1) ms → Q .non H'))
/-- the keeper's place in its moments is another one -/
theorem IsKeep.move {H : Hp} {kp t : Addr} {at_ at2 : Nat} {ms : List (List (List Nat))} {dx am : Addr} {mas : List Addr} (hk : H kp = some (.ins (He.ga K "Keeper") dx [("own_table", .ref t), ("moments", .ref am), ("at", .int (at_ : Int))])) (ham : H am = some (.lst (rV mas))) (hms : Paired (IsLL H) mas ms) :
    IsKeep K (upd H kp (.ins (He.ga K "Keeper") dx [("own_table", .ref t), ("moments", .ref am), ("at", .int (at2 : Int))])) kp t at2 ms := by
  have SB : SameBut [kp] H (upd H kp (.ins (He.ga K "Keeper") dx [("own_table", .ref t), ("moments", .ref am), ("at", .int (at2 : Int))])) := (SameBut.of (Same.refl H)).upd (.inl List.mem_cons_self)
  have hak : am ≠ kp := fun z => by rw [z, hk] at ham; cases ham
  exact ⟨dx, am, mas, upd_same, by rw [upd_ne hak]; exact ham, paired_mono (fun _ _ q => LL_but hk (fun _ => by simp) SB q) hms⟩
theorem IsKeep.moveTo {H : Hp} {kp t : Addr} {at_ at2 : Nat} {ms : List (List (List Nat))} {dx am : Addr} {mas : List Addr} (hk : H kp = some (.ins (He.ga K "Keeper") dx [("own_table", .ref t), ("moments", .ref am), ("at", .int (at_ : Int))])) (ham : H am = some (.lst (rV mas))) (hms : Paired (IsLL H) mas ms) :
    KeepTo K H (upd H kp (.ins (He.ga K "Keeper") dx [("own_table", .ref t), ("moments", .ref am), ("at", .int (at2 : Int))])) kp t at_ ms at2 ms := by
  refine ⟨IsKeep.move hk ham hms, fun z hzk hzn hkz => ?_⟩
  obtain ⟨dx', am', mas', a1, a2, a3⟩ := hkz
  obtain ⟨rfl, rfl⟩ := keep_inj ((but_same _ _ a1).symm.trans hk)
  rw [but_upd_ne hzk.symm]
  exact IsKeep.move a1 a2 a3
theorem m_undo (T : Txt2 P K mg) : MetX P w K mg base 3 (He.ga K "Keeper") "undo" (spUndo K) := by
  obtain ⟨fd, F⟩ := T.fn_Keeper_undo
  refine mkMetX F T.c_Keeper T.m_Keeper_undo (fun _ _ _ _ _ _ us hl => match us, hl with | [_], _ => rfl) scUndo (fun vs H Q E h => ?_) fun cdv A outer s H vs Q E hr h => ?_
  · obtain ⟨kp, t, at_, ms, rfl, _⟩ := h
    rfl
  · obtain ⟨kp, t, at_, ms, rfl, ⟨dx, am, mas, hk, ham, hms⟩, hc⟩ := h
    refine ⟨_, (pss_cons (ps_if (pt_cmpR op_eq (pe_fld (pv 0) rfl) pe_int (nomark _)) (pss_one (ps_raise rfl (takes_of rfl rfl rfl rfl) (pmk_0 T.eDeed.tx tx_NoDeed hr))) pss_nil) (pss_one (ps_fldaug (pv 0) pe_int in_sub))), ?_⟩
    refine ⟨_, rfl, kp, _, _, _, _, rfl, hk, T.c_Keeper, T.n_Keeper_at, rfl, rfl, _, rfl, ?_⟩
    rcases hc with ⟨rfl, k⟩ | ⟨h0, k⟩
    · exact ite_t rfl k
    · refine ite_f (decide_eq_false fun z => by have := V.int.inj z; omega) ⟨_, rfl, kp, _, _, _, _, rfl, hk, T.c_Keeper, T.n_Keeper_at, rfl, _, _, rfl, rfl, _, _, hk, by show 3 < 1000; omega, ?_⟩
      have e : (at_ : Int) - 1 = ((at_ - 1 : Nat) : Int) := by omega
      rw [e]
      exact k _ ((SameBut.of (Same.refl H)).upd (.inl List.mem_cons_self)) (IsKeep.moveTo hk ham hms)
theorem scAgain : FnScope ["self"] ["self"] (defScope s_Keeper_again) := ⟨rfl, rfl, rfl, by decide +kernel, rfl, by decide +kernel, by decide +kernel⟩
def spAgain (K : PySem.W.Frag) : Sp := fun vs H Q E => ∃ (kp t : Addr) (at_ : Nat) (ms : List (List (List Nat))), vs = [.ref kp] ∧ IsKeep K H kp t at_ ms ∧
  ((at_ + 1 = ms.length ∧ E (.ref (He.ga K "NoDeed")) none H) ∨ (at_ + 1 < ms.length ∧ ∀ H', SameBut [kp] H H' → KeepTo K H H' kp t at_ ms (at_ + 1) ms → Q .non H'))
theorem m_again (T : Txt2 P K mg) : MetX P w K mg base 3 (He.ga K "Keeper") "again" (spAgain K) := by
  obtain ⟨fd, F⟩ := T.fn_Keeper_again
  refine mkMetX F T.c_Keeper T.m_Keeper_again (fun _ _ _ _ _ _ us hl => match us, hl with | [_], _ => rfl) scAgain (fun vs H Q E h => ?_) fun cdv A outer s H vs Q E hr h => ?_
  · obtain ⟨kp, t, at_, ms, rfl, _⟩ := h
    rfl
  · obtain ⟨kp, t, at_, ms, rfl, ⟨dx, am, mas, hk, ham, hms⟩, hc⟩ := h
    refine ⟨_, (pss_cons (ps_if (pt_cmpR op_eq (pe_fld (pv 0) rfl) (pe_op op_sub (pe_callB call_len_seq (by rfl) T.f_len boot_len (pa_cons (pe_fld (pv 0) rfl) pa_nil)) pe_int) (nomark _)) (pss_one (ps_raise rfl (takes_of rfl rfl rfl rfl) (pmk_0 T.eDeed.tx tx_NoDeed hr))) pss_nil) (pss_one (ps_fldaug (pv 0) pe_int in_add))), ?_⟩
    have hmsl : mas.length = ms.length := paired_len hms
    refine ⟨_, rfl, kp, _, _, _, _, rfl, hk, T.c_Keeper, T.n_Keeper_at, rfl, _, rfl, kp, _, _, _, _, rfl, hk, T.c_Keeper, T.n_Keeper_moments, rfl, am, _, rfl, .inl (SqL.of ham), _, _, rfl, rfl, rfl, _, rfl, ?_⟩
    rcases hc with ⟨h0, k⟩ | ⟨h0, k⟩
    · exact ite_t (decide_eq_true (by rw [List.length_map, hmsl, ← h0]; congr 1; omega)) k
    · refine ite_f (decide_eq_false fun z => by have := V.int.inj z; rw [List.length_map, hmsl] at this; omega) ⟨_, rfl, kp, _, _, _, _, rfl, hk, T.c_Keeper, T.n_Keeper_at, rfl, _, _, rfl, rfl, _, _, hk, by show 3 < 1000; omega, ?_⟩
      exact k _ ((SameBut.of (Same.refl H)).upd (.inl List.mem_cons_self)) (IsKeep.moveTo (at2 := at_ + 1) hk ham hms)
end
end KW
end
section
set_option Elab.async false
set_option linter.all false
set_option maxRecDepth 100000
set_option maxHeartbeats 8000000
set_option pp.maxSteps 600
/-! Keeper.go. -/
namespace KW
open PySem PySem.Spec PyProof.Rows L2
section
variable {P : Program} {w : World} {K : PySem.W.Frag} {mg : Str → Option Value} {base : Heap}
theorem units65 {k : Nat} {A : Around} (r : Room k A) : A.units + 65 < cLine := by have := r.un; omega
/-- what the law hands in as a row -/
def RowV (H : Hp) (v : V) : Prop := v = .non ∨ (∃ b, v = .bl b) ∨ (∃ i, v = .int i) ∨ v = .str "0" ∨ ∃ a, v = .ref a ∧ H a = some (.lst [.int 0])
theorem RowV.thing {H : Hp} {v : V} (h : RowV H v) : Thing H v := by
  rcases h with h | h | h | h | ⟨a, h1, h2⟩
  · exact .inl h
  · exact .inr (.inl h)
  · exact .inr (.inr (.inl h))
  · exact .inr (.inr (.inr (.inl ⟨_, h⟩)))
  · exact .inr (.inr (.inr (.inr ⟨a, _, h1, h2⟩)))
theorem RowV.same {H H' : Hp} {v : V} (s : Same H H') (h : RowV H v) : RowV H' v := by
  rcases h with h | h | h | h | ⟨a, h1, h2⟩
  · exact .inl h
  · exact .inr (.inl h)
  · exact .inr (.inr (.inl h))
  · exact .inr (.inr (.inr (.inl h)))
  · exact .inr (.inr (.inr (.inr ⟨a, h1, s _ _ h2⟩)))
theorem RowV.data {H : Hp} {v : V} (h : RowV H v) : ∃ d, SeqAt.shaped d = true ∧ (∀ i, v = .int i → d = .int i) ∧ ∀ H', Same H H' → Dp K H' v d := by
  rcases h with rfl | ⟨b, rfl⟩ | ⟨i, rfl⟩ | rfl | ⟨a, rfl, h2⟩
  · exact ⟨.none, rfl, (fun _ e => nomatch e), fun _ _ => .non⟩
  · exact ⟨.bool b, rfl, (fun _ e => nomatch e), fun _ _ => .bl b⟩
  · exact ⟨.int i, rfl, (fun _ e => by cases e; rfl), fun _ _ => .int i⟩
  · exact ⟨.str "0", by decide +kernel, (fun _ e => nomatch e), fun _ _ => .str _⟩
  · exact ⟨.list [.int 0], by decide +kernel, (fun _ e => nomatch e), fun H' s => .lst (SqL.of (s _ _ h2)) (.cons (.int 0) .nil)⟩
def hasD (d : PyData) (lot : List Nat) : Bool := (lot.map PySem.W.Datum.toD).any fun z => PyData.eqv z d
theorem hasD_int (x : Nat) (lot : List Nat) : hasD (.int (x : Int)) lot = decide (x ∈ lot) := any_toD lot x
theorem range_more (p : Nat → Bool) (i : Nat) : (List.range (i + 1)).filter p = if p i = true then (List.range i).filter p ++ [i] else (List.range i).filter p := by
  rw [List.range_succ, List.filter_append]
  by_cases h : p i = true
  · rw [if_pos h, List.filter_cons_of_pos h]; rfl
  · rw [if_neg h, List.filter_cons_of_neg h, List.filter_nil, List.append_nil]
theorem filter_head {p : Nat → Bool} {i : Nat} : ∀ {n : Nat}, i < n → p i = true → (∀ j, j < i → p j = false) → ∃ tl, (List.range n).filter p = i :: tl
  | 0, h, _, _ => absurd h (Nat.not_lt_zero _)
  | n + 1, h, hi, hm => by
    rw [range_more]
    by_cases q : i = n
    · subst q
      rw [if_pos hi]
      have : (List.range i).filter p = [] := List.filter_eq_nil_iff.mpr fun j hj => by rw [hm j (List.mem_range.mp hj)]; simp
      rw [this]
      exact ⟨[], rfl⟩
    · obtain ⟨tl, e⟩ := filter_head (n := n) (by omega) hi hm
      rw [e]
      split
      · exact ⟨tl ++ [n], rfl⟩
      · exact ⟨tl, rfl⟩
abbrev nmGo : List Str := ["self", "row", "found", "number", "lot", "other"]
theorem scGo : FnScope nmGo ["self", "row"] (defScope s_Keeper_go) := ⟨rfl, rfl, rfl, by decide +kernel, rfl, by decide +kernel, by decide +kernel⟩
def goneOf (lots : List (List Nat)) (x : Nat) : List (List Nat) := lots.map fun lot => lot.filter fun r => decide (r ≠ x)
def spGo (K : PySem.W.Frag) : Sp := fun vs H Q E => ∃ (kp t : Addr) (v : V) (at_ : Nat) (ms : List (List (List Nat))) (f : Int) (wd n : Nat) (T : List (List Int)), vs = [.ref kp, v] ∧ IsKeep K H kp t at_ ms ∧ IsRows K H t f wd T ∧ T.length = n ∧ n ≤ 100 ∧ at_ < ms.length ∧ (ms.getD at_ []).length ≤ 100 ∧ (∀ lot, lot ∈ ms.getD at_ [] → lot.length < 64) ∧ ms.length ≤ 1000 ∧ RowV H v ∧
  (((∀ x : Nat, v = .int (x : Int) → x < n → ∀ lot, lot ∈ ms.getD at_ [] → x ∉ lot) ∧ ∀ H' d, Same H H' → H d = none → H' d = some (.xd [("row", v)]) → E (.ref (He.ga K "NoRow")) (some d) H') ∨
   ∃ x i : Nat, v = .int (x : Int) ∧ x < n ∧ i < (ms.getD at_ []).length ∧ x ∈ (ms.getD at_ []).getD i [] ∧ (∀ j, j < i → x ∉ (ms.getD at_ []).getD j []) ∧
    ∀ H', SameBut [kp] H H' → KeepTo K H H' kp t at_ ms (at_ + 1) (ms.take (at_ + 1) ++ [(goneOf (ms.getD at_ []) x).map KP.srt]) → Q (.int (i : Int)) H')
theorem m_go (T : Txt2 P K mg) : MetX P w K mg base 4 (He.ga K "Keeper") "go" (spGo K) := by
  obtain ⟨fd, F⟩ := T.fn_Keeper_go
  refine mkMetX F T.c_Keeper T.m_Keeper_go (fun _ _ _ _ _ _ us hl => match us, hl with | [_, _], _ => rfl) scGo (fun vs H Q E h => ?_) fun cdv A outer s H vs Q E hr h => ?_
  · obtain ⟨kp, t, v, at_, ms, f, wd, n, T', rfl, _⟩ := h
    rfl
  · obtain ⟨kp, t, v, at_, ms, f, wd, n, T', rfl, hkeep, hrows, hTn, hn100, hat, h100, h64, hm1000, hv, hc⟩ := h
    have hu := units65 hr
    refine ⟨_, (pss_cons (ps_setLc (i := 2) (own := [("number", 3), ("lot", 4)]) (g := gTup K 2 (gCons (gName 3) (gCons (gName 4) gNil))) (tt := tTest (tOp (rInD K) (tVar 1) (tVar 4))) rfl scGo.nd rfl rfl rfl (pi_enum (by rfl) T.f_enumerate (pa_cons (C8.pe_mt0 (m_lots T) hr (by decide) (pv 0)) pa_nil)) (blkOk_by (N := nmGo) (sc := defScope s_Keeper_go) (by decide +kernel))
          (fun _ _ _ _ _ => pg_tup rfl (pgs_cons (pg_name (i := 3) scGo.nd rfl (Or.inl rfl)) (pgs_cons (pg_name (i := 4) scGo.nd rfl (Or.inl rfl)) pgs_nil))) (fun _ _ _ _ _ => pts_one (pt_cmpR (op_inD hu) (pv 1) (pv 4) (by with_unfolding_all rfl))) (fun _ _ _ _ _ => pv 3)) (pss_cons (ps_if (PW.pt (pw_or (pt_not (pt_val (C8.pe_c (c_is_below T.toTxt) hr (by decide) (by rfl) (pa_cons (pv 1) (pa_cons (pe_callB (call_lenO (m_len T) hr (by decide)) (by rfl) T.f_len boot_len (pa_cons (pe_fld (pv 0) rfl) pa_nil)) pa_nil))))) (pw_or1 (pt_cmpR op_eq (pe_callB call_len_seq (by rfl) T.f_len boot_len (pa_cons (pv 2) pa_nil)) pe_int (nomark _)))))
          (pss_one (ps_raise rfl (takes_of rfl rfl rfl rfl) (pmk_1 T.eRow.tx tx_NoRow T.eRow.no hr (pa_cons (pv 1) pa_nil)))) pss_nil) (pss_cons (ps_expr (C8.pe_mt (m_note T) hr (by decide) (pv 0) (pa_cons (pe_lc (te := tLc (iList K (tVar 4)) (gName 5) (tTest (tOp rNe (tVar 5) (tVar 1))) (tVar 5) [5]) (own := [("lot", 4)]) (g := gName 4) (tt := tYes) rfl scGo.nd (pi_list (C8.pe_mt0 (m_lots T) hr (by decide) (pv 0))) (blkOk_by (N := nmGo) (sc := defScope s_Keeper_go) (by decide +kernel))
          (fun _ _ _ _ _ => pg_name (i := 4) scGo.nd rfl (Or.inl rfl)) (fun _ _ _ _ _ => pts_nil) (fun _ _ _ _ _ => pe_lc (own := [("other", 5)]) (g := gName 5) rfl scGo.nd (pi_list (pv 4)) (blkOk_by (N := nmGo) (sc := relabS (e_scope (e_arg0 (s_val (s_at (defBody s_Keeper_go) 2)))) (defScope s_Keeper_go)) (by decide +kernel))
            (fun _ _ _ _ _ => pg_name (i := 5) scGo.nd rfl (Or.inl rfl)) (fun _ _ _ _ _ => pts_one (pt_cmpR op_ne (pv 5) (pv 1) (nomark _))) (fun _ _ _ _ _ => pv 5))) pa_nil))) (pss_one (ps_ret (pe_ix ix_list (pv 2) pe_int (fun _ _ => rfl))))))), ?_⟩
    obtain ⟨dx, am, mas, hk, ham, hms⟩ := id hkeep
    generalize hlo : ms.getD at_ [] = lots at h100 h64 hc
    obtain ⟨dv, hdv, hdp⟩ := hv.data (K := K)
    refine ⟨_, rfl, kp, _, _, rfl, hk, rfl, kp, t, at_, ms, rfl, hkeep, hat, by rw [hlo]; omega, fun H1 q qs nl => ?_⟩
    rw [hlo] at nl
    have hql : qs.length = lots.length := paired_len nl.lots
    refine ⟨q, _, rfl, SqL.of nl.at_, fun D hD => ?_⟩
    have hdv1 := hdp.1
    have hdp2 := hdp.2
    refine lc_it (jo_enum (SqL.of nl.at_)) (Same.refl _) (Same.refl _) hD (fun i => nV ((List.range i).filter fun j => hasD dv (lots.getD j []))) rfl (fun i hi => ?_) (fun i v1 H2 Nx Sk hi s2 hv1 k1 k0 => ?_) fun H2 s2 h2 => ?_
    · rw [List.length_map] at hi ⊢
      have := List.length_filter_le (fun j => hasD dv (lots.getD j [])) (List.range i)
      rw [List.length_range] at this
      omega
    · obtain ⟨T2, x2, rfl, hT2, hx2⟩ := hv1
      obtain ⟨l, hl, rfl⟩ := at_map hx2
      have hll := s2 _ _ (LF.of nl.lots i l hl)
      refine ⟨T2, _, rfl, .inl (.inl hT2), rfl, _, _, rfl, _, _, rfl, rfl, ⟨rfl, ?_⟩⟩
      refine ⟨_, rfl, _, rfl, dv, _, hdp2 _ (nl.sm.trans s2), at_nats (SqL.of hll), hdv, toD_shaped (lots.getD i []), _, rfl, ?_⟩
      show if hasD dv (lots.getD i []) = true then _ else _
      cases hh : hasD dv (lots.getD i []) with
      | true => exact ite_t rfl ⟨_, rfl, k1 _ _ (Same.refl _) (by rw [range_more, if_pos hh]; exact nV_snoc _ _)⟩
      | false => exact ite_f rfl (k0 _ (Same.refl _) (by rw [range_more, if_neg (by rw [hh]; simp)]))
    · rw [List.length_map, hql] at h2
      have s02 := nl.sm.trans s2
      obtain ⟨dxt, r, rs, ht, hrr, hpr⟩ := id hrows
      refine ⟨_, rfl, _, rfl, kp, _, _, _, _, rfl, s02 _ _ hk, T.c_Keeper, T.n_Keeper_own_table, rfl, t, _, _, rfl, s02 _ _ ht, t, f, wd, T', rfl, hrows.same s02, _, rfl, ⟨by omega, by omega⟩, v, _, rfl, (hv.same s02).thing, _, rfl, ?_⟩
      rw [hTn]
      rcases hc with ⟨hbad, k⟩ | ⟨x, i, rfl, hx, hi, hxi, hmin, k⟩
      · have fin : ∀ d, H2 d = none → E (.ref (He.ga K "NoRow")) (some d) (upd H2 d (.xd [("row", v)])) := fun d hd => k _ d (s02.upd' hd) (s02.free hd) upd_same
        cases hb : belowV v (n : Int) with
        | false => exact ite_t rfl (ite_t rfl ⟨_, rfl, v, rfl, fin⟩)
        | true =>
          refine ite_f rfl ?_
          obtain ⟨x, rfl, hx⟩ : ∃ x : Nat, v = .int (x : Int) ∧ x < n := by
            cases v <;> try cases hb
            rename_i z
            have := of_decide_eq_true hb
            exact ⟨z.toNat, by congr 1; omega, by omega⟩
          have hnil : (List.range lots.length).filter (fun j => hasD dv (lots.getD j [])) = [] := by
            rw [List.filter_eq_nil_iff]
            intro j hj
            have hj' := List.mem_range.mp hj
            have hm : lots.getD j [] ∈ lots := by rw [List.getD_eq_getElem?_getD, List.getElem?_eq_getElem hj']; exact List.getElem_mem _
            rw [hdv1 _ rfl, hasD_int]
            simpa using hbad x rfl hx _ hm
          rw [hnil] at h2
          exact ⟨_, rfl, D, _, rfl, .inl (SqL.of h2), rfl, _, rfl, ite_t rfl ⟨_, rfl, _, rfl, fin⟩⟩
      · have hb : belowV (.int (x : Int)) (n : Int) = true := decide_eq_true (by omega)
        refine ite_f (by rw [hb]; rfl) ?_
        have hmemi : i ∈ (List.range lots.length).filter (fun j => hasD dv (lots.getD j [])) := List.mem_filter.mpr ⟨List.mem_range.mpr hi, by rw [hdv1 _ rfl, hasD_int]; exact decide_eq_true hxi⟩
        have hhead : ∃ tl, (List.range lots.length).filter (fun j => hasD dv (lots.getD j [])) = i :: tl := by
          exact filter_head hi (by rw [hdv1 _ rfl, hasD_int]; exact decide_eq_true hxi) fun j hj => by rw [hdv1 _ rfl, hasD_int]; exact decide_eq_false (hmin j hj)
        obtain ⟨tl, htl⟩ := hhead
        rw [htl] at h2
        refine ⟨_, rfl, D, _, rfl, .inl (SqL.of h2), rfl, _, rfl, ite_f (decide_eq_false fun z => by have := V.int.inj z; simp at this; omega) ?_⟩
        refine ⟨_, rfl, kp, _, _, rfl, s02 _ _ hk, rfl, _, rfl, kp, _, _, rfl, s02 _ _ hk, rfl, kp, t, at_, ms, rfl, hkeep.same s02, hat, by rw [hlo]; omega, fun H3 q2 qs2 nl2 => ?_⟩
        rw [hlo] at nl2
        have hql2 : qs2.length = lots.length := paired_len nl2.lots
        refine ⟨q2, rfl, ⟨_, SqL.of nl2.at_⟩, fun D2 hD2 => ?_⟩
        refine lc_ex (jo_list (SqL.of nl2.at_)) (Same.refl _) (Same.refl _) hD2 (fun i xs G => ∃ ps, xs = rV ps ∧ IsLots G ps (goneOf (lots.take i) x)) (fun i xs G G' sG ⟨ps, e1, e2⟩ => ⟨ps, e1, e2.same sG⟩) ⟨[], rfl, .nil⟩
          (fun i xs G hi ⟨ps, e1, e2⟩ => by rw [e1, List.length_map, paired_len e2]; unfold goneOf; rw [List.length_map, List.length_take]; omega) (fun i1 v1 xs H4 Nx Sk hi1 s4 hv1 hD4 hpv kN _ => ?_) fun H4 xs s4 d4 hpv => ?_
        · obtain ⟨l, hl, rfl⟩ := at_map hv1
          obtain ⟨lot, hlot, hll⟩ := paired_at nl2.lots hl
          obtain ⟨ps, rfl, hps⟩ := hpv
          have hll4 := s4 _ _ hll
          have hlen := h64 lot (List.mem_of_getElem? hlot)
          refine ⟨rfl, _, rfl, l, rfl, ⟨_, SqL.of hll4⟩, fun D3 hD3 => ?_⟩
          refine lc_it (jo_list (SqL.of hll4)) (Same.refl _) (Same.refl _) hD3 (fun i => nV ((lot.take i).filter fun r => decide (r ≠ x))) rfl (fun i _ => ?_) (fun i2 v2 H5 Nx2 Sk2 hi2 s5 hv2 k1 k0 => ?_) fun H5 s5 h5 => ?_
          · have := List.length_filter_le (fun r => decide (r ≠ x)) (lot.take i)
            rw [List.length_take] at this
            rw [List.length_map]; omega
          · obtain ⟨z, hz, rfl⟩ := at_map hv2
            refine ⟨rfl, _, rfl, _, rfl, rfl, _, rfl, ?_⟩
            by_cases h0 : z = x
            · exact ite_f (nd_eq h0) (k0 _ (Same.refl _) (by rw [take_filter_more _ hz, if_neg (by simp [h0])]))
            · exact ite_t (nd_ne h0) ⟨_, rfl, k1 _ _ (Same.refl _) (by rw [take_filter_more _ hz, if_pos (by simp [h0])]; exact nV_snoc _ _)⟩
          · rw [List.length_map, List.take_length] at h5
            refine kN _ _ s5 ⟨ps ++ [D3], by rw [rV_snoc], ?_⟩
            have e : goneOf (lots.take (i1 + 1)) x = goneOf (lots.take i1) x ++ [lot.filter fun r => decide (r ≠ x)] := take_map_more _ hlot
            rw [e]
            exact Paired.snoc (hps.same (but_mono s5)) (but_at h5 (ne_of_none hD4 hD3).symm)
        · obtain ⟨ps, rfl, hps⟩ := hpv
          rw [List.length_map, hql2, List.take_length] at hps
          have s04 := (s02.trans nl2.sm).trans s4
          refine ⟨kp, t, D2, at_, ms, goneOf lots x, rfl, hkeep.same s04, ⟨ps, d4, hps.same but_same⟩, by unfold goneOf; rw [List.length_map]; omega, fun lot hl => ?_, hm1000, fun H5 sb hk5 => ?_⟩
          · obtain ⟨l0, h0, rfl⟩ := List.mem_map.mp hl
            exact Nat.lt_of_le_of_lt (List.length_filter_le _ _) (h64 l0 h0)
          · have hDk : D ≠ kp := (ne_of_none (nl.sm _ _ hk) hD).symm
            refine ⟨_, rfl, D, _, 0, _, rfl, rfl, SqL.of (sb _ _ ((nl2.sm.trans s4) _ _ h2) (by simpa using hDk)), at0, ?_⟩
            exact k H5 ((SameBut.of s04).trans sb) (hk5.pre s04)
end
end KW
end
section
set_option Elab.async false
set_option linter.all false
set_option maxRecDepth 100000
set_option maxHeartbeats 8000000
set_option pp.maxSteps 600
/-! Keeper.come. -/
namespace KW
open PySem PySem.Spec PyProof.Rows L2
section
variable {P : Program} {w : World} {K : PySem.W.Frag} {mg : Str → Option Value} {base : Heap}
abbrev nmCome : List Str := ["self", "row", "places", "moves", "lot"]
theorem scCome : FnScope nmCome ["self", "row"] (defScope s_Keeper_come) := ⟨rfl, rfl, rfl, by decide +kernel, rfl, by decide +kernel, by decide +kernel⟩
abbrev bfsOf (f : Int) (n : Nat) (T : List (List Int)) (lots : List (List Nat)) (x : Nat) : Option (KP.Rch × Option (Nat × Nat)) := KP.bfs (KP.stepOf f n T lots) lots.length (n + 1) 0 [⟨x, none, 0⟩] [x]
theorem putLots_len {n : Nat} {lots : List (List Nat)} (lo : LotsOk n lots) {pl : List (Nat × Nat)} (hn : (pl.map (·.1)).Nodup) (hl : ∀ z, z ∈ pl → z.1 < n) (h20 : n ≤ 20) : ∀ lot, lot ∈ KP.putLots lots pl → lot.length < 64 := fun lot h => by
  obtain ⟨i, hi⟩ := List.getElem?_of_mem h
  have e : (KP.putLots lots pl).getD i [] = lot := by rw [List.getD_eq_getElem?_getD, hi]; rfl
  have h1 := app_len pl (lots.map fun lot => KP.dropAll lot (pl.map (·.1))) i
  have e2 : (pl.foldl putK1 (lots.map fun lot => KP.dropAll lot (pl.map (·.1)))).getD i [] = lot := e
  rw [e2] at h1
  have h2 : ((lots.map fun lot => KP.dropAll lot (pl.map (·.1))).getD i []).length ≤ n := by
    by_cases q : i < lots.length
    · rw [getD_mapL (g := fun lot => KP.dropAll lot (pl.map (·.1))) q]
      exact Nat.le_trans (dropAll_len _ _) (lo.len i)
    · rw [List.getD_eq_getElem?_getD, List.getElem?_eq_none (by rw [List.length_map]; omega)]; exact Nat.zero_le _
  have h3 := KP.nodup_le n (pl.map (·.1)) hn (fun r hr => by obtain ⟨y, hy, rfl⟩ := List.mem_map.mp hr; exact hl y hy)
  rw [List.length_map] at h3
  omega
theorem SameBut.freshL {as : List Addr} {H H4 H5 : Hp} (s : Same H H4) (hf : ∀ l, l ∈ as → H l = none) (sb : SameBut as H4 H5) : Same H H5 := fun b o e => sb b o (s _ _ e) fun m => by rw [hf b m] at e; cases e
theorem srt_srt (l : List Nat) : KP.srt (KP.srt l) = KP.srt l := (KP.srt_of_perm (List.Perm.refl _) (KP.srt_le l)).symm
theorem map_srt2 (L : List (List Nat)) : (L.map KP.srt).map KP.srt = L.map KP.srt := by
  rw [List.map_map]
  exact List.map_congr_left fun l _ => srt_srt l
theorem re_keys2 {H : Hp} {kvs : List (Key × V)} {R : KP.Rch} (h : Paired (IsRe H) kvs R) : kvs.map (·.1) = ((KP.keysR R).map fun (r : Nat) => (r : Int)).map Sum.inl := by
  rw [re_keys h, List.map_map]; rfl
def spCome (K : PySem.W.Frag) : Sp := fun vs H Q E => ∃ (kp t : Addr) (v : V) (at_ : Nat) (ms : List (List (List Nat))) (f : Int) (wd n : Nat) (T : List (List Int)), vs = [.ref kp, v] ∧ IsKeep K H kp t at_ ms ∧ IsRows K H t f wd T ∧ TabC f wd n T ∧ at_ < ms.length ∧ (ms.getD at_ []).length ≤ 100 ∧ LotsOk n (ms.getD at_ []) ∧ ms.length ≤ 1000 ∧ RowV H v ∧
  (((∀ x : Nat, v = .int (x : Int) → x < n → ∃ lot, lot ∈ ms.getD at_ [] ∧ x ∈ lot) ∧ ∀ H' d, Same H H' → H d = none → H' d = some (.xd [("row", v)]) → E (.ref (He.ga K "NoRow")) (some d) H') ∨
   ∃ x : Nat, v = .int (x : Int) ∧ x < n ∧ (∀ lot, lot ∈ ms.getD at_ [] → x ∉ lot) ∧
    ((∃ R, bfsOf f n T (ms.getD at_ []) x = some (R, none) ∧ ∀ H' d q, Same H H' → H d = none → H q = none → H' d = some (.xd [("lot", .ref q)]) → H' q = some (.lst (nV (KP.srt (KP.keysR R)))) → E (.ref (He.ga K "TooMany")) (some d) H') ∨
     ∃ R th i pl rest j, bfsOf f n T (ms.getD at_ []) x = some (R, some (th, i)) ∧ KP.Path R x pl j ∧ pl = (th, i) :: rest ∧ (pl.map (·.1)).Nodup ∧ (∀ z, z ∈ pl → z.2 < (ms.getD at_ []).length ∧ z.1 < n) ∧
      ∀ H' q, SameBut [kp] H H' → KeepTo K H H' kp t at_ ms (at_ + 1) (ms.take (at_ + 1) ++ [(KP.putLots (ms.getD at_ []) pl).map KP.srt]) → H q = none → H' q = some (.dK (toldD pl)) → Q (.ref q) H'))
theorem m_come (T : Txt2 P K mg) : MetX P w K mg base 10 (He.ga K "Keeper") "come" (spCome K) := by
  obtain ⟨fd, F⟩ := T.fn_Keeper_come
  refine mkMetX F T.c_Keeper T.m_Keeper_come (fun _ _ _ _ _ _ us hl => match us, hl with | [_, _], _ => rfl) scCome (fun vs H Q E h => ?_) fun cdv A outer s H vs Q E hr h => ?_
  · obtain ⟨kp, t, v, at_, ms, f, wd, n, T', rfl, _⟩ := h
    rfl
  · obtain ⟨kp, t, v, at_, ms, f, wd, n, T', rfl, hkeep, hrows, tc, hat, h100, lo, hm1000, hv, hc⟩ := h
    refine ⟨_, (pss_cons (ps_if (PW.pt (pw_or (pt_not (pt_val (C8.pe_c (c_is_below T.toTxt) hr (by decide) (by rfl) (pa_cons (pv 1) (pa_cons (pe_callB (call_lenO (m_len T) hr (by decide)) (by rfl) T.f_len boot_len (pa_cons (pe_fld (pv 0) rfl) pa_nil)) pa_nil))))) (pw_or1 (pt_val (pe_callB (cr_any rfl) (by rfl) T.f_any boot_any
          (pa_cons (pe_lc (te := tOp (rIn K false) (tVar 1) (tVar 4)) (own := [("lot", 4)]) (g := gName 4) (tt := tYes) rfl scCome.nd (pi_list (C8.pe_mt0 (m_lots T) hr (by decide) (pv 0))) (blkOk_by (N := nmCome) (sc := defScope s_Keeper_come) (by decide +kernel)) (fun _ _ _ _ _ => pg_name (i := 4) scCome.nd rfl (Or.inl rfl)) (fun _ _ _ _ _ => pts_nil) (fun _ _ _ _ _ => pe_cmpR op_in_seq (pv 1) (pv 4) (by with_unfolding_all rfl))) pa_nil))))))
          (pss_one (ps_raise rfl (takes_of rfl rfl rfl rfl) (pmk_1 T.eRow.tx tx_NoRow T.eRow.no hr (pa_cons (pv 1) pa_nil)))) pss_nil) (pss_cons (ps_set (i := 2) scCome.nd rfl (Or.inl rfl) (C8.pe_mt (m_places T) hr (by decide) (pv 0) (pa_cons (C8.pe_mt0 (m_lots T) hr (by decide) (pv 0)) pa_nil))) (pss_cons (ps_set (i := 3) scCome.nd rfl (Or.inl rfl) (C8.pe_mt (m_put T) hr (by decide) (pv 2) (pa_cons (pv 1) pa_nil))) (pss_cons (ps_if (pt_cmpR op_isN (pv 3) pe_non (nomark _)) (pss_one (ps_raise rfl (takes_of rfl rfl rfl rfl) (pmk_1 T.eMany.tx tx_TooMany T.eMany.no hr (pa_cons (pe_callB (call_sortedDI rfl) (by rfl) T.f_sorted boot_sorted (pa_cons (pe_ix ix_tup (C8.pe_mt (m_reach T) hr (by decide) (pv 2) (pa_cons (pe_lst (pa_cons (pv 1) pa_nil)) pa_nil)) pe_int (fun _ _ => rfl)) pa_nil)) pa_nil)))) pss_nil) (pss_cons (ps_expr (C8.pe_mt (m_note T) hr (by decide) (pv 0) (pa_cons (C8.pe_mt0 (m_told T) hr (by decide) (pv 2)) pa_nil))) (pss_one (ps_ret (pv 3)))))))), ?_⟩
    obtain ⟨dx, am, mas, hk, ham, hms⟩ := id hkeep
    generalize hlo : ms.getD at_ [] = lots at h100 lo hc
    obtain ⟨dxt, r, rs, ht, hrr, hpr⟩ := id hrows
    have hn20 := tc.n5
    have hTn : T'.length = n := tc.tab.len
    refine ⟨_, rfl, _, rfl, kp, _, _, _, _, rfl, hk, T.c_Keeper, T.n_Keeper_own_table, rfl, t, _, _, rfl, ht, t, f, wd, T', rfl, hrows, _, rfl, ⟨by omega, by omega⟩, v, _, rfl, hv.thing, _, rfl, ?_⟩
    rw [hTn]
    cases hb : belowV v (n : Int) with
    | false =>
      rcases hc with ⟨_, k⟩ | ⟨x, rfl, hx, _⟩
      · exact ite_t rfl (ite_t rfl ⟨_, rfl, v, rfl, fun d hd => k _ d (Same.upd hd) hd upd_same⟩)
      · exfalso
        have : decide ((0 : Int) ≤ x ∧ (x : Int) < n) = false := hb
        have := of_decide_eq_false this
        omega
    | true =>
      refine ite_f rfl ?_
      obtain ⟨x, rfl, hx⟩ : ∃ x : Nat, v = .int (x : Int) ∧ x < n := by
        cases v <;> try cases hb
        rename_i z
        have := of_decide_eq_true hb
        exact ⟨z.toNat, by congr 1; omega, by omega⟩
      refine ⟨_, rfl, kp, _, _, rfl, hk, rfl, kp, t, at_, ms, rfl, hkeep, hat, by rw [hlo]; omega, fun H1 q qs nl => ?_⟩
      rw [hlo] at nl
      have hql : qs.length = lots.length := paired_len nl.lots
      refine ⟨q, rfl, ⟨_, SqL.of nl.at_⟩, fun D hD => ?_⟩
      refine lc_it (jo_list (SqL.of nl.at_)) (Same.refl _) (Same.refl _) hD (fun i => ((lots.take i).map fun lot => lot.contains x).map V.bl) rfl (fun i hi => ?_) (fun i v1 H2 Nx Sk hi s2 hv1 k1 k0 => ?_) fun H2 s2 h2 => ?_
      · rw [List.length_map, List.length_map, List.length_take]; omega
      · obtain ⟨l, hl, rfl⟩ := at_map hv1
        obtain ⟨lot, hlot, hll⟩ := paired_at nl.lots hl
        refine ⟨rfl, _, rfl, _, rfl, l, _, rfl, .inl (SqL.of (s2 _ _ hll)), rfl, flat_nats _, k1 _ _ (Same.refl _) ?_⟩
        rw [take_map_more _ hlot, List.map_append]
        show _ ++ [V.bl (lot.contains x)] = _ ++ [V.bl (if false = true then _ else inV (V.int (x : Int)) (nV lot))]
        rw [inV_nats]; rfl
      · rw [List.length_map, hql, List.take_length] at h2
        have s02 := nl.sm.trans s2
        refine ⟨D, _, rfl, SqL.of h2, _, rfl, ?_⟩
        rcases hc with ⟨hbad, k⟩ | ⟨x', hxe, hx, hno, hc⟩
        · obtain ⟨lot, hm, hxl⟩ := hbad x rfl hx
          have hany : ((lots.map fun lot => lot.contains x).any id) = true := List.any_eq_true.mpr ⟨true, List.mem_map.mpr ⟨lot, hm, List.contains_iff_mem.mpr hxl⟩, rfl⟩
          rw [hany]
          exact ite_t rfl ⟨_, rfl, _, rfl, fun d hd => k _ d (s02.upd' hd) (s02.free hd) upd_same⟩
        · have hxe' : x = x' := Int.ofNat.inj (V.int.inj hxe)
          subst hxe'
          have hany : ((lots.map fun lot => lot.contains x).any id) = false := by
            rw [List.any_eq_false]
            intro b hb2
            obtain ⟨lot, hm, rfl⟩ := List.mem_map.mp hb2
            show ¬ (lot.contains x = true)
            rw [List.contains_iff_mem]
            exact hno lot hm
          rw [hany]
          refine ite_f rfl ?_
          refine ⟨_, rfl, kp, _, _, rfl, s02 _ _ hk, rfl, _, rfl, kp, _, _, rfl, s02 _ _ hk, rfl, kp, t, at_, ms, rfl, hkeep.same s02, hat, by rw [hlo]; omega, fun H3 q3 qs3 nl3 => ?_⟩
          rw [hlo] at nl3
          have s03 := s02.trans nl3.sm
          refine ⟨kp, t, q3, at_, ms, lots, f, wd, n, T', rfl, hkeep.same s03, hrows.same s03, hTn, by omega, ⟨qs3, nl3.at_, nl3.lots⟩, h100, fun H4 p at2 az ak ls s4 hpl hpn hlsn => ?_⟩
          have s04 := s03.trans s4
          obtain ⟨dxp, hp4⟩ := hpl.1
          refine ⟨_, rfl, p, _, _, rfl, hp4, rfl, _, rfl, p, at2, az, ak, t, f, wd, n, x, T', ls, lots, rfl, hpl, hrows.same s04, tc, lo, hx, h100, ?_⟩
          rcases hc with ⟨R, hbfs, k⟩ | ⟨R, th, i, pl, rest, j, hbfs, hpath, hpl1, hnd, hbd, k⟩
          · refine .inl ⟨R, hbfs, fun H5 s5 => ?_⟩
            have s05 := s04.trans s5
            have hpl5 := hpl.same s5
            refine ⟨_, rfl, rfl, _, rfl, ite_t rfl ⟨_, rfl, p, _, _, rfl, s5 _ _ hp4, rfl, _, rfl, sz (by simp), fun sl hsl => ?_⟩⟩
            have s5l := Same.upd (o := .lst [.int (x : Int)]) hsl
            refine ⟨p, at2, az, ak, t, sl, f, wd, n, x, T', ls, lots, R, none, rfl, hpl5.same s5l, (hrows.same s05).same s5l, tc, lo, upd_same, hx, h100, hbfs, fun H6 q6 d6 v6 s6 hq6 hre hrs hv6 hqt => ?_⟩
            obtain ⟨kvs, hk6, hkr⟩ := hre
            have hRl := hrs.len
            refine ⟨q6, _, 0, .ref d6, rfl, rfl, .inl (.inl hqt), at0, d6, kvs, (KP.keysR R).map fun (r : Nat) => (r : Int), rfl, .inl hk6, re_keys2 hkr, by rw [List.length_map]; unfold KP.keysR; rw [List.length_map]; omega, fun ys q7 hperm hs hq7 => ⟨_, rfl, fun d hd => ?_⟩⟩
            have s06 := (s05.trans s5l).trans s6
            refine k _ d q7 ((s06.upd' hq7).upd' hd) ((s06.upd' hq7).free hd) (s06.free hq7) upd_same ?_
            rw [Same.upd hd _ _ upd_same, nV_srt hperm hs]
          · refine .inr ⟨R, th, i, pl, rest, j, hbfs, hpath, hpl1, hnd, hbd, fun H5 q5 sb5 hpl5 hq5 hqd => ?_⟩
            have s05 : Same H H5 := SameBut.freshL s04 (fun l hl => s03.free (hlsn l hl)) sb5
            obtain ⟨dxp5, hp5⟩ := hpl5.1
            have hplen : (KP.putLots lots pl).length ≤ 100 := by
              have : (KP.putLots lots pl).length = lots.length := by
                show (pl.foldl putK1 _).length = _
                rw [app_length, List.length_map]
              omega
            have h64 := putLots_len lo hnd (fun z hz => (hbd z hz).2) tc.n5
            refine ⟨_, rfl, rfl, _, rfl, ite_f rfl ⟨_, rfl, kp, _, _, rfl, s05 _ _ hk, rfl, _, rfl, p, _, _, rfl, hp5, rfl, p, at2, az, ak, t, n, ls, _, rfl, hpl5, hplen, h64, fun H6 q6 qs6 nl6 => ?_⟩⟩
            have s06 := s05.trans nl6.sm
            refine ⟨kp, t, q6, at_, ms, _, rfl, hkeep.same s06, ⟨qs6, nl6.at_, nl6.lots⟩, by rw [List.length_map]; exact hplen, fun lot hl => ?_, hm1000, fun H7 sb7 hk7 => ⟨_, rfl, ?_⟩⟩
            · obtain ⟨l0, h0, rfl⟩ := List.mem_map.mp hl
              rw [(KP.srt_perm l0).length_eq]; exact h64 l0 h0
            · rw [map_srt2] at hk7
              have hqk : q5 ≠ kp := fun z => by rw [z, s04 _ _ hk] at hq5; cases hq5
              exact k H7 q5 ((SameBut.of s06).trans sb7) (hk7.pre s06) (s04.free hq5) (sb7 _ _ (nl6.sm _ _ hqd) (by simpa using hqk))
end
end KW
end
section
set_option Elab.async false
set_option linter.all false
set_option maxRecDepth 100000
set_option maxHeartbeats 4000000
set_option pp.maxSteps 600
/-! Seats as dicts; what less tells. -/
namespace KW
open PySem PySem.Spec PyProof.Rows L2
theorem seatsFrom_app : ∀ (a b : List (List Nat)) (k : Nat), KP.seatsFrom k (a ++ b) = KP.seatsFrom k a ++ KP.seatsFrom (k + a.length) b
  | [], _, _ => rfl
  | l :: a, b, k => by
    show (l.map fun r => (r, k)) ++ KP.seatsFrom (k + 1) (a ++ b) = ((l.map fun r => (r, k)) ++ KP.seatsFrom (k + 1) a) ++ _
    rw [seatsFrom_app a b (k + 1), List.append_assoc, List.length_cons]
    congr 3
    omega
theorem seats_more {L : List (List Nat)} {i : Nat} {lot : List Nat} (h : L[i]? = some lot) : KP.seatsFrom 0 (L.take (i + 1)) = KP.seatsFrom 0 (L.take i) ++ lot.map fun r => (r, i) := by
  have hi := (List.getElem?_eq_some_iff.mp h).1
  rw [take_more h, seatsFrom_app, List.length_take, Nat.min_eq_left (by omega), Nat.zero_add]
  congr 1
  show (lot.map fun r => (r, i)) ++ [] = _
  rw [List.append_nil]
theorem seats_take (L : List (List Nat)) (i : Nat) : (KP.seatsFrom 0 (L.take i)).Sublist (KP.seats L) := by
  have e : KP.seats L = KP.seatsFrom 0 (L.take i ++ L.drop i) := by rw [List.take_append_drop]; rfl
  rw [e, seatsFrom_app]
  exact List.sublist_append_left _ _
def foundOf (K0 Kd : List (List Nat)) (i : Nat) : List (Nat × Nat) := (KP.seatsFrom 0 (Kd.take i)).filter fun z => decide (KP.seat K0 z.1 ≠ some z.2)
theorem foundOf_more {K0 Kd : List (List Nat)} {i : Nat} {lot : List Nat} (h : Kd[i]? = some lot) : foundOf K0 Kd (i + 1) = foundOf K0 Kd i ++ (lot.map fun r => (r, i)).filter fun z => decide (KP.seat K0 z.1 ≠ some z.2) := by
  unfold foundOf
  rw [seats_more h, List.filter_append]
theorem foundOf_nodup {K0 Kd : List (List Nat)} (hn : ((KP.seats Kd).map (·.1)).Nodup) (i : Nat) : ((foundOf K0 Kd i).map (·.1)).Nodup :=
  hn.sublist ((List.filter_sublist.trans (seats_take Kd i)).map _)
theorem mem_foundOf {K0 Kd : List (List Nat)} {z : Nat × Nat} : z ∈ foundOf K0 Kd Kd.length ↔ z ∈ KP.seats Kd ∧ KP.seat K0 z.1 ≠ some z.2 := by
  unfold foundOf
  rw [List.take_length, List.mem_filter, decide_eq_true_iff]; rfl
theorem changed_eq {K0 Kd : List (List Nat)} (hn : ((KP.seats Kd).map (·.1)).Nodup) : movesD (KP.changed K0 Kd) = (KP.srt ((foundOf K0 Kd Kd.length).map (·.1))).map fun (m : Nat) => ((.inl (m : Int) : Key), V.int ((((foundOf K0 Kd Kd.length).lookup m).getD 0 : Nat) : Int)) := by
  have fn := foundOf_nodup (K0 := K0) hn Kd.length
  have e : (KP.srt ((KP.seats Kd).map (·.1))).filter (fun r => decide (KP.seat K0 r ≠ KP.seat Kd r)) = KP.srt ((foundOf K0 Kd Kd.length).map (·.1)) := by
    refine KP.sorted_uniq (List.Pairwise.filter _ (KP.srt_lt hn)) (KP.srt_lt fn) fun r => ?_
    rw [List.mem_filter, KP.mem_srt, KP.mem_srt, decide_eq_true_iff]
    constructor
    · rintro ⟨h1, h2⟩
      obtain ⟨z, hz, rfl⟩ := List.mem_map.mp h1
      refine List.mem_map.mpr ⟨z, mem_foundOf.mpr ⟨hz, fun q => h2 ?_⟩, rfl⟩
      rw [q]
      exact (KP.lookup_of hn hz).symm
    · intro h
      obtain ⟨z, hz, rfl⟩ := List.mem_map.mp h
      obtain ⟨h1, h2⟩ := mem_foundOf.mp hz
      refine ⟨List.mem_map.mpr ⟨z, h1, rfl⟩, fun q => h2 ?_⟩
      rw [q]
      exact KP.lookup_of hn h1
  unfold KP.changed
  rw [e]
  unfold movesD
  rw [List.map_map]
  refine List.map_congr_left fun m hm => ?_
  obtain ⟨z, hz, rfl⟩ := List.mem_map.mp (KP.mem_srt.mp hm)
  have e1 : KP.seat Kd z.1 = some z.2 := KP.lookup_of hn (mem_foundOf.mp hz).1
  have e2 : (foundOf K0 Kd Kd.length).lookup z.1 = some z.2 := KP.lookup_of fn hz
  show ((.inl (z.1 : Int) : Key), V.int (((KP.seat Kd z.1).getD 0 : Nat) : Int)) = _
  rw [e1, e2]
/-! ### a dict comprehension with two fors -/
theorem dc2_it {J : It} {g : TG} {wi1 : TI} {g1 : TG} {tk tv : TE} {vs vs1 : List Nat} {σ : L2.St} {H H0 H1 : Hp} {D : Addr} {Qd : Hp → Prop} {n : Nat} {Y : Nat → V → Hp → Prop} (jo : JOk J H0 n Y) (hS0 : Same H0 H) (hS : Same H H1) (hD : H1 D = none) (out : Nat → List (Key × V)) (h0 : out 0 = [])
    (hs : ∀ i x H' (Nx : Hp → Prop), i < n → Same H H' → Y i x H' → H' D = some (.dK (out i)) → (∀ H4, Same H H4 → H4 D = some (.dK (out (i + 1))) → Nx H4) →
      g x (wipe σ vs) H' fun σ2 H2 => wipe σ2 vs = wipe σ vs ∧ wi1 σ2 H2 fun J1 H4 => ∃ W1 : Nat → Nat → Hp → Prop, (∃ m, W1 0 m H4) ∧ ∀ j k H, W1 j k H →
      (J1.stop j H ∧ Nx H) ∨ (J1.go j H ∧ ∃ Nx1 : Hp → Prop, (∀ H', Nx1 H' → ∃ k', k' < k ∧ W1 (j + 1) k' H') ∧ ∀ x H', J1.yld j H x H' → g1 x (wipe σ2 vs1) H' fun σ3 H5 => wipe σ3 vs1 = wipe σ2 vs1 ∧
        tk σ3 H5 fun y H6 => tv σ3 H6 fun z H7 => ∃ kvs k, y = kV k ∧ H7 D = some (.dK kvs) ∧ kvs.length < sizeLine ∧ Nx1 (upd H7 D (.dK (putK kvs k z)))))
    (hd : ∀ H', Same H H' → H' D = some (.dK (out n)) → Qd H') :
    ∃ W : Nat → Nat → Hp → Prop, (∃ m, W 0 m (upd H1 D (.dK []))) ∧ ∀ i m H, W i m H →
  (J.stop i H ∧ Qd H) ∨ (J.go i H ∧ ∃ Nx : Hp → Prop, (∀ H', Nx H' → ∃ m', m' < m ∧ W (i + 1) m' H') ∧ ∀ x H', J.yld i H x H' → g x (wipe σ vs) H' fun σ2 H2 => wipe σ2 vs = wipe σ vs ∧
    wi1 σ2 H2 fun J1 H4 => ∃ W1 : Nat → Nat → Hp → Prop, (∃ m, W1 0 m H4) ∧ ∀ j k H, W1 j k H →
      (J1.stop j H ∧ Nx H) ∨ (J1.go j H ∧ ∃ Nx1 : Hp → Prop, (∀ H', Nx1 H' → ∃ k', k' < k ∧ W1 (j + 1) k' H') ∧ ∀ x H', J1.yld j H x H' → g1 x (wipe σ2 vs1) H' fun σ3 H5 => wipe σ3 vs1 = wipe σ2 vs1 ∧
        tk σ3 H5 fun y H6 => tv σ3 H6 fun z H7 => ∃ kvs k, y = kV k ∧ H7 D = some (.dK kvs) ∧ kvs.length < sizeLine ∧ Nx1 (upd H7 D (.dK (putK kvs k z))))) := by
  have hHD : H D = none := hS.free hD
  refine ⟨fun i m H' => m = n - i ∧ i ≤ n ∧ Same H H' ∧ H' D = some (.dK (out i)), ⟨n, by simp, Nat.zero_le _, hS.upd' hD, by rw [upd_same, h0]⟩, ?_⟩
  rintro i m H' ⟨rfl, hi, s, d⟩
  by_cases hlt : i < n
  · refine .inr ⟨jo.go i H' hlt (hS0.trans s), fun H'' => Same H H'' ∧ H'' D = some (.dK (out (i + 1))), fun H'' p' => ⟨n - (i + 1), by omega, rfl, hlt, p'⟩, fun x H'' y => ?_⟩
    obtain ⟨s2, y⟩ := jo.yld i x H' H'' hlt (hS0.trans s) y
    exact hs i x H'' _ hlt (s.trans s2) y (s2 _ _ d) fun H4 s4 e => ⟨s4, e⟩
  · have e : i = n := by omega
    subst e
    exact .inl ⟨jo.stop H' (hS0.trans s), hd H' s d⟩
/-- its inner loop -/
theorem in2_it {J1 : It} {g1 : TG} {tk tv : TE} {vs1 : List Nat} {σ2 : L2.St} {H H0 H4 : Hp} {D : Addr} {Nx : Hp → Prop} {n : Nat} {Y : Nat → V → Hp → Prop} (jo : JOk J1 H0 n Y) (hS0 : Same H0 H) (hHD : H D = none) (hS : Same H H4) (out : Nat → List (Key × V)) (h0 : H4 D = some (.dK (out 0)))
    (hz : ∀ i, i ≤ n → (out i).length ≤ 1000000)
    (hs : ∀ i x H' (N1 : V → V → Hp → Prop), i < n → Same H H' → Y i x H' → (∀ y z k H7, Same H' H7 → y = kV k → out (i + 1) = putK (out i) k z → N1 y z H7) →
      g1 x (wipe σ2 vs1) H' fun σ3 H5 => wipe σ3 vs1 = wipe σ2 vs1 ∧ tk σ3 H5 fun y H6 => tv σ3 H6 fun z H7 => N1 y z H7)
    (hd : ∀ H', Same H H' → H' D = some (.dK (out n)) → Nx H') :
    ∃ W1 : Nat → Nat → Hp → Prop, (∃ m, W1 0 m H4) ∧ ∀ j k H, W1 j k H →
      (J1.stop j H ∧ Nx H) ∨ (J1.go j H ∧ ∃ Nx1 : Hp → Prop, (∀ H', Nx1 H' → ∃ k', k' < k ∧ W1 (j + 1) k' H') ∧ ∀ x H', J1.yld j H x H' → g1 x (wipe σ2 vs1) H' fun σ3 H5 => wipe σ3 vs1 = wipe σ2 vs1 ∧
        tk σ3 H5 fun y H6 => tv σ3 H6 fun z H7 => ∃ kvs k, y = kV k ∧ H7 D = some (.dK kvs) ∧ kvs.length < sizeLine ∧ Nx1 (upd H7 D (.dK (putK kvs k z)))) := by
  refine ⟨fun i m H' => m = n - i ∧ i ≤ n ∧ Same H H' ∧ H' D = some (.dK (out i)), ⟨n, by simp, Nat.zero_le _, hS, h0⟩, ?_⟩
  rintro i m H' ⟨rfl, hi, s, d⟩
  by_cases hlt : i < n
  · refine .inr ⟨jo.go i H' hlt (hS0.trans s), fun H'' => Same H H'' ∧ H'' D = some (.dK (out (i + 1))), fun H'' p' => ⟨n - (i + 1), by omega, rfl, hlt, p'⟩, fun x H'' y => ?_⟩
    obtain ⟨s2, y⟩ := jo.yld i x H' H'' hlt (hS0.trans s) y
    exact hs i x H'' _ hlt (s.trans s2) y fun y z k H7 s3 ek e => ⟨out i, k, ek, s3 _ _ (s2 _ _ d), szl (hz i hi), ((s.trans s2).trans s3).updN hHD, by rw [upd_same, e]⟩
  · have e : i = n := by omega
    subst e
    exact .inl ⟨jo.stop H' (hS0.trans s), hd H' s d⟩
end KW
end
section
set_option Elab.async false
set_option linter.all false
set_option maxRecDepth 100000
set_option maxHeartbeats 8000000
set_option pp.maxSteps 600
/-! Keeper.less. -/
namespace KW
open PySem PySem.Spec PyProof.Rows L2
section
variable {P : Program} {w : World} {K : PySem.W.Frag} {mg : Str → Option Value} {base : Heap}
abbrev nmLess : List Str := ["self", "place", "lots", "rest", "places", "found", "row", "moves", "number", "lot", "before"]
theorem scLess : FnScope nmLess ["self", "place"] (defScope s_Keeper_less) := ⟨rfl, rfl, rfl, by decide +kernel, rfl, by decide +kernel, by decide +kernel⟩
/-- a row comes into lots: what the search tells, and the lots behind it -/
structure Goes (f : Int) (n : Nat) (T : List (List Int)) (A B : List (List Nat)) (x : Nat) : Prop where
  ex : ∃ R th i pl rest j, bfsOf f n T A x = some (R, some (th, i)) ∧ KP.Path R x pl j ∧ pl = (th, i) :: rest ∧ (pl.map (·.1)).Nodup ∧ (∀ z, z ∈ pl → z.2 < A.length ∧ z.1 < n) ∧ B = KP.putLots A pl
/-- the lots without one of them -/
abbrev restOf (L : List (List Nat)) (x : Nat) : List (List Nat) := L.take x ++ L.drop (x + 1)
def spLess (K : PySem.W.Frag) : Sp := fun vs H Q E => ∃ (kp t : Addr) (v : V) (at_ : Nat) (ms : List (List (List Nat))) (f : Int) (wd n : Nat) (T : List (List Int)), vs = [.ref kp, v] ∧ IsKeep K H kp t at_ ms ∧ IsRows K H t f wd T ∧ TabC f wd n T ∧ at_ < ms.length ∧ (ms.getD at_ []).length ≤ 100 ∧ LotsOk n (ms.getD at_ []) ∧ ms.length ≤ 1000 ∧ RowV H v ∧
  (((∀ x : Nat, v = .int (x : Int) → ¬ x < (ms.getD at_ []).length) ∧ ∀ H' d, Same H H' → H d = none → H' d = some (.xd [("count", v)]) → E (.ref (He.ga K "BadCount")) (some d) H') ∨
   ∃ (x m : Nat) (Ks : Nat → List (List Nat)), v = .int (x : Int) ∧ x < (ms.getD at_ []).length ∧ m ≤ ((ms.getD at_ []).getD x []).length ∧ Ks 0 = restOf (ms.getD at_ []) x ∧ KP.Dis (Ks 0) ∧ (∀ i, i ≤ m → LotsOk n (Ks i) ∧ KP.Dis (Ks i) ∧ (Ks i).length = (Ks 0).length) ∧
    (∀ i r, i < m → ((ms.getD at_ []).getD x [])[i]? = some r → r < n ∧ Goes f n T (Ks i) (Ks (i + 1)) r) ∧
    ((∃ r R, ((ms.getD at_ []).getD x [])[m]? = some r ∧ r < n ∧ bfsOf f n T (Ks m) r = some (R, none) ∧ ∀ H' d q, Same H H' → H d = none → H q = none → H' d = some (.xd [("lot", .ref q)]) → H' q = some (.lst (nV (KP.srt (KP.keysR R)))) → E (.ref (He.ga K "TooMany")) (some d) H') ∨
     (m = ((ms.getD at_ []).getD x []).length ∧ ∀ H' q, SameBut [kp] H H' → KeepTo K H H' kp t at_ ms (at_ + 1) (ms.take (at_ + 1) ++ [(Ks m).map KP.srt]) → H q = none → H' q = some (.dK (movesD (KP.changed (Ks 0) ((Ks m).map KP.srt)))) → Q (.ref q) H')))
theorem paired_take {α β : Type} {R : α → β → Prop} : ∀ {xs : List α} {ys : List β}, Paired R xs ys → ∀ k, Paired R (xs.take k) (ys.take k)
  | _, _, .nil, k => by simp; exact .nil
  | _, _, .cons r t, 0 => .nil
  | _, _, .cons r t, k + 1 => .cons r (paired_take t k)
theorem paired_drop {α β : Type} {R : α → β → Prop} : ∀ {xs : List α} {ys : List β}, Paired R xs ys → ∀ k, Paired R (xs.drop k) (ys.drop k)
  | _, _, .nil, k => by simp; exact .nil
  | _, _, .cons r t, 0 => .cons r t
  | _, _, .cons r t, k + 1 => paired_drop t k
theorem lotsOk_nd {n : Nat} {L : List (List Nat)} (lo : LotsOk n L) : ∀ lot, lot ∈ L → lot.Nodup := fun lot h => by
  obtain ⟨i, hi⟩ := List.getElem?_of_mem h
  have := lo.nd i
  rw [List.getD_eq_getElem?_getD, hi] at this; exact this
theorem lotsOk_len {n : Nat} {L : List (List Nat)} (lo : LotsOk n L) : ∀ lot, lot ∈ L → lot.length ≤ n := fun lot h => by
  obtain ⟨i, hi⟩ := List.getElem?_of_mem h
  have := lo.len i
  rw [List.getD_eq_getElem?_getD, hi] at this; exact this
theorem seats_len {n : Nat} {L : List (List Nat)} (lo : LotsOk n L) (hn : ((KP.seats L).map (·.1)).Nodup) : (KP.seats L).length ≤ n := by
  have := KP.nodup_le n _ hn (fun r hr => by
    obtain ⟨z, hz, rfl⟩ := List.mem_map.mp hr
    exact lo.lt z.2 z.1 (KP.memL_iff.mp (KP.mem_seats.mp (show (z.1, z.2) ∈ KP.seats L from hz))))
  rw [List.length_map] at this; exact this
theorem seats_key {L : List (List Nat)} (hn : ((KP.seats L).map (·.1)).Nodup) {i j z : Nat} {lot : List Nat} (hi : L[i]? = some lot) (hj : lot[j]? = some z) : z ∉ (KP.seatsFrom 0 (L.take i) ++ (lot.take j).map fun r => (r, i)).map (·.1) := by
  have h1 : ((KP.seatsFrom 0 (L.take (i + 1))).map (·.1)).Nodup := hn.sublist ((seats_take L (i + 1)).map _)
  rw [seats_more hi, List.map_append] at h1
  have e : (lot.map fun r => (r, i)).map (·.1) = lot := by rw [List.map_map]; exact (List.map_congr_left fun _ _ => rfl).trans (List.map_id _)
  have e2 : ((lot.take j).map fun r => (r, i)).map (·.1) = lot.take j := by rw [List.map_map]; exact (List.map_congr_left fun _ _ => rfl).trans (List.map_id _)
  rw [e, List.nodup_append] at h1
  rw [List.map_append, e2]
  intro m
  rcases List.mem_append.mp m with m | m
  · exact h1.2.2 _ m _ (List.mem_of_getElem? hj) rfl
  · exact nd_takeN h1.2.1 hj m
theorem below_int {v : V} {b : Int} (h : belowV v b = true) : ∃ z : Nat, v = .int (z : Int) ∧ (z : Int) < b := by
  cases v <;> try cases h
  rename_i z
  have := of_decide_eq_true h
  exact ⟨z.toNat, by congr 1; omega, by omega⟩
theorem filt_more {α β : Type} (p : β → Bool) (g : α → β) {l : List α} {i : Nat} {z : α} (h : l[i]? = some z) : ((l.take (i + 1)).map g).filter p = if p (g z) = true then ((l.take i).map g).filter p ++ [g z] else ((l.take i).map g).filter p := by
  rw [take_map_more g h, List.filter_append]
  by_cases q : p (g z) = true
  · rw [if_pos q, List.filter_cons_of_pos q]; rfl
  · rw [if_neg q, List.filter_cons_of_neg q, List.filter_nil, List.append_nil]
theorem IsPl.butD {H H' : Hp} {p at_ az ak t d : Addr} {n : Nat} {ls : List Addr} {lots : List (List Nat)} {kvs : List (Key × V)} (h : IsPl K H p at_ az ak t n ls lots) (hd : H d = some (.dK kvs)) (sb : SameBut [d] H H') : IsPl K H' p at_ az ak t n ls lots := by
  obtain ⟨⟨dx, a⟩, b, c, e, g, nd⟩ := h
  have ne : ∀ q o, H q = some o → (∀ z, o ≠ .dK z) → H' q = some o := fun q o e hz => sb _ _ e (by
    have : q ≠ d := fun w => by rw [w, hd] at e; exact hz _ (Option.some.inj e).symm
    simpa using this)
  exact ⟨⟨dx, ne _ _ a fun _ => by simp⟩, ne _ _ b fun _ => by simp, ne _ _ c fun _ => by simp, ne _ _ e fun _ => by simp, paired_mono (fun _ _ q => ne _ _ q fun _ => by simp) g, nd⟩
theorem m_less (T : Txt2 P K mg) : MetX P w K mg base 10 (He.ga K "Keeper") "less" (spLess K) := by
  obtain ⟨fd, F⟩ := T.fn_Keeper_less
  refine mkMetX F T.c_Keeper T.m_Keeper_less (fun _ _ _ _ _ _ us hl => match us, hl with | [_, _], _ => rfl) scLess (fun vs H Q E h => ?_) fun cdv A outer s H vs Q E hr h => ?_
  · obtain ⟨kp, t, v, at_, ms, f, wd, n, T', rfl, _⟩ := h
    rfl
  · obtain ⟨kp, t, v, at_, ms, f, wd, n, T', rfl, hkeep, hrows, tc, hat, h100, lo, hm1000, hv, hc⟩ := h
    have hu65 := units65 hr
    have hu : A.units + 3 + 1 < cLine := by have := hr.un; have e : (A.deeper (envOfC "Keeper.less" (defScope s_Keeper_less) s.heap.objs.size (He.fAd K ("Keeper", some "less")) cdv)).units = A.units + 3 := rfl; omega
    have tk := takes_of (X := cxOf (L2.CX P w) P w K mg base nmLess "Keeper.less" (defScope s_Keeper_less) (He.fAd K ("Keeper", some "less")) cdv A outer s H E) (E := E) rfl rfl rfl rfl
    refine ⟨_, (pss_cons (ps_set (i := 2) scLess.nd rfl (Or.inl rfl) (C8.pe_mt0 (m_lots T) hr (by decide) (pv 0))) (pss_cons (ps_if (pt_not (pt_val (C8.pe_c (c_is_below T.toTxt) hr (by decide) (by rfl) (pa_cons (pv 1) (pa_cons (pe_callB call_len_seq (by rfl) T.f_len boot_len (pa_cons (pv 2) pa_nil)) pa_nil))))) (pss_one (ps_raise rfl tk (pmk_1 T.eCount.tx tx_BadCount T.eCount.no hr (pa_cons (pv 1) pa_nil)))) pss_nil) (pss_cons (ps_set (i := 3) scLess.nd rfl (Or.inl rfl) (pe_op op_cat (pe_slice sl_list (pv 2) po_none (po_some (pv 1))) (pe_slice sl_list (pv 2) (po_some (pe_op op_add (pv 1) pe_int)) po_none))) (pss_cons (ps_asg (pe_tup (pa_cons (C8.pe_mt (m_places T) hr (by decide) (pv 0) (pa_cons (pv 3) pa_nil)) (pa_cons (pe_dnewK) pa_nil))) (pg_tup rfl (pgs_cons (pg_name (i := 4) scLess.nd rfl (Or.inl rfl)) (pgs_cons (pg_name (i := 5) scLess.nd rfl (Or.inr rfl)) pgs_nil)))) (pss_cons (ps_for PassesOwn.leaving rfl (pi_list (pe_ix ix_list (pv 2) (pv 1) (fun _ _ => rfl))) (pg_name (i := 6) scLess.nd rfl (Or.inl rfl)) (pss_cons (ps_set (i := 7) scLess.nd rfl (Or.inl rfl) (C8.pe_mt (m_put T) hr (by decide) (pv 4) (pa_cons (pv 6) pa_nil))) (pss_one (ps_if (pt_cmpR op_isN (pv 7) pe_non (nomark _)) (pss_one (ps_raise rfl tk (pmk_1 T.eMany.tx tx_TooMany T.eMany.no hr (pa_cons (pe_callB (call_sortedDI rfl) (by rfl) T.f_sorted boot_sorted (pa_cons (pe_ix ix_tup (C8.pe_mt (m_reach T) hr (by decide) (pv 4) (pa_cons (pe_lst (pa_cons (pv 6) pa_nil)) pa_nil)) pe_int (fun _ _ => rfl)) pa_nil)) pa_nil)))) pss_nil)))) (pss_cons (ps_set (i := 10) scLess.nd rfl (Or.inr rfl) (pe_dc2 (own := [("number", 8), ("lot", 9), ("row", 6)]) (vs1 := [6]) (g := gTup K 2 (gCons (gName 8) (gCons (gName 9) gNil))) (g1 := gName 6) (wi1 := iList K (tVar 9)) rfl scLess.nd (pi_enum (by rfl) T.f_enumerate (pa_cons (pv 3) pa_nil)) (blkOk_by (N := nmLess) (sc := defScope s_Keeper_less) (by decide +kernel)) (by decide)
            (fun _ _ _ _ _ => pg_tup rfl (pgs_cons (pg_name (i := 8) scLess.nd rfl (Or.inl rfl)) (pgs_cons (pg_name (i := 9) scLess.nd rfl (Or.inl rfl)) pgs_nil))) (fun _ _ _ _ _ => pi_list (pv 9)) (fun _ _ _ _ _ => pg_name (i := 6) scLess.nd rfl (Or.inl rfl)) (fun _ _ _ _ _ => pv 6) (fun _ _ _ _ _ => pv 8))) (pss_cons (ps_for PassesOwn.leaving rfl (pi_enum (by rfl) T.f_enumerate (pa_cons (C8.pe_mt0 (m_told T) hr (by decide) (pv 4)) pa_nil)) (pg_tup rfl (pgs_cons (pg_name (i := 8) scLess.nd rfl (Or.inr rfl)) (pgs_cons (pg_name (i := 9) scLess.nd rfl (Or.inl rfl)) pgs_nil)))
          (pss_one (ps_expr (pe_bm PySem.F.plainAttrs_dict PySem.F.slot_dict_update PySem.F.type_dict_update mtd_update (pv 5) (pa_cons (pe_dc (own := [("row", 6)]) (g := gName 6) rfl scLess.nd (pi_list (pv 9)) (blkOk_by (N := nmLess) (sc := defScope s_Keeper_less) (by decide +kernel)) (fun _ _ _ _ _ => pg_name (i := 6) scLess.nd rfl (Or.inl rfl))
            (fun _ _ _ _ _ => pts_one (pt_cmpR op_ne (pe_dget1 hu (pv 10) (pv 6) ⟨rfl, rfl, rfl, rfl⟩) (pv 8) (nomark _))) (fun _ _ _ _ _ => pv 6) (fun _ _ _ _ _ => pv 8)) pa_nil))))) (pss_cons (ps_expr (C8.pe_mt (m_note T) hr (by decide) (pv 0) (pa_cons (C8.pe_mt0 (m_told T) hr (by decide) (pv 4)) pa_nil))) (pss_one (ps_ret (pe_dc (own := [("row", 6)]) (g := gName 6) (tt := tYes) rfl scLess.nd (pi_list (pe_callB (call_sortedDI rfl) (by rfl) T.f_sorted boot_sorted (pa_cons (pv 5) pa_nil))) (blkOk_by (N := nmLess) (sc := defScope s_Keeper_less) (by decide +kernel)) (fun _ _ _ _ _ => pg_name (i := 6) scLess.nd rfl (Or.inl rfl)) (fun _ _ _ _ _ => pts_nil) (fun _ _ _ _ _ => pv 6) (fun _ _ _ _ _ => pe_dget hu (pv 5) (pv 6) (fun _ _ => rfl))))))))))))), ?_⟩
    obtain ⟨dx, am, mas, hk, ham, hms⟩ := id hkeep
    generalize hlo : ms.getD at_ [] = L at h100 lo hc
    obtain ⟨dxt, r0, rs0, ht, hrr, hpr⟩ := id hrows
    have hn20 := tc.n5
    have hTn : T'.length = n := tc.tab.len
    refine ⟨_, rfl, kp, _, _, rfl, hk, rfl, kp, t, at_, ms, rfl, hkeep, hat, by rw [hlo]; omega, fun H1 q qs nl => ?_⟩
    rw [hlo] at nl
    have hql : qs.length = L.length := paired_len nl.lots
    refine ⟨_, rfl, _, rfl, q, _, rfl, .inl (SqL.of nl.at_), v, _, rfl, (hv.same nl.sm).thing, _, rfl, ?_⟩
    rw [List.length_map, hql]
    cases hb : belowV v (L.length : Int) with
    | false =>
      rcases hc with ⟨_, k⟩ | ⟨x, m, Ks, rfl, hx, _⟩
      · exact ite_t rfl ⟨_, rfl, v, rfl, fun d hd => k _ d (nl.sm.upd' hd) (nl.sm.free hd) upd_same⟩
      · exfalso
        have := of_decide_eq_false (show decide ((0 : Int) ≤ x ∧ (x : Int) < L.length) = false from hb)
        omega
    | true =>
      refine ite_f rfl ?_
      rcases hc with ⟨hbad, _⟩ | ⟨x, m, Ks, rfl, hx, hm, hK0, hdis0, hKs, hgo, hfin⟩
      · exfalso
        obtain ⟨z, rfl, hz⟩ := below_int hb
        exact hbad z rfl (by omega)
      · refine ⟨_, rfl, _, rfl, _, rfl, q, _, rfl, SqL.of nl.at_, fun p1 hp1 => ?_⟩
        have hq2 := Same.upd (o := .lst (cutV (rV qs) none (some (x : Int)))) hp1 _ _ nl.at_
        refine ⟨_, rfl, _, rfl, _, _, rfl, rfl, _, rfl, q, _, rfl, SqL.of hq2, fun p2 hp2 => ?_⟩
        have e1 : cutV (rV qs) none (some (x : Int)) = rV (qs.take x) := by rw [cut_take, ← List.map_take]
        have e2 : cutV (rV qs) (some ((x : Int) + 1)) none = rV (qs.drop (x + 1)) := by
          have := cut_drop (rV qs) (x + 1)
          rw [← List.map_drop] at this
          exact this
        rw [e2]
        rw [e1] at hp2 hq2 ⊢
        refine ⟨p1, p2, _, _, rfl, rfl, Same.upd hp2 _ _ upd_same, upd_same, ?_, fun p3 hp3 => ?_⟩
        · refine sz ?_
          rw [List.length_map, List.length_map, List.length_take, List.length_drop]; omega
        have e3 : rV (qs.take x) ++ rV (qs.drop (x + 1)) = rV (qs.take x ++ qs.drop (x + 1)) := (List.map_append ..).symm
        rw [e3] at *
        have sA : Same H1 (upd (upd (upd H1 p1 (.lst (rV (qs.take x)))) p2 (.lst (rV (qs.drop (x + 1))))) p3 (.lst (rV (qs.take x ++ qs.drop (x + 1))))) := ((Same.upd hp1).upd' hp2).upd' hp3
        have hp3A : (upd (upd (upd H1 p1 (.lst (rV (qs.take x)))) p2 (.lst (rV (qs.drop (x + 1))))) p3 (.lst (rV (qs.take x ++ qs.drop (x + 1))))) p3 = some (.lst (rV (qs.take x ++ qs.drop (x + 1)))) := upd_same
        generalize hHA : upd (upd (upd H1 p1 (.lst (rV (qs.take x)))) p2 (.lst (rV (qs.drop (x + 1))))) p3 (.lst (rV (qs.take x ++ qs.drop (x + 1)))) = HA at sA hp3A
        have s0A := nl.sm.trans sA
        have hrest : IsLots HA (qs.take x ++ qs.drop (x + 1)) (Ks 0) := by
          rw [hK0]
          exact paired_append (paired_take (nl.lots.same sA) x) (paired_drop (nl.lots.same sA) (x + 1))
        have hK0l : (Ks 0).length ≤ 100 := by rw [hK0, List.length_append, List.length_take, List.length_drop]; omega
        refine ⟨_, rfl, kp, _, _, rfl, s0A _ _ hk, rfl, _, rfl, kp, t, p3, at_, ms, Ks 0, f, wd, n, T', rfl, hkeep.same s0A, hrows.same s0A, hTn, by omega, ⟨_, hp3A, hrest⟩, hK0l, fun H4 p at2 az ak ls s4 hpl hpn hlsn dF hdF => ⟨sz (by simp), fun pt hpt => ?_⟩⟩
        refine ⟨pt, _, rfl, .inl (.inl upd_same), rfl, _, _, rfl, _, _, rfl, rfl, ?_⟩
        have sAB : Same HA (upd (upd H4 dF (.dK [])) pt (.tup [.ref p, .ref dF])) := (s4.upd' hdF).upd' hpt
        have hplB : IsPl K (upd (upd H4 dF (.dK [])) pt (.tup [.ref p, .ref dF])) p at2 az ak t n ls (Ks 0) := hpl.same ((Same.upd hdF).upd' hpt)
        have hFB : (upd (upd H4 dF (.dK [])) pt (.tup [.ref p, .ref dF])) dF = some (.dK []) := Same.upd hpt _ _ upd_same
        have hFA : HA dF = none := s4.free hdF
        generalize hB : upd (upd H4 dF (.dK [])) pt (.tup [.ref p, .ref dF]) = B at sAB hplB hFB
        have s0B := s0A.trans sAB
        have s1B := sA.trans sAB
        obtain ⟨l, hl, hll⟩ := (nl.lots.same s1B).at_ hx
        have hnls : ∀ a o, HA a = some o → a ∉ ls := fun a o e hm => by rw [hlsn a hm] at e; cases e
        obtain ⟨lot0, _, hlA⟩ := paired_at (nl.lots.same sA) hl
        have hlls : l ∉ ls := hnls _ _ hlA
        refine ⟨_, rfl, _, rfl, q, _, _, .ref l, rfl, rfl, SqL.of (s1B _ _ nl.at_), atN (by rw [List.getElem?_map, hl]; rfl), l, rfl, ⟨_, SqL.of hll⟩, ?_⟩
        refine for_it (jo_list (SqL.of (sub_at (as := [l]) hll List.mem_cons_self))) (fun i σ H' => ∃ (v6 v7 : Option V), σ = [some (.ref kp), some (.int (x : Int)), some (.ref q), some (.ref p3), some (.ref p), some (.ref dF), v6, v7, none, none, none] ∧ i ≤ m ∧ SameBut ls B H' ∧ IsPl K H' p at2 az ak t n ls (Ks i))
          ⟨_, _, rfl, Nat.zero_le _, SameBut.of (Same.refl _), hplB⟩ (fun i σ H' _ ⟨_, _, _, _, sb, _⟩ => sub_same fun a ha => by rw [List.mem_singleton.mp ha, hll]; exact sb _ _ hll hlls) ?_ ?_
        · rintro i v1 σ H5 H6 hi ⟨v6, v7, rfl, him, sb5, hpl5⟩ s56 hv1
          obtain ⟨r, hr', rfl⟩ := at_map hv1
          have sb6 := sb5.trans (SameBut.of s56)
          have hpl6 := hpl5.same s56
          obtain ⟨lok, _, lkl⟩ := hKs i him
          obtain ⟨dxp6, hp6⟩ := hpl6.1
          have rows6 : IsRows K H6 t f wd T' := by
            refine ⟨dxt, r0, rs0, sb6 _ _ (s0B _ _ ht) (hnls _ _ (s0A _ _ ht)), sb6 _ _ (s0B _ _ hrr) (hnls _ _ (s0A _ _ hrr)), paired_mono (fun a b e => sb6 _ _ (s0B _ _ e) (hnls _ _ (s0A _ _ e))) hpr⟩
          have hl100 : (Ks i).length ≤ 100 := by omega
          by_cases hlt : i < m
          · obtain ⟨hrn, ⟨R, th, i', pl, rest, j, hbfs, hpath, hpl1, hnd, hbd, hnext⟩⟩ := hgo i r hlt hr'
            refine ⟨_, rfl, p, _, _, rfl, hp6, rfl, _, rfl, p, at2, az, ak, t, f, wd, n, r, T', ls, Ks i, rfl, hpl6, rows6, tc, lok, hrn, hl100, .inr ⟨R, th, i', pl, rest, j, hbfs, hpath, hpl1, hnd, hbd, fun H7 q7 sb7 hpl7 hq7 hqd => ?_⟩⟩
            rw [← hnext] at hpl7
            exact ⟨_, rfl, rfl, _, rfl, ite_f rfl ⟨_, _, rfl, hlt, sb6.trans sb7, hpl7⟩⟩
          · have him' : i = m := by omega
            subst him'
            rcases hfin with ⟨r', R, hr'', hrn, hbfs, k⟩ | ⟨hm', _⟩
            · rw [hr'] at hr''; cases hr''
              refine ⟨_, rfl, p, _, _, rfl, hp6, rfl, _, rfl, p, at2, az, ak, t, f, wd, n, r, T', ls, Ks i, rfl, hpl6, rows6, tc, lok, hrn, hl100, .inl ⟨R, hbfs, fun H7 s7 => ?_⟩⟩
              have hpl7 := hpl6.same s7
              have s07 : Same H H7 := SameBut.freshL s0B (fun l hl => s0A.free (hlsn l hl)) (sb6.trans (SameBut.of s7))
              refine ⟨_, rfl, rfl, _, rfl, ite_t rfl ⟨_, rfl, p, _, _, rfl, s7 _ _ hp6, rfl, _, rfl, sz (by simp), fun sl hsl => ?_⟩⟩
              have s7l := Same.upd (o := .lst [.int (r : Int)]) hsl
              refine ⟨p, at2, az, ak, t, sl, f, wd, n, r, T', ls, Ks i, R, none, rfl, hpl7.same s7l, (rows6.same s7).same s7l, tc, lok, upd_same, hrn, hl100, hbfs, fun H8 q8 d8 v8 s8 hq8 hre hrs hv8 hqt => ?_⟩
              obtain ⟨kvs, hk8, hkr⟩ := hre
              have hRl := hrs.len
              refine ⟨q8, _, 0, .ref d8, rfl, rfl, .inl (.inl hqt), at0, d8, kvs, (KP.keysR R).map fun (r : Nat) => (r : Int), rfl, .inl hk8, re_keys2 hkr, by rw [List.length_map]; unfold KP.keysR; rw [List.length_map]; omega, fun ys q9 hperm hs hq9 => ⟨_, rfl, fun d hd => ?_⟩⟩
              have s08 := (s07.trans s7l).trans s8
              refine k _ d q9 ((s08.upd' hq9).upd' hd) ((s08.upd' hq9).free hd) (s08.free hq9) upd_same ?_
              rw [Same.upd hd _ _ upd_same, nV_srt hperm hs]
            · exfalso
              have := (List.getElem?_eq_some_iff.mp hr').1
              omega
        · rintro σ H5 ⟨v6, v7, rfl, him, sb5, hpl5⟩
          rw [List.length_map] at him hpl5
          have hmm : m = (L.getD x []).length := by omega
          rw [← hmm] at hpl5
          rcases hfin with ⟨r', R, hr'', _⟩ | ⟨_, k⟩
          · exfalso
            have := (List.getElem?_eq_some_iff.mp hr'').1
            omega
          · have s05 : Same H H5 := SameBut.freshL s0B (fun l hl => s0A.free (hlsn l hl)) sb5
            have hrl : (qs.take x ++ qs.drop (x + 1)).length = (Ks 0).length := paired_len hrest
            generalize hrlg : qs.take x ++ qs.drop (x + 1) = rl at *
            have h3 : H5 p3 = some (.lst (rV rl)) := sb5 _ _ (sAB _ _ hp3A) (hnls _ _ hp3A)
            have hrest5 : IsLots H5 rl (Ks 0) := paired_mono (fun a b e => sb5 _ _ (sAB _ _ e) (hnls _ _ e)) hrest
            have hFls : dF ∉ ls := fun hmem => by
              obtain ⟨i0, hi0⟩ := List.getElem?_of_mem hmem
              have := LF.of hpl.2.2.2.2.1 i0 dF hi0
              rw [hdF] at this; cases this
            have hF5 : H5 dF = some (.dK []) := sb5 _ _ hFB hFls
            obtain ⟨lo0, hd0, _⟩ := hKs 0 (Nat.zero_le _)
            obtain ⟨lom, hdm, hlm⟩ := hKs m (Nat.le_refl _)
            have sn0 := KP.seats_nodup (lotsOk_nd lo0) hd0
            have sl0 := seats_len lo0 sn0
            refine ⟨_, rfl, p3, _, rfl, SqL.of h3, fun DB hDB => ?_⟩
            refine dc2_it (jo_enum (SqL.of h3)) (Same.refl _) (Same.refl _) hDB (fun i => movesD (KP.seatsFrom 0 ((Ks 0).take i))) rfl (fun i v1 H6 Nx hi s6 hv1 hD6 hN => ?_) fun H6 s6 h6 => ?_
            · obtain ⟨T2, x2, rfl, hT2, hx2⟩ := hv1
              obtain ⟨l', hl', rfl⟩ := at_map hx2
              obtain ⟨lot, hlot, hll'⟩ := paired_at hrest5 hl'
              refine ⟨T2, _, rfl, .inl (.inl hT2), rfl, _, _, rfl, _, _, rfl, rfl, ⟨rfl, ?_⟩⟩
              refine ⟨_, rfl, l', rfl, ⟨_, SqL.of (s6 _ _ hll')⟩, ?_⟩
              refine in2_it (jo_list (SqL.of hll')) (Same.refl _) hDB s6 (fun j => movesD (KP.seatsFrom 0 ((Ks 0).take i) ++ (lot.take j).map fun r => (r, i))) (by rw [List.take_zero, List.map_nil, List.append_nil]; exact hD6) (fun j hj => ?_) (fun j v2 H7 N1 hj s7 hv2 hN1 => ?_) fun H7 s7 h7 => ?_
              · have h1 := (seats_take (Ks 0) i).length_le
                have h2 := lotsOk_len lo0 lot (List.mem_of_getElem? hlot)
                unfold movesD
                rw [List.length_map, List.length_append, List.length_map, List.length_take]
                omega
              · obtain ⟨z, hz, rfl⟩ := at_map hv2
                refine ⟨rfl, _, rfl, _, rfl, hN1 _ _ (.inl (z : Int)) _ (Same.refl _) rfl ?_⟩
                have e := movesD_put (z := (z, i)) (seats_key sn0 hlot hz)
                rw [e, take_map_more (fun r => (r, i)) hz, List.append_assoc]
              · refine hN H7 s7 ?_
                rw [List.length_map, List.take_length] at h7
                rw [seats_more hlot]; exact h7
            · rw [List.length_map, hrl, List.take_length] at h6
              change H6 DB = some (.dK (movesD (KP.seats (Ks 0)))) at h6
              have s06 := s05.trans s6
              have hpl6 := hpl5.same s6
              obtain ⟨dxp6, hp6⟩ := hpl6.1
              have hF6 := s6 _ _ hF5
              have hm100 : (Ks m).length ≤ 100 := by omega
              have hm64 : ∀ lot, lot ∈ Ks m → lot.length < 64 := fun lot h => by have := lotsOk_len lom lot h; omega
              obtain ⟨Kd, hKd⟩ : ∃ Kd, Kd = (Ks m).map KP.srt := ⟨_, rfl⟩
              have lod : ∀ lot, lot ∈ Kd → lot.Nodup := fun lot h => by
                rw [hKd] at h
                obtain ⟨l0, h0, rfl⟩ := List.mem_map.mp h
                exact KP.srt_nodup (lotsOk_nd lom l0 h0)
              have lodl : ∀ lot, lot ∈ Kd → lot.length ≤ n := fun lot h => by
                rw [hKd] at h
                obtain ⟨l0, h0, rfl⟩ := List.mem_map.mp h
                rw [(KP.srt_perm l0).length_eq]; exact lotsOk_len lom l0 h0
              have disd : KP.Dis Kd := fun i j r h h' => by
                rw [hKd, KP.memL_srt] at h h'
                exact hdm i j r h h'
              have snd := KP.seats_nodup lod disd
              have fnd := fun i => foundOf_nodup (K0 := Ks 0) snd i
              have fle : ∀ i, (foundOf (Ks 0) Kd i).length ≤ 20 := fun i => by
                have := KP.nodup_le n _ (fnd i) (fun r hr => by
                  obtain ⟨z, hz, rfl⟩ := List.mem_map.mp hr
                  have h1 : (z.1, z.2) ∈ KP.seats Kd := (seats_take Kd i).subset (List.mem_filter.mp hz).1
                  have h2 := KP.mem_seats.mp h1
                  rw [hKd, KP.memL_srt] at h2
                  exact lom.lt _ _ (KP.memL_iff.mp h2))
                rw [List.length_map] at this; omega
              refine ⟨_, rfl, p, _, _, rfl, hp6, rfl, p, at2, az, ak, t, n, ls, Ks m, rfl, hpl6, hm100, hm64, fun H8 q8 qs8 nl8 => ?_⟩
              rw [← hKd] at nl8
              have hq8l : qs8.length = Kd.length := paired_len nl8.lots
              have hF8 := nl8.sm _ _ hF6
              have hDB8 := nl8.sm _ _ h6
              have hDBF : DB ≠ dF := (ne_of_none hF5 hDB).symm
              have hq8F : q8 ≠ dF := (ne_of_none hF6 nl8.new).symm
              refine ⟨q8, _, rfl, SqL.of nl8.at_, ?_⟩
              refine for_it (jo_enum (SqL.of (sub_at (as := [q8]) nl8.at_ List.mem_cons_self))) (fun i σ H' => ∃ (v8 v9 : Option V), σ = [some (.ref kp), some (.int (x : Int)), some (.ref q), some (.ref p3), some (.ref p), some (.ref dF), v6, v7, v8, v9, some (.ref DB)] ∧ SameBut [dF] H8 H' ∧ H' dF = some (.dK (movesD (foundOf (Ks 0) Kd i))))
                ⟨_, _, rfl, SameBut.of (Same.refl _), hF8⟩ (fun i σ H' _ ⟨_, _, _, sb, _⟩ => sub_same fun a ha => by rw [List.mem_singleton.mp ha, nl8.at_]; exact sb _ _ nl8.at_ (by simpa using hq8F)) ?_ ?_
              · rintro i v1 σ H9 H10 hi ⟨v8, v9, rfl, sb9, hF9⟩ s910 ⟨T2, x2, rfl, hT2, hx2⟩
                obtain ⟨l9, hl9, rfl⟩ := at_map hx2
                obtain ⟨lot, hlot, hll8⟩ := paired_at nl8.lots hl9
                have sb10 := sb9.trans (SameBut.of s910)
                have hl9F : l9 ≠ dF := fun w => by rw [w, hF8] at hll8; cases hll8
                have hll10 := sb10 _ _ hll8 (by simpa using hl9F)
                have hDB10 := sb10 _ _ hDB8 (by simpa using hDBF)
                have hF10 := s910 _ _ hF9
                have hlen := lodl lot (List.mem_of_getElem? hlot)
                refine ⟨T2, _, rfl, .inl (.inl hT2), rfl, _, _, rfl, _, _, rfl, rfl, ?_⟩
                refine ⟨_, rfl, .inr (.inr (.inl ⟨rfl, .inl ⟨_, hF10⟩⟩)), _, rfl, l9, rfl, ⟨_, SqL.of hll10⟩, fun DD hDD => ?_⟩
                refine dc_it (jo_list (SqL.of hll10)) (Same.refl _) (Same.refl _) hDD (fun j => movesD (((lot.take j).map fun r => (r, i)).filter fun z => decide (KP.seat (Ks 0) z.1 ≠ some z.2))) rfl (fun j hj => ?_) (fun j v2 H11 Nx Sk hj s11 hv2 k1 k0 => ?_) fun H11 s11 h11 => ?_
                · have h1 := List.length_filter_le (fun z : Nat × Nat => decide (KP.seat (Ks 0) z.1 ≠ some z.2)) ((lot.take j).map fun r => (r, i))
                  rw [List.length_map, List.length_take] at h1
                  unfold movesD
                  rw [List.length_map]; omega
                · obtain ⟨z, hz, rfl⟩ := at_map hv2
                  have hDB11 := s11 _ _ hDB10
                  have hg : DGet H11 DB (.int (z : Int)) ((KP.seat (Ks 0) z).map fun i => V.int (i : Int)) := (movesD_val (KP.seats (Ks 0)) z) ▸ DGet.k (k := .inl (z : Int)) hDB11
                  have hnk : z ∉ ((((lot.take j).map fun r => (r, i)).filter fun z => decide (KP.seat (Ks 0) z.1 ≠ some z.2)).map (·.1)) := fun mm => by
                    obtain ⟨y, hy, e⟩ := List.mem_map.mp mm
                    obtain ⟨u, hu2, rfl⟩ := List.mem_map.mp (List.mem_filter.mp hy).1
                    subst e
                    exact nd_takeN (lod lot (List.mem_of_getElem? hlot)) hz hu2
                  have put := movesD_put (z := (z, i)) hnk
                  cases hs : KP.seat (Ks 0) z with
                  | none =>
                    rw [hs] at hg
                    refine ⟨rfl, _, rfl, DB, rfl, .inl ⟨_, .inl hDB11⟩, _, rfl, _, hg, _, rfl, rfl, _, rfl, ite_t rfl ⟨_, rfl, _, rfl, k1 _ _ (.inl (z : Int)) _ (Same.refl _) rfl ?_⟩⟩
                    rw [put, filt_more _ (fun r => (r, i)) hz, if_pos (decide_eq_true (by rw [hs]; simp))]
                  | some kk =>
                    rw [hs] at hg
                    by_cases hki : kk = i
                    · refine ⟨rfl, _, rfl, DB, rfl, .inl ⟨_, .inl hDB11⟩, _, rfl, _, hg, _, rfl, rfl, _, rfl, ite_f (nd_eq hki) (k0 _ (Same.refl _) ?_)⟩
                      rw [filt_more _ (fun r => (r, i)) hz, if_neg (by rw [hs, hki]; simp)]
                    · refine ⟨rfl, _, rfl, DB, rfl, .inl ⟨_, .inl hDB11⟩, _, rfl, _, hg, _, rfl, rfl, _, rfl, ite_t (nd_ne hki) ⟨_, rfl, _, rfl, k1 _ _ (.inl (z : Int)) _ (Same.refl _) rfl ?_⟩⟩
                      rw [put, filt_more _ (fun r => (r, i)) hz, if_pos (decide_eq_true (by rw [hs]; simp [hki]))]
                · rw [List.length_map, List.take_length] at h11
                  have hF11 := s11 _ _ hF10
                  have hF12 : mergeK (movesD (foundOf (Ks 0) Kd i)) (movesD ((lot.map fun r => (r, i)).filter fun z => decide (KP.seat (Ks 0) z.1 ≠ some z.2))) = movesD (foundOf (Ks 0) Kd (i + 1)) := by
                    have e : movesD (foundOf (Ks 0) Kd i) ++ movesD ((lot.map fun r => (r, i)).filter fun z => decide (KP.seat (Ks 0) z.1 ≠ some z.2)) = movesD (foundOf (Ks 0) Kd (i + 1)) := by
                      rw [foundOf_more hlot]; exact (List.map_append ..).symm
                    rw [mergeK_app (by rw [e, movesD_keys]; exact List.Pairwise.map _ (fun a b hab z => hab (inl_inj z)) (fnd (i + 1))), e]
                  refine ⟨dF, DD, _, _, rfl, rfl, ne_of_none hF10 hDD, hF11, h11, ?_, ?_⟩
                  · have h1 := List.length_filter_le (fun z : Nat × Nat => decide (KP.seat (Ks 0) z.1 ≠ some z.2)) (lot.map fun r => (r, i))
                    rw [List.length_map] at h1
                    have h2 := fle i
                    unfold movesD
                    rw [List.length_map, List.length_map]; omega
                  · rw [hF12]
                    exact ⟨_, _, rfl, (sb10.trans (SameBut.of s11)).upd (.inl List.mem_cons_self), upd_same⟩
              · rintro σ H9 ⟨v8, v9, rfl, sb9, hF9⟩
                rw [List.length_map, hq8l] at hF9
                have hFH : H dF = none := s0A.free hFA
                have s08 : Same H H8 := s06.trans nl8.sm
                have s09 : Same H H9 := SameBut.freshL (as := [dF]) s08 (fun l hl => by rw [List.mem_singleton.mp hl]; exact hFH) sb9
                have hpl9 := (hpl6.same nl8.sm).butD hF8 sb9
                obtain ⟨dxp9, hp9⟩ := hpl9.1
                have fn := fnd Kd.length
                have fl := fle Kd.length
                have hch := changed_eq (K0 := Ks 0) snd
                generalize hFl : foundOf (Ks 0) Kd Kd.length = Fl at hF9 fn fl hch
                refine ⟨_, rfl, kp, _, _, rfl, s09 _ _ hk, rfl, _, rfl, p, _, _, rfl, hp9, rfl, p, at2, az, ak, t, n, ls, Ks m, rfl, hpl9, hm100, hm64, fun H10 q10 qs10 nl10 => ?_⟩
                have s010 := s09.trans nl10.sm
                refine ⟨kp, t, q10, at_, ms, _, rfl, hkeep.same s010, ⟨qs10, nl10.at_, nl10.lots⟩, by rw [List.length_map]; exact hm100, fun lot hl => ?_, hm1000, fun H11 sb11 hk11 => ?_⟩
                · obtain ⟨l0, h0, rfl⟩ := List.mem_map.mp hl
                  rw [(KP.srt_perm l0).length_eq]; exact hm64 l0 h0
                · rw [map_srt2] at hk11
                  have hFk : dF ≠ kp := fun w => by rw [w, hk] at hFH; cases hFH
                  have hF11 := sb11 _ _ (nl10.sm _ _ hF9) (by simpa using hFk)
                  refine ⟨_, rfl, dF, _, (Fl.map (·.1)).map fun (r : Nat) => (r : Int), rfl, .inl hF11, movesD_keys2 Fl, by rw [List.length_map, List.length_map]; omega, fun ys q2 hperm hs hq2 => ?_⟩
                  rw [nats_le hperm hs]
                  refine ⟨q2, rfl, ⟨_, SqL.of upd_same⟩, fun DD hDD => ?_⟩
                  have sF := Same.upd (o := .lst (((KP.srt (Fl.map (·.1))).map fun (r : Nat) => (r : Int)).map V.int)) hq2
                  have hF12 := sF _ _ hF11
                  refine dc_it (jo_list (SqL.of upd_same)) (Same.refl _) (Same.refl _) hDD (fun i => ((KP.srt (Fl.map (·.1))).take i).map fun (m : Nat) => ((.inl (m : Int) : Key), V.int (((Fl.lookup m).getD 0 : Nat) : Int))) rfl (fun i _ => ?_) (fun i v H12 Nx Sk hi s12 hv k1 _ => ?_) fun H12 s12 h12 => ?_
                  · rw [List.length_map, List.length_take, (KP.srt_perm (Fl.map (·.1))).length_eq, List.length_map]; omega
                  · obtain ⟨z1, hz1, rfl⟩ := at_map hv
                    obtain ⟨mm, hm, rfl⟩ := get_map hz1
                    have hmem : mm ∈ Fl.map (·.1) := KP.mem_srt.mp (List.mem_of_getElem? hm)
                    have hval : valV (movesD Fl) (.inl (mm : Int)) = some (.int (((Fl.lookup mm).getD 0 : Nat) : Int)) := by
                      rw [movesD_val]
                      cases e : Fl.lookup mm with
                      | none => exact absurd hmem (KP.lookup_none.mp e)
                      | some i => rfl
                    refine ⟨rfl, _, rfl, _, rfl, _, rfl, dF, _, rfl, hval ▸ DGet.k (k := .inl (mm : Int)) (s12 _ _ hF12), k1 _ _ (.inl (mm : Int)) _ (Same.refl _) rfl ?_⟩
                    rw [take_map_more _ hm, putK_new _ (valV_none' fun mn => ?_)]
                    obtain ⟨y, hy, e⟩ := List.mem_map.mp mn
                    obtain ⟨u, hu2, rfl⟩ := List.mem_map.mp hy
                    rw [inl_inj e] at hu2
                    exact nd_takeN (KP.srt_nodup fn) hm hu2
                  · rw [List.length_map, List.length_map, List.take_length, ← hch, hKd] at h12
                    have S : SameBut [kp] H H12 := ((SameBut.of s010).trans sb11).trans (SameBut.of (sF.trans s12))
                    have hDDH : H DD = none := by
                      cases e : H DD with
                      | none => rfl
                      | some o =>
                        exfalso
                        by_cases hm : DD = kp
                        · obtain ⟨dx2, am2, mas2, hk2, _⟩ := hk11.1
                          have := sF _ _ hk2
                          rw [hm] at hDD
                          rw [hDD] at this; cases this
                        · have := sF _ _ (sb11 _ _ (s010 _ _ e) (by simpa using hm))
                          rw [hDD] at this; cases this
                    exact k H12 DD S ((hk11.pre s010).post (sF.trans s12)) hDDH h12
end
end KW
end
section
set_option Elab.async false
set_option linter.all false
set_option maxRecDepth 100000
set_option maxHeartbeats 8000000
set_option pp.maxSteps 300
/-! The law: draws. -/
namespace KW
open PySem PySem.Spec PyProof.Rows L2
section
variable {P : Program} {w : World} {K : PySem.W.Frag} {mg : Str → Option Value} {base : Heap}
/-- the source of digits, no more than B draws behind -/
def IsSrc (H : Hp) (a : Addr) (B : Nat) : Prop := ∃ g s c : Nat, H a = some (.lst [.int (g : Int), .int (s : Int), .int (c : Int)]) ∧ s < 2147483647 ∧ c ≤ B
theorem IsSrc.same {H H' : Hp} {a : Addr} {B : Nat} (e : Same H H') (h : IsSrc H a B) : IsSrc H' a B := let ⟨g, s, c, x, y⟩ := h; ⟨g, s, c, e _ _ x, y⟩
theorem IsSrc.mono {H : Hp} {a : Addr} {B C : Nat} (e : B ≤ C) (h : IsSrc H a B) : IsSrc H a C := let ⟨g, s, c, x, y, z⟩ := h; ⟨g, s, c, x, y, by omega⟩
abbrev nmDraw : List Str := ["_law_source_here", "_law_many", "_law_digit", "_law_mixed"]
theorem scDraw : FnScope nmDraw ["_law_source_here", "_law_many"] (defScope s_l_draw) := ⟨rfl, rfl, rfl, by decide +kernel, rfl, by decide +kernel, by decide +kernel⟩
def spDraw : Sp := fun vs H Q _ => ∃ (a : Addr) (m B : Nat), vs = [.ref a, .int (m : Int)] ∧ 1 ≤ m ∧ m ≤ 1000 ∧ IsSrc H a B ∧ B ≤ 100000 ∧ ∀ (H' : Hp) (d : Nat), SameBut [a] H H' → IsSrc H' a (B + 1) → d < m → Q (.int (d : Int)) H'
theorem c_draw (T : Txt2 P K mg) : C8.Cal P w K mg base 1 "_law_draw" spDraw [] := by
  obtain ⟨fd, F⟩ := T.fn_l_draw
  refine mkCal F T.g_l_draw (fun _ _ _ _ _ _ us hl => match us, hl with | [_, _], _ => rfl) scDraw (fun vs H Q E h => ?_) fun cdv A outer s H vs Q E hr h => ?_
  · obtain ⟨a, m, B, rfl, _⟩ := h
    rfl
  · obtain ⟨a, m, B, rfl, hm1, hm2, ⟨g, s0, c, ha, hs, hc⟩, hB, k⟩ := h
    refine ⟨_, (pss_cons (ps_asg (pe_op op_add (pe_ix ix_list (pv 0) pe_int (fun _ _ => rfl)) pe_int) (pg_sub (pv 0) pe_int set_list)) (pss_cons (ps_if (pt_cmpR op_gt (pe_ix ix_list (pv 0) pe_int (fun _ _ => rfl)) pe_int (nomark _))
          (pss_cons (ps_set (i := 2) scDraw.nd rfl (Or.inl rfl) (pe_op op_mod (pe_callTy call_int1 (by rfl) T.f_int (boot_T "int") (pa_cons (pe_ix ix_list (pv 0) pe_int (fun _ _ => rfl)) pa_nil)) (pv 1))) (pss_cons (ps_asg (pe_op op_fdivNN (pe_ix ix_list (pv 0) pe_int (fun _ _ => rfl)) (pv 1)) (pg_sub (pv 0) pe_int set_list)) (pss_one (ps_ret (pv 2))))) pss_nil) (pss_cons (ps_set (i := 3) scDraw.nd rfl (Or.inl rfl) (pe_op op_mod (pe_op op_pow (pe_op op_add (pe_ix ix_list (pv 0) pe_int (fun _ _ => rfl)) (pe_op op_mul pe_int (pe_ix ix_list (pv 0) pe_int (fun _ _ => rfl)))) pe_int) pe_int)) (pss_one (ps_ret (pe_op op_mod (pe_op op_mod (pe_op op_pow (pe_op op_add (pe_op op_add (pe_op op_mul (pv 3) pe_int) (pe_op op_mul (pe_op op_mul pe_int (pe_ix ix_list (pv 0) pe_int (fun _ _ => rfl))) (pe_ix ix_list (pv 0) pe_int (fun _ _ => rfl)))) pe_int) pe_int) pe_int) (pv 1))))))), ?_⟩
    have i2 : ∀ x y z : V, atI [x, y, z] 2 = some z := fun _ _ _ => rfl
    have i1 : ∀ x y z : V, atI [x, y, z] 1 = some y := fun _ _ _ => rfl
    refine ⟨_, rfl, a, _, 2, _, rfl, rfl, SqL.of ha, i2 _ _ _, _, _, rfl, rfl, ?_⟩
    refine ⟨_, rfl, a, _, _, 2, rfl, rfl, ha, rfl, ?_⟩
    have e0 : [V.int (g : Int), .int (s0 : Int), .int (c : Int)].set 2 (.int ((c : Int) + 1)) = [V.int (g : Int), .int (s0 : Int), .int ((c + 1 : Nat) : Int)] := rfl
    rw [e0]
    have ha1 : (upd H a (.lst [V.int (g : Int), .int (s0 : Int), .int ((c + 1 : Nat) : Int)])) a = some (.lst [V.int (g : Int), .int (s0 : Int), .int ((c + 1 : Nat) : Int)]) := upd_same
    have sb1 : SameBut [a] H (upd H a (.lst [V.int (g : Int), .int (s0 : Int), .int ((c + 1 : Nat) : Int)])) := (SameBut.of (Same.refl H)).upd (.inl List.mem_cons_self)
    generalize hH1 : upd H a (.lst [V.int (g : Int), .int (s0 : Int), .int ((c + 1 : Nat) : Int)]) = H1 at ha1 sb1
    refine ⟨_, rfl, a, _, 0, _, rfl, rfl, SqL.of ha1, at0, _, _, rfl, rfl, _, rfl, ?_⟩
    by_cases hg : 1 < g
    · refine ite_t (decide_eq_true (by omega)) ?_
      refine ⟨_, rfl, a, _, 0, _, rfl, rfl, SqL.of ha1, at0, .inl ⟨_, rfl, _, rfl, _, _, rfl, rfl, by omega, ?_⟩⟩
      refine ⟨_, rfl, a, _, 0, _, rfl, rfl, SqL.of ha1, at0, _, rfl, g, m, rfl, rfl, ⟨hm1, by omega⟩, _, rfl, a, _, 0, 0, rfl, rfl, ha1, rfl, _, rfl, ?_⟩
      have em : (g : Int) % (m : Int) = ((g % m : Nat) : Int) := by omega
      show Q (V.int ((g : Int) % (m : Int))) _
      rw [em]
      exact k _ (g % m) (sb1.upd (.inl List.mem_cons_self)) ⟨g / m, s0, c + 1, upd_same, hs, by omega⟩ (Nat.mod_lt _ (by omega))
    · refine ite_f (decide_eq_false (by omega)) ?_
      refine ⟨_, rfl, a, _, 1, _, rfl, rfl, SqL.of ha1, i1 _ _ _, _, rfl, a, _, 2, _, rfl, rfl, SqL.of ha1, i2 _ _ _, _, _, rfl, rfl, .inl (by decide), _, _, rfl, rfl, _, _, rfl, rfl, ⟨by decide, by decide, ?_⟩, _, _, rfl, rfl, (by show (0 : Int) < 2147483629; decide), ?_⟩
      · have : (2 : Nat) ^ 64 = 18446744073709551616 := by decide
        omega
      · have hM0 : 0 ≤ ((s0 : Int) + 7919 * ((c + 1 : Nat) : Int)) ^ (5 : Int).toNat % 2147483629 := Int.emod_nonneg _ (by decide)
        have hM1 : ((s0 : Int) + 7919 * ((c + 1 : Nat) : Int)) ^ (5 : Int).toNat % 2147483629 < 2147483629 := Int.emod_lt_of_pos _ (by decide)
        generalize ((s0 : Int) + 7919 * ((c + 1 : Nat) : Int)) ^ (5 : Int).toNat % 2147483629 = M at hM0 hM1
        have hcc : 0 ≤ 16807 * ((c + 1 : Nat) : Int) * ((c + 1 : Nat) : Int) ∧ 16807 * ((c + 1 : Nat) : Int) * ((c + 1 : Nat) : Int) ≤ 16807 * 100001 * 100001 := by
          have h1 : (0 : Int) ≤ ((c + 1 : Nat) : Int) := Int.natCast_nonneg _
          have h2 : ((c + 1 : Nat) : Int) ≤ 100001 := by omega
          constructor
          · exact Int.mul_nonneg (Int.mul_nonneg (by decide) h1) h1
          · exact Int.mul_le_mul (Int.mul_le_mul_of_nonneg_left h2 (by decide)) h2 h1 (by decide)
        refine ⟨_, rfl, _, _, rfl, rfl, .inr (by decide), _, rfl, a, _, 2, _, rfl, rfl, SqL.of ha1, i2 _ _ _, _, _, rfl, rfl, .inl (by decide), _, rfl, a, _, 2, _, rfl, rfl, SqL.of ha1, i2 _ _ _, _, _, rfl, rfl, .inr (by constructor <;> omega), _, _, rfl, rfl, _, _, rfl, rfl, _, _, rfl, rfl, ⟨by decide, by decide, ?_⟩, _, _, rfl, rfl, (by show (0 : Int) < 1000000007; decide), _, rfl, _, _, rfl, rfl, (by show (0 : Int) < m; omega), ?_⟩
        · generalize 16807 * ((c + 1 : Nat) : Int) * ((c + 1 : Nat) : Int) = Z at hcc
          have : (2 : Nat) ^ 64 = 18446744073709551616 := by decide
          omega
        · have key : ∀ W : Int, Q (V.int (W % (m : Int))) H1 := fun W => by
            have h1 : 0 ≤ W % (m : Int) := Int.emod_nonneg _ (by omega)
            have h2 : W % (m : Int) < m := Int.emod_lt_of_pos _ (by omega)
            have e : W % (m : Int) = (((W % (m : Int)).toNat : Nat) : Int) := by omega
            rw [e]
            exact k _ _ sb1 ⟨g, s0, c + 1, ha1, hs, by omega⟩ (by omega)
          exact key _
/-! ### source -/
abbrev nmSource : List Str := ["_law_script", "_law_great", "_law_seed", "_law_cell"]
theorem scSource : FnScope nmSource ["_law_script"] (defScope s_l_source) := ⟨rfl, rfl, rfl, by decide +kernel, rfl, by decide +kernel, by decide +kernel⟩
def spSource (K : PySem.W.Frag) : Sp := fun vs H Q _ => ∃ (a : Addr) (ns : List Int), vs = [.ref a] ∧ SqL K H a (iV ns) ∧ ∀ H' q, Same H H' → H q = none → IsSrc H' q 0 → Q (.ref q) H'
theorem c_source (T : Txt2 P K mg) : C8.Cal P w K mg base 1 "_law_source" (spSource K) [] := by
  obtain ⟨fd, F⟩ := T.fn_l_source
  refine mkCal F T.g_l_source (fun _ _ _ _ _ _ us hl => match us, hl with | [_], _ => rfl) scSource (fun vs H Q E h => ?_) fun cdv A outer s H vs Q E hr h => ?_
  · obtain ⟨a, ns, rfl, _⟩ := h
    rfl
  · obtain ⟨a, ns, rfl, ha, k⟩ := h
    refine ⟨_, (pss_cons (ps_asg (pe_tup (pa_cons (pe_int) (pa_cons (pe_int) pa_nil))) (pg_tup rfl (pgs_cons (pg_name (i := 1) scSource.nd rfl (Or.inl rfl)) (pgs_cons (pg_name (i := 2) scSource.nd rfl (Or.inl rfl)) pgs_nil)))) (pss_cons (ps_for PassesOwn.never rfl (pi_list (pv 0)) (pg_name (i := 3) scSource.nd rfl (Or.inl rfl)) (pss_cons (ps_if (PW.pt (pw_and (pt_cmpR op_eq (pv 1) pe_int (nomark _)) (pw_and1 (pt_cmpR op_ge (pv 3) (pe_op op_pow pe_int pe_int) (nomark _))))) (pss_one (ps_set (i := 1) scSource.nd rfl (Or.inl rfl) (pv 3))) pss_nil) (pss_one (ps_set (i := 2) scSource.nd rfl (Or.inl rfl) (pe_op op_mod (pe_callTy call_int1 (by rfl) T.f_int (boot_T "int") (pa_cons (pe_op op_add (pe_op op_add (pe_op op_mul (pv 2) pe_int) (pv 3)) pe_int) pa_nil)) pe_int))))) (pss_one (ps_ret (pe_lst (pa_cons (pv 1) (pa_cons (pv 2) (pa_cons (pe_int) pa_nil)))))))), ?_⟩
    refine ⟨sz (by simp), fun p hp => ?_⟩
    refine ⟨p, _, rfl, .inl (.inl upd_same), rfl, _, _, rfl, _, _, rfl, rfl, ?_⟩
    have s1 := Same.upd (o := .tup [V.int 0, .int 17]) hp
    refine ⟨_, rfl, a, rfl, ⟨_, s1.seq ha⟩, ?_⟩
    refine for_it (jo_list ha) (fun i σ H' => ∃ (g s0 : Nat) (v3 : Option V), σ = [some (.ref a), some (.int (g : Int)), some (.int (s0 : Int)), v3] ∧ Same H H' ∧ s0 < 2147483647) ⟨0, 17, none, rfl, s1, by decide⟩ (fun i σ H' _ ⟨_, _, _, _, h, _⟩ => h) ?_ ?_
    · rintro i v σ H1 H2 hi ⟨g, s0, v3, rfl, s2, hs⟩ s12 hv
      obtain ⟨z, hz, rfl⟩ := at_map hv
      have tail : ∀ g2 : Nat, ∀ W : Int, ∃ (g' s' : Nat) (v3 : Option V), [some (V.ref a), some (V.int (g2 : Int)), some (V.int (W % 2147483647)), some (V.int z)] = [some (.ref a), some (.int (g' : Int)), some (.int (s' : Int)), v3] ∧ Same H H2 ∧ s' < 2147483647 := fun g2 W => by
        have h1 : 0 ≤ W % 2147483647 := Int.emod_nonneg _ (by decide)
        have h2 : W % 2147483647 < 2147483647 := Int.emod_lt_of_pos _ (by decide)
        have e : W % 2147483647 = (((W % 2147483647).toNat : Nat) : Int) := by omega
        exact ⟨g2, (W % 2147483647).toNat, _, by rw [← e], s2.trans s12, by omega⟩
      refine ⟨_, rfl, rfl, _, rfl, ?_⟩
      by_cases hg : g = 0
      · refine ite_t (decide_eq_true (by rw [hg]; rfl)) ?_
        refine ⟨_, rfl, _, _, rfl, rfl, ⟨by decide, by decide, by decide⟩, _, _, rfl, rfl, _, rfl, ?_⟩
        by_cases hzz : (10 : Int) ^ (18 : Int).toNat ≤ z
        · refine ite_t (decide_eq_true hzz) ?_
          have hz0 : z = ((z.toNat : Nat) : Int) := by
            have : (0 : Int) ≤ (10 : Int) ^ (18 : Int).toNat := by decide
            omega
          refine ⟨_, rfl, _, rfl, _, _, rfl, rfl, .inr (by decide), _, rfl, _, _, rfl, rfl, _, _, rfl, rfl, .inl ⟨_, rfl, _, _, rfl, rfl, (by show (0 : Int) < 2147483647; decide), ?_⟩⟩
          have := tail z.toNat ((s0 : Int) * 31 + z + 7)
          rw [← hz0] at this
          exact this
        · refine ite_f (decide_eq_false hzz) ?_
          exact ⟨_, rfl, _, _, rfl, rfl, .inr (by decide), _, rfl, _, _, rfl, rfl, _, _, rfl, rfl, .inl ⟨_, rfl, _, _, rfl, rfl, (by show (0 : Int) < 2147483647; decide), tail g _⟩⟩
      · refine ite_f (decide_eq_false fun q => hg (by have := V.int.inj q; omega)) ?_
        exact ⟨_, rfl, _, _, rfl, rfl, .inr (by decide), _, rfl, _, _, rfl, rfl, _, _, rfl, rfl, .inl ⟨_, rfl, _, _, rfl, rfl, (by show (0 : Int) < 2147483647; decide), tail g _⟩⟩
    · rintro σ H1 ⟨g, s0, v3, rfl, s2, hs⟩
      exact ⟨_, rfl, _, rfl, sz (by simp), fun q hq => k _ q (s2.upd' hq) (s2.free hq) ⟨g, s0, 0, upd_same, hs, Nat.le_refl _⟩⟩
end
end KW
end
section
set_option Elab.async false
set_option linter.all false
set_option maxRecDepth 100000
set_option maxHeartbeats 8000000
set_option pp.maxSteps 300
/-! The law: pick, field, made, seats, changed. -/
namespace KW
open PySem PySem.Spec PyProof.Rows L2
section
variable {P : Program} {w : World} {K : PySem.W.Frag} {mg : Str → Option Value} {base : Heap}
abbrev nmPick : List Str := ["_law_source_here", "_law_things"]
theorem scPick : FnScope nmPick ["_law_source_here", "_law_things"] (defScope s_l_pick) := ⟨rfl, rfl, rfl, by decide +kernel, rfl, by decide +kernel, by decide +kernel⟩
def spPick : Sp := fun vs H Q _ => ∃ (a l : Addr) (B : Nat) (xs : List V), vs = [.ref a, .ref l] ∧ H l = some (.lst xs) ∧ l ≠ a ∧ xs ≠ [] ∧ xs.length ≤ 1000 ∧ IsSrc H a B ∧ B ≤ 100000 ∧ ∀ (H' : Hp) (i : Nat) (v : V), SameBut [a] H H' → IsSrc H' a (B + 1) → xs[i]? = some v → Q v H'
theorem c_pick (T : Txt2 P K mg) : C8.Cal P w K mg base 2 "_law_pick" spPick [] := by
  obtain ⟨fd, F⟩ := T.fn_l_pick
  refine mkCal F T.g_l_pick (fun _ _ _ _ _ _ us hl => match us, hl with | [_, _], _ => rfl) scPick (fun vs H Q E h => ?_) fun cdv A outer s H vs Q E hr h => ?_
  · obtain ⟨a, l, B, xs, rfl, _⟩ := h
    rfl
  · obtain ⟨a, l, B, xs, rfl, hl, hla, hne, h1000, hs, hB, k⟩ := h
    refine ⟨_, (pss_one (ps_ret (pe_ix ix_list (pv 1) (C8.pe_c (c_draw T) hr (by decide) (by rfl) (pa_cons (pv 0) (pa_cons (pe_callB call_len_seq (by rfl) T.f_len boot_len (pa_cons (pv 1) pa_nil)) pa_nil))) (fun _ _ => rfl)))), ?_⟩
    have hpos : 1 ≤ xs.length := by
      cases xs with
      | nil => exact absurd rfl hne
      | cons _ _ => simp
    refine ⟨_, rfl, _, rfl, _, rfl, l, _, rfl, .inl (SqL.of hl), a, xs.length, B, rfl, hpos, h1000, hs, hB, fun H1 d sb hs1 hd => ?_⟩
    refine ⟨l, _, _, xs[d], rfl, rfl, SqL.of (sb _ _ hl (by simpa using hla)), atN (List.getElem?_eq_getElem hd), k H1 d _ sb hs1 (List.getElem?_eq_getElem hd)⟩
theorem scFieldL : FnScope ["_law_source_here"] ["_law_source_here"] (defScope s_l_field) := ⟨rfl, rfl, rfl, by decide +kernel, rfl, by decide +kernel, by decide +kernel⟩
def spFieldL : Sp := fun vs H Q _ => ∃ (a : Addr) (B : Nat), vs = [.ref a] ∧ IsSrc H a B ∧ B ≤ 100000 ∧ ∀ (H' : Hp) (f : Int), SameBut [a] H H' → IsSrc H' a (B + 1) → isField f → Q (.int f) H'
theorem c_field (T : Txt2 P K mg) : C8.Cal P w K mg base 2 "_law_field" spFieldL [] := by
  obtain ⟨fd, F⟩ := T.fn_l_field
  refine mkCal F T.g_l_field (fun _ _ _ _ _ _ us hl => match us, hl with | [_], _ => rfl) scFieldL (fun vs H Q E h => ?_) fun cdv A outer s H vs Q E hr h => ?_
  · obtain ⟨a, B, rfl, _⟩ := h
    rfl
  · obtain ⟨a, B, rfl, hs, hB, k⟩ := h
    refine ⟨_, (pss_one (ps_ret (pe_ix ix_list (pe_lst (pa_cons (pe_int) (pa_cons (pe_int) (pa_cons (pe_int) (pa_cons (pe_int) (pa_cons (pe_int) (pa_cons (pe_int) (pa_cons (pe_int) (pa_cons (pe_int) (pa_cons (pe_int) (pa_cons (pe_int) pa_nil))))))))))) (C8.pe_c (c_draw T) hr (by decide) (by rfl) (pa_cons (pv 0) (pa_cons (pe_int) pa_nil))) (fun _ _ => rfl)))), ?_⟩
    refine ⟨sz (by simp), fun p hp => ?_⟩
    have hpa : p ≠ a := fun z => by obtain ⟨g, s, c, h, _⟩ := hs; rw [z, h] at hp; cases hp
    refine ⟨_, rfl, a, 10, B, rfl, by decide, by decide, hs.same (Same.upd hp), hB, fun H1 d sb hs1 hd => ?_⟩
    have hl : H1 p = some (.lst (iV [0, 0, 0, 2, 2, 3, 5, 7, 11, 13])) := sb _ _ upd_same (by simpa using hpa)
    have hd' : d < ([0, 0, 0, 2, 2, 3, 5, 7, 11, 13] : List Int).length := hd
    refine ⟨p, _, _, .int (([0, 0, 0, 2, 2, 3, 5, 7, 11, 13] : List Int).getD d 0), rfl, rfl, SqL.of hl, atIv hd', k H1 _ ((SameBut.of (Same.upd hp)).trans sb) hs1 ?_⟩
    have : ∀ d, d < 10 → isField (([0, 0, 0, 2, 2, 3, 5, 7, 11, 13] : List Int).getD d 0) := by unfold isField; decide
    exact this d hd
/-! ### seats -/
abbrev nmSeats : List Str := ["_law_lots", "_law_found", "_law_k", "_law_lot", "_law_row"]
theorem scSeats : FnScope nmSeats ["_law_lots"] (defScope s_l_seats) := ⟨rfl, rfl, rfl, by decide +kernel, rfl, by decide +kernel, by decide +kernel⟩
def spSeats (K : PySem.W.Frag) : Sp := fun vs H Q _ => ∃ (a : Addr) (L : List (List Nat)), vs = [.ref a] ∧ IsLL H a L ∧ ((KP.seats L).map (·.1)).Nodup ∧ (KP.seats L).length ≤ 1000 ∧ ∀ H' q, Same H H' → H q = none → H' q = some (.dK (movesD (KP.seats L))) → Q (.ref q) H'
theorem c_seats (T : Txt2 P K mg) : C8.Cal P w K mg base 1 "_law_seats" (spSeats K) [] := by
  obtain ⟨fd, F⟩ := T.fn_l_seats
  refine mkCal F T.g_l_seats (fun _ _ _ _ _ _ us hl => match us, hl with | [_], _ => rfl) scSeats (fun vs H Q E h => ?_) fun cdv A outer s H vs Q E hr h => ?_
  · obtain ⟨a, L, rfl, _⟩ := h
    rfl
  · obtain ⟨a, L, rfl, ⟨ls, ha, hls⟩, hnd, h1000, k⟩ := h
    have hu : A.units + 3 + 1 < cLine := by have := hr.un; have e : (A.deeper (envOfC "_law_seats" (defScope s_l_seats) s.heap.objs.size (He.fAd K ("_law_seats", none)) cdv)).units = A.units + 3 := rfl; omega
    refine ⟨_, (pss_cons (ps_set (i := 1) scSeats.nd rfl (Or.inl rfl) pe_dnewK) (pss_cons (ps_for PassesOwn.never rfl (pi_enum (by rfl) T.f_enumerate (pa_cons (pv 0) pa_nil)) (pg_tup rfl (pgs_cons (pg_name (i := 2) scSeats.nd rfl (Or.inl rfl)) (pgs_cons (pg_name (i := 3) scSeats.nd rfl (Or.inl rfl)) pgs_nil)))
          (pss_one (ps_for PassesOwn.never rfl (pi_list (pv 3)) (pg_name (i := 4) scSeats.nd rfl (Or.inl rfl)) (pss_one (ps_dput hu (pv 1) (pv 4) (pv 2) rfl))))) (pss_one (ps_ret (pv 1))))), ?_⟩
    have hlsl : ls.length = L.length := paired_len hls
    intro d hd
    refine ⟨_, rfl, a, _, rfl, SqL.of (Same.upd hd _ _ ha), ?_⟩
    refine for_it (jo_enum (SqL.of ha)) (fun i σ H' => ∃ v2 v3 v4, σ = [some (.ref a), some (.ref d), v2, v3, v4] ∧ Same H H' ∧ H' d = some (.dK (movesD (KP.seatsFrom 0 (L.take i))))) ⟨_, _, _, rfl, Same.upd hd, upd_same⟩ (fun i σ H' _ ⟨_, _, _, _, h, _⟩ => h) ?_ ?_
    · rintro i v σ H1 H2 hi ⟨v2, v3, v4, rfl, s1, hd1⟩ s12 ⟨T2, x2, rfl, hT2, hx2⟩
      obtain ⟨l, hl, rfl⟩ := at_map hx2
      obtain ⟨lot, hlot, hll⟩ := paired_at hls hl
      have s2 := s1.trans s12
      refine ⟨T2, _, rfl, .inl (.inl hT2), rfl, _, _, rfl, _, _, rfl, rfl, ?_⟩
      refine ⟨_, rfl, l, rfl, ⟨_, SqL.of (s2 _ _ hll)⟩, ?_⟩
      refine for_it (jo_list (SqL.of hll)) (fun j σ H' => ∃ v4, σ = [some (.ref a), some (.ref d), some (.int (i : Int)), some (.ref l), v4] ∧ Same H H' ∧ H' d = some (.dK (movesD (KP.seatsFrom 0 (L.take i) ++ (lot.take j).map fun r => (r, i)))))
        ⟨_, rfl, s2, by rw [List.take_zero, List.map_nil, List.append_nil]; exact s12 _ _ hd1⟩ (fun j σ H' _ ⟨_, _, h, _⟩ => h) ?_ ?_
      · rintro j v σ H3 H4 hj ⟨v4, rfl, s3, hd3⟩ s34 hv
        obtain ⟨z, hz, rfl⟩ := at_map hv
        have hsub : (KP.seatsFrom 0 (L.take i) ++ (lot.take j).map fun r => (r, i)).length ≤ 1000 := by
          have h1 : (KP.seatsFrom 0 (L.take (i + 1))).length ≤ 1000 := Nat.le_trans (seats_take L (i + 1)).length_le h1000
          rw [seats_more hlot, List.length_append, List.length_map] at h1
          rw [List.length_append, List.length_map, List.length_take]; omega
        refine ⟨_, rfl, _, rfl, _, rfl, d, _, rfl, .inl ⟨_, .inl (z : Int), s34 _ _ hd3, rfl, szl (by unfold movesD; rw [List.length_map]; omega), rfl⟩, ?_⟩
        refine ⟨_, rfl, (s3.trans s34).updN hd, ?_⟩
        have e := movesD_put (z := (z, i)) (seats_key hnd hlot hz)
        rw [upd_same, e, take_map_more (fun r => (r, i)) hz, List.append_assoc]
      · rintro σ H3 ⟨v4, rfl, s3, hd3⟩
        rw [List.length_map, List.take_length] at hd3
        exact ⟨_, _, _, rfl, s3, by rw [seats_more hlot]; exact hd3⟩
    · rintro σ H1 ⟨v2, v3, v4, rfl, s1, hd1⟩
      rw [List.length_map, hlsl, List.take_length] at hd1
      exact ⟨_, rfl, k _ d s1 hd hd1⟩
/-! ### changed -/
abbrev nmChanged : List Str := ["_law_before", "_law_behind", "_law_one", "_law_two", "_law_row"]
theorem scChanged : FnScope nmChanged ["_law_before", "_law_behind"] (defScope s_l_changed) := ⟨rfl, rfl, rfl, by decide +kernel, rfl, by decide +kernel, by decide +kernel⟩
def spChanged (K : PySem.W.Frag) : Sp := fun vs H Q _ => ∃ (a b : Addr) (L M : List (List Nat)), vs = [.ref a, .ref b] ∧ IsLL H a L ∧ IsLL H b M ∧ ((KP.seats L).map (·.1)).Nodup ∧ ((KP.seats M).map (·.1)).Nodup ∧ (KP.seats L).length ≤ 60 ∧ (KP.seats M).length ≤ 60 ∧
  ∀ H' q, Same H H' → H q = none → H' q = some (.dK (movesD (KP.changed L M))) → Q (.ref q) H'
theorem c_changed (T : Txt2 P K mg) : C8.Cal P w K mg base 2 "_law_changed" (spChanged K) [] := by
  obtain ⟨fd, F⟩ := T.fn_l_changed
  refine mkCal F T.g_l_changed (fun _ _ _ _ _ _ us hl => match us, hl with | [_, _], _ => rfl) scChanged (fun vs H Q E h => ?_) fun cdv A outer s H vs Q E hr h => ?_
  · obtain ⟨a, b, L, M, rfl, _⟩ := h
    rfl
  · obtain ⟨a, b, L, M, rfl, hL, hM, hLn, hMn, hL60, hM60, k⟩ := h
    have hu : A.units + 3 + 1 < cLine := by have := hr.un; have e : (A.deeper (envOfC "_law_changed" (defScope s_l_changed) s.heap.objs.size (He.fAd K ("_law_changed", none)) cdv)).units = A.units + 3 := rfl; omega
    refine ⟨_, (pss_cons (ps_asg (pe_tup (pa_cons (C8.pe_c (c_seats T) hr (by decide) (by rfl) (pa_cons (pv 0) pa_nil)) (pa_cons (C8.pe_c (c_seats T) hr (by decide) (by rfl) (pa_cons (pv 1) pa_nil)) pa_nil))) (pg_tup rfl (pgs_cons (pg_name (i := 2) scChanged.nd rfl (Or.inr rfl)) (pgs_cons (pg_name (i := 3) scChanged.nd rfl (Or.inr rfl)) pgs_nil)))) (pss_one (ps_ret (pe_callTy (call_dictP rfl) (by rfl) T.f_dict (boot_T "dict") (pa_cons (pe_lc (own := [("_law_row", 4)]) (g := gName 4) rfl scChanged.nd (pi_list (pe_callB (call_sortedDI rfl) (by rfl) T.f_sorted boot_sorted (pa_cons (pv 3) pa_nil))) (blkOk_by (N := nmChanged) (sc := defScope s_l_changed) (by decide +kernel)) (fun _ _ _ _ _ => pg_name (i := 4) scChanged.nd rfl (Or.inl rfl))
          (fun _ _ _ _ _ => pts_one (pt_cmpR op_ne (pe_dget2 hu (pv 2) (pv 4) (pe_un un_neg pe_int) ⟨rfl, rfl, rfl, rfl⟩) (pe_dget hu (pv 3) (pv 4) (fun _ _ => rfl)) (nomark _))) (fun _ _ _ _ _ => pe_tup (pa_cons (pv 4) (pa_cons (pe_dget hu (pv 3) (pv 4) (fun _ _ => rfl)) pa_nil)))) pa_nil))))), ?_⟩
    refine ⟨_, rfl, a, L, rfl, hL, hLn, by omega, fun H1 q1 s1 hq1 h1 => ⟨_, rfl, b, M, rfl, hM.same s1, hMn, by omega, fun H2 q2 s2 hq2 h2 => ⟨sz (by simp), fun pt hpt => ?_⟩⟩⟩
    refine ⟨pt, _, rfl, .inl (.inl upd_same), rfl, _, _, rfl, _, _, rfl, rfl, ?_⟩
    have sp := Same.upd (o := .tup [V.ref q1, .ref q2]) hpt
    have h13 := sp _ _ (s2 _ _ h1)
    have h23 := sp _ _ h2
    have s3 := (s1.trans s2).trans sp
    generalize hH3 : upd H2 pt (.tup [V.ref q1, .ref q2]) = H3 at h13 h23 s3
    have hkl : (KP.srt ((KP.seats M).map (·.1))).length ≤ 60 := by rw [(KP.srt_perm _).length_eq, List.length_map]; exact hM60
    refine ⟨_, rfl, q2, _, ((KP.seats M).map (·.1)).map fun (r : Nat) => (r : Int), rfl, .inl h23, movesD_keys2 _, by rw [List.length_map, List.length_map]; omega, fun ys q3 hperm hs hq3 => ?_⟩
    rw [nats_le hperm hs]
    refine ⟨q3, rfl, ⟨_, SqL.of upd_same⟩, fun D hD => ?_⟩
    have s34 := Same.upd (o := .lst (((KP.srt ((KP.seats M).map (·.1))).map fun (r : Nat) => (r : Int)).map V.int)) hq3
    refine lc_ex (jo_list (SqL.of upd_same)) (Same.refl _) (Same.refl _) hD (fun i xs G => ∃ ps, xs = rV ps ∧ Paired (fun p z => G p = some (.tup [.int ((z.1 : Nat) : Int), .int ((z.2 : Nat) : Int)])) ps ((((KP.srt ((KP.seats M).map (·.1))).take i).filter fun r => decide (KP.seat L r ≠ KP.seat M r)).map fun r => (r, (KP.seat M r).getD 0)))
      (fun i xs G G' sG ⟨ps, e1, e2⟩ => ⟨ps, e1, paired_mono (fun _ _ q => sG _ _ q) e2⟩) ⟨[], rfl, .nil⟩ (fun i xs G hi ⟨ps, e1, e2⟩ => ?_) (fun i v1 xs H4 Nx Sk hi s4 hv1 hD4 hpv kN kS => ?_) fun H4 xs s4 d4 hpv => ?_
    · have h1 := List.length_filter_le (fun r => decide (KP.seat L r ≠ KP.seat M r)) ((KP.srt ((KP.seats M).map (·.1))).take i)
      rw [List.length_take] at h1
      rw [e1, List.length_map, paired_len e2, List.length_map]; omega
    · obtain ⟨z1, hz1, rfl⟩ := at_map hv1
      obtain ⟨r, hr', rfl⟩ := get_map hz1
      obtain ⟨ps, rfl, hps⟩ := hpv
      have hmem := KP.mem_srt.mp (List.mem_of_getElem? hr')
      obtain ⟨kM, hkM⟩ : ∃ kM, KP.seat M r = some kM := by
        cases e : KP.seat M r with
        | none => exact absurd hmem (KP.lookup_none.mp e)
        | some z => exact ⟨z, rfl⟩
      have hg1 : DGet H4 q1 (.int (r : Int)) ((KP.seat L r).map fun i => V.int (i : Int)) := (movesD_val (KP.seats L) r) ▸ DGet.k (k := .inl (r : Int)) (s4 _ _ (s34 _ _ h13))
      have hg2 : DGet H4 q2 (.int (r : Int)) ((KP.seat M r).map fun i => V.int (i : Int)) := (movesD_val (KP.seats M) r) ▸ DGet.k (k := .inl (r : Int)) (s4 _ _ (s34 _ _ h23))
      rw [hkM] at hg2
      have yes : KP.seat L r ≠ KP.seat M r → ∀ a, H4 a = none → Nx (.ref a) (upd H4 a (.tup [.int (r : Int), .int (kM : Int)])) := fun hne a ha => by
        have haD : a ≠ D := fun w => by rw [w, hD4] at ha; cases ha
        refine kN _ _ (Same.upd ha) ⟨ps ++ [a], by rw [rV_snoc], ?_⟩
        rw [take_filter_more _ hr', if_pos (decide_eq_true hne), List.map_append]
        refine Paired.snoc (paired_mono (fun _ _ q => but_mono (Same.upd ha) _ _ q) hps) ?_
        show but D (upd H4 a (.tup [.int (r : Int), .int (kM : Int)])) a = some (.tup [.int (r : Int), .int (((KP.seat M r).getD 0 : Nat) : Int)])
        rw [hkM]
        exact but_at upd_same haD
      have no : KP.seat L r = KP.seat M r → Sk H4 := fun he => kS _ (Same.refl _) ⟨ps, rfl, by rw [take_filter_more _ hr', if_neg (by simp [he])]; exact hps⟩
      have isd1 : IsD H4 q1 := .inl ⟨_, .inl (s4 _ _ (s34 _ _ h13))⟩
      cases hs1 : KP.seat L r with
      | none =>
        rw [hs1] at hg1
        refine ⟨rfl, _, rfl, q1, rfl, isd1, _, rfl, _, rfl, _, hg1, _, rfl, _, rfl, q2, _, rfl, hg2, rfl, _, rfl, ite_t (by rw [decide_eq_false]; rfl; intro z; have := V.int.inj z; omega) ⟨_, rfl, _, rfl, _, rfl, q2, _, rfl, hg2, sz (by simp), yes (by rw [hs1, hkM]; simp)⟩⟩
      | some kL =>
        rw [hs1] at hg1
        by_cases hkk : kL = kM
        · exact ⟨rfl, _, rfl, q1, rfl, isd1, _, rfl, _, rfl, _, hg1, _, rfl, _, rfl, q2, _, rfl, hg2, rfl, _, rfl, ite_f (nd_eq hkk) (no (by rw [hs1, hkM, hkk]))⟩
        · exact ⟨rfl, _, rfl, q1, rfl, isd1, _, rfl, _, rfl, _, hg1, _, rfl, _, rfl, q2, _, rfl, hg2, rfl, _, rfl, ite_t (nd_ne hkk) ⟨_, rfl, _, rfl, _, rfl, q2, _, rfl, hg2, sz (by simp), yes (by rw [hs1, hkM]; simp [hkk])⟩⟩
    · obtain ⟨ps, rfl, hps⟩ := hpv
      rw [List.length_map, List.length_map, List.take_length] at hps
      change Paired _ ps (KP.changed L M) at hps
      have hcn : ((KP.changed L M).map (·.1)).Nodup := by
        have e : (KP.changed L M).map (·.1) = (KP.srt ((KP.seats M).map (·.1))).filter fun r => decide (KP.seat L r ≠ KP.seat M r) := by
          unfold KP.changed
          rw [List.map_map]
          exact (List.map_congr_left fun _ _ => rfl).trans (List.map_id _)
        rw [e]
        exact (KP.srt_nodup hMn).sublist List.filter_sublist
      have hpp : Paired (fun p (kv : Key × V) => SqT K H4 p [kV kv.1, kv.2]) ps (movesD (KP.changed L M)) := paired_mapR (fun z : Nat × Nat => ((Sum.inl (z.1 : Int) : Key), V.int (z.2 : Int))) (paired_mono (fun p z q => .inl (.inl (but_same _ _ q))) hps)
      refine ⟨D, ps, movesD (KP.changed L M), rfl, SqL.of d4, hpp, fun p hp => ?_⟩
      have emn : mergeK [] (movesD (KP.changed L M)) = movesD (KP.changed L M) := mergeK_nil (by rw [movesD_keys]; exact List.Pairwise.map _ (fun a b hab z => hab (inl_inj z)) hcn)
      rw [emn]
      have s04 := (s3.trans s34).trans s4
      exact k _ p (s04.upd' hp) (s04.free hp) upd_same
end
end KW
end
section
set_option Elab.async false
set_option linter.all false
set_option maxRecDepth 100000
set_option maxHeartbeats 8000000
set_option pp.maxSteps 300
/-! The law: rank. -/
namespace KW
open PySem PySem.Spec PyProof.Rows L2
section
variable {P : Program} {w : World} {K : PySem.W.Frag} {mg : Str → Option Value} {base : Heap}
abbrev nmRank : List Str := ["_law_rows_here", "_law_field_here", "_law_left", "_law_rank_here", "_law_width", "_law_place", "_law_heads", "_law_head", "_law_later", "_law_row", "_law_cleared", "_law_number", "_law_x", "_law_y"]
theorem scRank : FnScope nmRank ["_law_rows_here", "_law_field_here"] (defScope s_l_rank) := ⟨rfl, rfl, rfl, by decide +kernel, rfl, by decide +kernel, by decide +kernel⟩
def spRank : Sp := fun vs H Q _ => ∃ (a : Addr) (f : Int) (wd : Nat) (R : List (List Int)), vs = [.ref a, .int f] ∧ IsRaw H a R ∧ isField f ∧ (∀ l, l ∈ R → l.length = wd) ∧ wd ≤ 3 ∧ R.length ≤ 20 ∧ (∀ l, l ∈ R → ∀ y, y ∈ l → y.natAbs ≤ 2 ^ 8) ∧ ∀ H', Same H H' → Q (.int (KP.lawRank f R : Nat)) H'
theorem raw_at {H : Hp} {a : Addr} {T : List (List Int)} (h : IsRaw H a T) : At K H (.ref a) T := by
  obtain ⟨rs, x, y⟩ := h
  exact at_list (SqL.of x) (paired_mapL V.ref (paired_mono (fun p l e => at_ints (SqL.of e)) y))
/-- how far the law's rank is behind p places -/
def rkAt (f : Int) (R : List (List Int)) (p : Nat) : List (List Int) × Nat := (List.range p).foldl (KP.rankStep f) (R.map (KP.mdl f), 0)
theorem rkAt_succ (f : Int) (R : List (List Int)) (p : Nat) : rkAt f R (p + 1) = KP.rankStep f (rkAt f R p) p := by
  unfold rkAt
  rw [List.range_succ, List.foldl_append]; rfl
theorem erase_atG {α : Type} [BEq α] [LawfulBEq α] : ∀ {l : List α} {a : α}, a ∈ l → ∃ j, l[j]? = some a ∧ (∀ m : Nat, m < j → l[m]? ≠ some a) ∧ l.eraseIdx j = l.erase a
  | [], _, h => absurd h List.not_mem_nil
  | b :: l, a, h => by
    by_cases e : b = a
    · subst e
      exact ⟨0, rfl, fun m hm => absurd hm (Nat.not_lt_zero _), by simp⟩
    · rcases List.mem_cons.mp h with q | h
      · exact absurd q.symm e
      · obtain ⟨j, h1, h2, h3⟩ := erase_atG h
        refine ⟨j + 1, h1, fun m hm => ?_, ?_⟩
        · cases m with
          | zero => intro q; exact e (Option.some.inj q)
          | succ m => exact h2 m (by omega)
        · rw [List.eraseIdx_cons_succ, h3, List.erase_cons_tail (by simpa using e)]
theorem paired_erase {α β : Type} {R : α → β → Prop} : ∀ {xs : List α} {ys : List β}, Paired R xs ys → ∀ j, Paired R (xs.eraseIdx j) (ys.eraseIdx j)
  | _, _, .nil, j => by simp; exact .nil
  | _, _, .cons r t, 0 => t
  | _, _, .cons r t, j + 1 => .cons r (paired_erase t j)
theorem c_rank (T : Txt2 P K mg) : C8.Cal P w K mg base 1 "_law_rank" spRank [] := by
  obtain ⟨fd, F⟩ := T.fn_l_rank
  refine mkCal F T.g_l_rank (fun _ _ _ _ _ _ us hl => match us, hl with | [_, _], _ => rfl) scRank (fun vs H Q E h => ?_) fun cdv A outer s H vs Q E hr h => ?_
  · obtain ⟨a, f, wd, R, rfl, _⟩ := h
    rfl
  · obtain ⟨a, f, wd, R, rfl, hraw, hf, hw, hwd, hR20, hbig, k⟩ := h
    have hu := hr.units
    have hu65 := units65 hr
    refine ⟨_, (pss_cons (ps_setLc (i := 2) (te := tLc (iList K (tVar 9)) (gName 11) tYes _ [11]) (own := [("_law_row", 9)]) (g := gName 9) (tt := tYes) rfl scRank.nd rfl rfl rfl (pi_list (pv 0)) (blkOk_by (N := nmRank) (sc := defScope s_l_rank) (by decide +kernel)) (fun _ _ _ _ _ => pg_name (i := 9) scRank.nd rfl (Or.inl rfl)) (fun _ _ _ _ _ => pts_nil)
          (fun _ _ _ _ _ => pe_lc (own := [("_law_number", 11)]) (g := gName 11) (tt := tYes) rfl scRank.nd (pi_list (pv 9)) (blkOk_by (N := nmRank) (sc := relabS (e_scope (s_val (s_at (defBody s_l_rank) 0))) (defScope s_l_rank)) (by decide +kernel)) (fun _ _ _ _ _ => pg_name (i := 11) scRank.nd rfl (Or.inl rfl)) (fun _ _ _ _ _ => pts_nil)
            (fun _ _ _ _ _ => pe_ifExp (pt_cmpR op_gt (pv 1) pe_int (nomark _)) (pe_op op_mod (pe_callTy call_int1 (by rfl) T.f_int (boot_T "int") (pa_cons (pv 11) pa_nil)) (pv 1)) (pv 11)))) (pss_cons (ps_par (i := 3) (j := 4) rfl scRank.nd rfl rfl (by decide) rfl rfl (pa_cons (pe_int) (pa_cons (pe_ifExp (pt_cmpR (op_neD hu) (pv 2) (pe_lst pa_nil) (nomark _)) (pe_callB call_len_seq (by rfl) T.f_len boot_len (pa_cons (pe_ix ix_list (pv 2) pe_int (fun _ _ => rfl)) pa_nil)) pe_int) pa_nil)) (by kernel_rfl)) (pss_cons (ps_for PassesOwn.never rfl (pi_range1 (by rfl) T.f_range (pa_cons (pv 4) pa_nil)) (pg_name (i := 5) scRank.nd rfl (Or.inr rfl))
        (pss_cons (ps_setLc (i := 6) (tt := tTest (tOp rNe (tOp (rIxL K) (tVar 9) (tVar 5)) (tC (.int 0)))) (own := [("_law_row", 9)]) (g := gName 9) rfl scRank.nd rfl rfl rfl (pi_list (pv 2)) (blkOk_by (N := nmRank) (sc := defScope s_l_rank) (by decide +kernel)) (fun _ _ _ _ _ => pg_name (i := 9) scRank.nd rfl (Or.inl rfl))
              (fun _ _ _ _ _ => pts_one (pt_cmpR op_ne (pe_ix ix_list (pv 9) (pv 5) (fun _ _ => rfl)) pe_int (nomark _))) (fun _ _ _ _ _ => pv 9)) (pss_one (ps_if (pt_cmpR (op_neD hu) (pv 6) (pe_lst pa_nil) (nomark _))
            (pss_cons (ps_asg (pe_tup (pa_cons (pe_ix ix_list (pv 6) pe_int (fun _ _ => rfl)) (pa_cons (pe_op op_add (pv 3) pe_int) pa_nil))) (pg_tup rfl (pgs_cons (pg_name (i := 7) scRank.nd rfl (Or.inr rfl)) (pgs_cons (pg_name (i := 3) scRank.nd rfl (Or.inl rfl)) pgs_nil)))) (pss_cons (ps_expr (pe_bm PySem.F.plainAttrs_list PySem.F.slot_list_remove PySem.F.type_list_remove (mt_removeD hu65) (pv 2) (pa_cons (pv 7) pa_nil))) (pss_cons (ps_set (i := 8) scRank.nd rfl (Or.inl rfl) (pe_lst pa_nil)) (pss_cons (ps_for PassesOwn.never rfl (pi_list (pv 2)) (pg_name (i := 9) scRank.nd rfl (Or.inr rfl))
                (pss_cons (ps_setLc (i := 10) (te := tOp (rI0 fun i j => .int (i - j)) (tOp (rI CMul fun i j => .int (i * j)) (tOp (rIxL K) (tVar 7) (tVar 5)) (tVar 12)) (tOp (rI CMul fun i j => .int (i * j)) (tOp (rIxL K) (tVar 9) (tVar 5)) (tVar 13))) (own := [("_law_x", 12), ("_law_y", 13)]) (g := gTup K 2 (gCons (gName 12) (gCons (gName 13) gNil))) (tt := tYes) rfl scRank.nd rfl rfl rfl (pi_zip (by rfl) T.f_zip (pa_cons (pv 9) (pa_cons (pv 7) pa_nil))) (blkOk_by (N := nmRank) (sc := defScope s_l_rank) (by decide +kernel))
                      (fun _ _ _ _ _ => pg_tup rfl (pgs_cons (pg_name (i := 12) scRank.nd rfl (Or.inl rfl)) (pgs_cons (pg_name (i := 13) scRank.nd rfl (Or.inl rfl)) pgs_nil))) (fun _ _ _ _ _ => pts_nil) (fun _ _ _ _ _ => pe_op op_sub (pe_op op_mul (pe_ix ix_list (pv 7) (pv 5) (fun _ _ => rfl)) (pv 12)) (pe_op op_mul (pe_ix ix_list (pv 9) (pv 5) (fun _ _ => rfl)) (pv 13)))) (pss_one (ps_expr (pe_bm PySem.F.plainAttrs_list PySem.F.slot_list_append PySem.F.type_list_append mt_append (pv 8) (pa_cons (pe_ifExp (pt_cmpR op_gt (pv 1) pe_int (nomark _)) (pe_lc (own := [("_law_number", 11)]) (g := gName 11) (tt := tYes) rfl scRank.nd (pi_list (pv 10)) (blkOk_by (N := nmRank) (sc := defScope s_l_rank) (by decide +kernel)) (fun _ _ _ _ _ => pg_name (i := 11) scRank.nd rfl (Or.inl rfl)) (fun _ _ _ _ _ => pts_nil)
                      (fun _ _ _ _ _ => pe_op op_mod (pe_callTy call_int1 (by rfl) T.f_int (boot_T "int") (pa_cons (pv 11) pa_nil)) (pv 1))) (pv 10)) pa_nil)))))) (pss_one (ps_set (i := 2) scRank.nd rfl (Or.inl rfl) (pv 8))))))) pss_nil)))) (pss_one (ps_ret (pv 3)))))), ?_⟩
    obtain ⟨rs, ha, hrs⟩ := hraw
    have hrsl : rs.length = R.length := paired_len hrs
    refine ⟨_, rfl, a, rfl, ⟨_, SqL.of ha⟩, fun D hD => ?_⟩
    refine lc_ex (jo_list (SqL.of ha)) (Same.refl _) (Same.refl _) hD (fun i xs G => ∃ ps, xs = rV ps ∧ Paired (fun p l => G p = some (.lst (iV l))) ps ((R.take i).map (KP.mdl f))) (fun i xs G G' sG ⟨ps, e1, e2⟩ => ⟨ps, e1, paired_mono (fun _ _ z => sG _ _ z) e2⟩) ⟨[], rfl, .nil⟩
      (fun i xs G hi ⟨ps, e1, e2⟩ => by rw [e1, List.length_map, paired_len e2, List.length_map, List.length_take]; omega) (fun i v xs H2 Nx Sk hi s2 hv hD2 hpv kN _ => ?_) fun H2 xs s2 d2 hpv => ?_
    · obtain ⟨p, hpi, rfl⟩ := at_map hv
      obtain ⟨row, hrow, hpr⟩ := paired_at hrs hpi
      have hrw : row.length = wd := hw row (List.mem_of_getElem? hrow)
      have hpr2 := s2 _ _ hpr
      obtain ⟨ps, rfl, hps⟩ := hpv
      refine ⟨rfl, _, rfl, p, rfl, ⟨_, SqL.of hpr2⟩, fun D2 hD2' => ?_⟩
      refine lc_it (jo_list (SqL.of hpr2)) (Same.refl _) (Same.refl _) hD2' (fun i => iV ((row.take i).map fun x => if 0 < f then x % f else x)) rfl (fun i _ => by simp; omega) (fun i v2 H3 Nx2 Sk2 hi s3 hv2 kN2 kS2 => ?_) fun H3 s3 d3 => ?_
      · obtain ⟨z, hz, rfl⟩ := at_map hv2
        refine ⟨rfl, _, rfl, f, 0, rfl, rfl, _, rfl, ?_⟩
        by_cases hf0 : 0 < f
        · refine ite_t (decide_eq_true hf0) ⟨_, rfl, .inl ⟨z, rfl, _, rfl, z, f, rfl, rfl, hf0, kN2 _ _ (Same.refl _) ?_⟩⟩
          rw [take_map_more _ hz, if_pos hf0]
          exact iV_snoc _ _
        · refine ite_f (decide_eq_false hf0) ⟨_, rfl, kN2 _ _ (Same.refl _) ?_⟩
          rw [take_map_more _ hz, if_neg hf0]
          exact iV_snoc _ _
      · have hDD : D2 ≠ D := (ne_of_none hD2 hD2').symm
        refine kN _ _ s3 ⟨ps ++ [D2], by rw [rV_snoc], ?_⟩
        rw [take_map_more _ hrow]
        refine Paired.snoc (paired_mono (fun b _ z => but_mono s3 _ _ z) hps) (but_at ?_ hDD)
        rw [d3, List.length_map, List.take_length]
        congr 2
        unfold KP.mdl
        by_cases hf0 : 0 < f
        · simp [hf0]
        · simp [hf0]
    · obtain ⟨ps, rfl, hps⟩ := hpv
      rw [List.length_map, hrsl, List.take_length] at hps
      have hps2 := paired_mono (fun _ _ z => but_same _ _ z) hps
      have hDH : H D = none := hD
      have s02 := s2
      have hraw2 : IsRaw H2 D (R.map (KP.mdl f)) := ⟨ps, d2, hps2⟩
      refine ⟨_, rfl, Nat.zero_le _, fun e he => ?_⟩
      have s3 := Same.upd (o := .lst []) he
      have hraw3 := hraw2.same s3
      have hE : IsRaw (upd H2 e (.lst [])) e ([] : List (List Int)) := ⟨[], upd_same, .nil⟩
      generalize hH3 : upd H2 e (.lst []) = H3 at s3 hraw3 hE
      have s03 := s02.trans s3
      refine ⟨_, _, raw_at hraw3, raw_at hE, toD_shaped _, toD_shaped _, _, rfl, ?_⟩
      rw [PySem.W.Datum.eqv]
      by_cases hL : R.map (KP.mdl f) = []
      · have hRn : R = [] := List.map_eq_nil_iff.mp hL
        refine ite_f (by rw [decide_eq_true hL]; rfl) ⟨_, _, rfl, ?_⟩
        refine ⟨_, rfl, 0, rfl, by decide, by decide, ?_⟩
        refine for_it (H0 := fun _ => none) (jo_range 0 0) (fun i σ H' => σ = [some (.ref a), some (.int f), some (.ref D), some (.int 0), some (.int 0), none, none, none, none, none, none, none, none, none] ∧ Same H H') ⟨rfl, s03⟩ (fun _ _ _ _ _ _ _ e => by cases e) (fun i _ _ _ _ hi => absurd hi (Nat.not_lt_zero _)) ?_
        rintro σ H' ⟨rfl, s'⟩
        refine ⟨_, rfl, ?_⟩
        have e0 : KP.lawRank f R = 0 := by rw [hRn]; rfl
        have := k H' s'
        rw [e0] at this
        exact this
      · obtain ⟨r0, R0, hRc⟩ : ∃ r0 R0, R = r0 :: R0 := by
          cases R with
          | nil => exact absurd rfl hL
          | cons r0 R0 => exact ⟨r0, R0, rfl⟩
        have hwid : KP.wid (R.map (KP.mdl f)) = wd := by
          rw [hRc]
          show (KP.mdl f r0).length = wd
          rw [KP.mdl_len]; exact hw r0 (by rw [hRc]; exact List.mem_cons_self)
        obtain ⟨ps3, d3, hps3⟩ := hraw3
        obtain ⟨p0, hp0, hp0r⟩ := paired_at' hps3 (i := 0) (y := KP.mdl f r0) (by rw [hRc]; rfl)
        refine ite_t (by rw [decide_eq_false hL]; rfl) ?_
        refine ⟨_, rfl, D, _, ((0 : Nat) : Int), .ref p0, rfl, rfl, SqL.of d3, atN (by rw [List.getElem?_map, hp0]; rfl), p0, _, rfl, .inl (SqL.of hp0r), _, _, rfl, ?_⟩
        have el : (iV (KP.mdl f r0)).length = wd := by rw [List.length_map, KP.mdl_len]; exact hw r0 (by rw [hRc]; exact List.mem_cons_self)
        rw [el]
        refine ⟨_, rfl, _, rfl, by omega, by omega, ?_⟩
        have hwn : ((wd : Nat) : Int).toNat = wd := by simp
        rw [hwn]
        refine for_it (H0 := fun _ => none) (jo_range 0 wd) (fun i σ H' => ∃ (D : Addr) (v5 v6 v7 v8 v9 v10 : Option V), σ = [some (.ref a), some (.int f), some (.ref D), some (.int ((rkAt f R i).2 : Nat)), some (.int (wd : Int)), v5, v6, v7, v8, v9, v10, none, none, none] ∧ Same H H' ∧ H D = none ∧ IsRaw H' D (rkAt f R i).1 ∧
            (rkAt f R i).1.length ≤ 20 ∧ (∀ l, l ∈ (rkAt f R i).1 → l.length = wd) ∧ ∀ l, l ∈ (rkAt f R i).1 → ∀ y, y ∈ l → y.natAbs ≤ 2 ^ KP.bet i)
          ⟨D, _, _, _, _, _, _, rfl, s03, hDH, ⟨ps3, d3, hps3⟩, ?_, ?_, ?_⟩ (fun _ _ _ _ _ _ _ e => by cases e) ?_ ?_
        · show (R.map (KP.mdl f)).length ≤ 20
          rw [List.length_map]; exact hR20
        · intro l hl
          obtain ⟨l0, h0, rfl⟩ := List.mem_map.mp (show l ∈ R.map (KP.mdl f) from hl)
          rw [KP.mdl_len]; exact hw l0 h0
        · intro l hl y hy
          obtain ⟨l0, h0, rfl⟩ := List.mem_map.mp (show l ∈ R.map (KP.mdl f) from hl)
          show y.natAbs ≤ 2 ^ 8
          obtain ⟨hf0, hf13⟩ := field_bounds hf
          unfold KP.mdl at hy
          split at hy
          · rename_i hfp
            obtain ⟨z, hz, rfl⟩ := List.mem_map.mp hy
            have h1 := Int.emod_nonneg z (by omega : f ≠ 0)
            have h2 := Int.emod_lt_of_pos z hfp
            have : (2 : Nat) ^ 8 = 256 := by decide
            omega
          · exact hbig l0 h0 y hy
        · rintro i v σ H4 H5 hi ⟨D, v5, v6, v7, v8, v9, v10, rfl, s4, hDn, hraw4, hl20, hlw, hlb⟩ s45 rfl
          rw [Int.zero_add]
          have s5 := s4.trans s45
          have hraw5 := hraw4.same s45
          have hsucc := rkAt_succ f R i
          generalize hst : rkAt f R i = st at hraw5 hl20 hlw hlb hsucc
          obtain ⟨L, kk⟩ := st
          obtain ⟨ps5, d5, hps5⟩ := id hraw5
          have hpsl : ps5.length = L.length := paired_len hps5
          refine ⟨_, rfl, D, rfl, ⟨_, SqL.of d5⟩, fun Dh hDh => ?_⟩
          refine lc_ex (jo_list (SqL.of d5)) (Same.refl _) (Same.refl _) hDh (fun j xs G => ∃ hs, xs = rV hs ∧ Paired (fun p l => G p = some (.lst (iV l))) hs ((L.take j).filter fun row => decide (row.getD i 0 ≠ 0))) (fun i xs G G' sG ⟨ps, e1, e2⟩ => ⟨ps, e1, paired_mono (fun _ _ z => sG _ _ z) e2⟩) ⟨[], rfl, .nil⟩
            (fun j xs G hj ⟨ps, e1, e2⟩ => ?_) (fun j v1 xs H6 Nx Sk hj s6 hv1 hD6 hpv kN kS => ?_) fun H6 xs s6 d6 hpv => ?_
          · have := List.length_filter_le (fun row : List Int => decide (row.getD i 0 ≠ 0)) (L.take j)
            rw [List.length_take] at this
            rw [e1, List.length_map, paired_len e2]
            have : L.length ≤ 20 := hl20
            omega
          · obtain ⟨p, hpi, rfl⟩ := at_map hv1
            obtain ⟨row, hrow, hpr⟩ := paired_at hps5 hpi
            have hpr6 := s6 _ _ hpr
            have hrl : i < row.length := by rw [hlw row (List.mem_of_getElem? hrow)]; exact hi
            obtain ⟨hs, rfl, hhs⟩ := hpv
            refine ⟨rfl, _, rfl, _, rfl, p, _, _, .int (row.getD i 0), rfl, rfl, SqL.of hpr6, atIv hrl, rfl, _, rfl, ?_⟩
            have hpD : p ≠ Dh := ne_of_none hpr hDh
            by_cases h0 : row.getD i 0 = 0
            · refine ite_f (by rw [h0]; rfl) (kS _ (Same.refl _) ⟨hs, rfl, ?_⟩)
              rw [take_filter_more _ hrow, if_neg (by rw [h0]; simp)]; exact hhs
            · refine ite_t (by rw [decide_eq_false (fun q => h0 (V.int.inj q))]; rfl) ⟨_, rfl, kN _ _ (Same.refl _) ⟨hs ++ [p], by rw [rV_snoc], ?_⟩⟩
              rw [take_filter_more _ hrow, if_pos (decide_eq_true h0)]
              exact Paired.snoc hhs (but_at hpr6 hpD)
          · obtain ⟨hs, rfl, hhs⟩ := hpv
            rw [List.length_map, hpsl, List.take_length] at hhs
            have hhs6 := paired_mono (fun _ _ z => but_same _ _ z) hhs
            have hrawH : IsRaw H6 Dh (L.filter fun row => decide (row.getD i 0 ≠ 0)) := ⟨hs, d6, hhs6⟩
            have hraw6 := hraw5.same s6
            refine ⟨_, rfl, Nat.zero_le _, fun e2 he2 => ?_⟩
            have s7 := Same.upd (o := .lst []) he2
            have hE2 : IsRaw (upd H6 e2 (.lst [])) e2 ([] : List (List Int)) := ⟨[], upd_same, .nil⟩
            have hrawH7 := hrawH.same s7
            have hraw7 := hraw6.same s7
            generalize hH7 : upd H6 e2 (.lst []) = H7 at s7 hE2 hrawH7 hraw7
            have s07 := (s5.trans s6).trans s7
            refine ⟨_, _, raw_at hrawH7, raw_at hE2, toD_shaped _, toD_shaped _, _, rfl, ?_⟩
            rw [PySem.W.Datum.eqv]
            cases hfl : L.filter fun row => decide (row.getD i 0 ≠ 0) with
            | nil =>
              refine ite_f (by rw [decide_eq_true rfl]; rfl) ?_
              have hsame : rkAt f R (i + 1) = (L, kk) := by
                rw [hsucc]
                unfold KP.rankStep
                rw [hfl]
              refine ⟨D, _, _, _, _, _, _, by rw [hsame]; rfl, s07, hDn, by rw [hsame]; exact hraw7, by rw [hsame]; exact hl20, by rw [hsame]; exact hlw, ?_⟩
              rw [hsame]
              intro l hl y hy
              exact Nat.le_trans (hlb l hl y hy) (Nat.pow_le_pow_right (by decide) (KP.bet_mono (Nat.le_succ i)))
            | cons head tl =>
              refine ite_t (by rw [decide_eq_false (by simp)]; rfl) ?_
              rw [hfl] at hrawH7
              obtain ⟨hs', dh7, hhs7⟩ := hrawH7
              obtain ⟨h0, hh0, hh0r⟩ := paired_at' hhs7 (i := 0) (y := head) rfl
              have hmem : head ∈ L := (List.mem_filter.mp (show head ∈ L.filter (fun row => decide (row.getD i 0 ≠ 0)) by rw [hfl]; exact List.mem_cons_self)).1
              obtain ⟨j, je1, je2, je3⟩ := erase_atG hmem
              obtain ⟨ps7, d7, hps7⟩ := id hraw7
              refine ⟨_, rfl, Dh, _, ((0 : Nat) : Int), .ref h0, rfl, rfl, SqL.of dh7, atN (by rw [List.getElem?_map, hh0]; rfl), _, rfl, _, _, rfl, rfl, sz (by simp), fun pt hpt => ?_⟩
              refine ⟨pt, _, rfl, .inl (.inl upd_same), rfl, _, _, rfl, _, _, rfl, rfl, ?_⟩
              generalize hH8 : upd H7 pt _ = H8
              have s8 : Same H7 H8 := by rw [← hH8]; exact Same.upd hpt
              have hps8 := paired_mono (fun (p : Addr) (l : List Int) (e : H7 p = some (.lst (iV l))) => s8 _ _ e) hps7
              have hdp : DpAll K H8 (rV ps7) (L.map PySem.W.Datum.toD) := dpAll_of (paired_mapL V.ref (paired_mono (fun p l e => at_ints (SqL.of e)) hps8))
              refine ⟨_, rfl, .inl ⟨rfl, _, SqL.of (s8 _ _ d7)⟩, _, rfl, D, rV ps7, .ref h0, PySem.W.Datum.toD head, L.map PySem.W.Datum.toD, j, PySem.W.Datum.toD head, rfl, rfl, s8 _ _ d7, hdp, at_ints (SqL.of (s8 _ _ hh0r)), toD_shaped L, toD_shaped head, by rw [List.getElem?_map, je1]; rfl, by rw [PySem.W.Datum.eqv]; exact decide_eq_true rfl, fun m z' hm hz' => ?_, ?_⟩
              · obtain ⟨l', hl', rfl⟩ := get_map hz'
                rw [PySem.W.Datum.eqv]
                exact decide_eq_false fun q => je2 m hm (by rw [hl', q])
              · have e9 : (rV ps7).eraseIdx j = rV (ps7.eraseIdx j) := eraseIdx_mapG _ _ _
                rw [e9]
                have hrowD : ∀ (p : Addr) (l : List Int), l ∈ L → H8 p = some (.lst (iV l)) → p ≠ D := fun p l hl e w => by
                  rw [w, s8 _ _ d7] at e
                  have hne : l ≠ [] := fun q => by have := hlw l hl; rw [q] at this; simp at this; omega
                  exact iV_rV hne (HO.lst.inj (Option.some.inj e)).symm
                have hps9 : Paired (fun (p : Addr) (l : List Int) => (upd H8 D (.lst (rV (ps7.eraseIdx j)))) p = some (.lst (iV l))) (ps7.eraseIdx j) (L.erase head) := by
                  rw [← je3]
                  refine paired_of (paired_len (paired_erase hps8 j)) fun q p l h1 h2 => ?_
                  obtain ⟨l', h2', e⟩ := paired_at (paired_erase hps8 j) h1
                  rw [h2] at h2'; cases h2'
                  have hl : l ∈ L := List.mem_of_mem_erase (by rw [← je3]; exact List.mem_of_getElem? h2)
                  rw [upd_ne (hrowD p l hl e)]; exact e
                have hd9 : (upd H8 D (.lst (rV (ps7.eraseIdx j)))) D = some (.lst (rV (ps7.eraseIdx j))) := upd_same
                have hh9 : (upd H8 D (.lst (rV (ps7.eraseIdx j)))) h0 = some (.lst (iV head)) := by rw [upd_ne (hrowD h0 head hmem (s8 _ _ hh0r))]; exact s8 _ _ hh0r
                have s09 : Same H (upd H8 D (.lst (rV (ps7.eraseIdx j)))) := (s07.trans s8).updN hDn
                generalize hH9 : upd H8 D (.lst (rV (ps7.eraseIdx j))) = H9 at hps9 hd9 hh9 s09
                refine ⟨Nat.zero_le _, fun dl hdl => ?_⟩
                have s10 := Same.upd (o := .lst []) hdl
                have hdlE : (upd H9 dl (.lst [])) dl = some (.lst []) := upd_same
                have hdlH : H dl = none := s09.free hdl
                have hdlD : D ≠ dl := ne_of_none hd9 hdl
                have hdl0 : h0 ≠ dl := ne_of_none hh9 hdl
                have hdlr : ∀ (q : Nat) (p : Addr), (ps7.eraseIdx j)[q]? = some p → p ≠ dl := fun q p hq => by
                  obtain ⟨l, _, e⟩ := paired_at hps9 hq
                  exact ne_of_none e hdl
                generalize hH10 : upd H9 dl (.lst []) = H10 at s10 hdlE
                have hd10 := s10 _ _ hd9
                have hlenE : (ps7.eraseIdx j).length = (L.erase head).length := paired_len hps9
                have hhl : i < head.length := by rw [hlw head hmem]; exact hi
                have hi2 : i ≤ 2 := by omega
                have hb35 := bet_le hi2
                have hup := small64 (hlb head hmem _ (KP.getD_mem0 hhl)) (Nat.le_trans hb35 (by decide))
                have hLe : (L.erase head).length ≤ 20 := Nat.le_trans List.length_erase_le hl20
                refine ⟨_, rfl, D, rfl, ⟨_, SqL.of hd10⟩, ?_⟩
                refine for_it (jo_list (SqL.of (sub_at (as := [D]) hd10 List.mem_cons_self))) (fun q σ H' => ∃ (v9 v10 : Option V), σ = [some (.ref a), some (.int f), some (.ref D), some (.int ((kk : Int) + 1)), some (.int (wd : Int)), some (.int (i : Int)), some (.ref Dh), some (.ref h0), some (.ref dl), v9, v10, none, none, none] ∧ SameBut [dl] H10 H' ∧ IsRaw H' dl (((L.erase head).take q).map (KP.clr f i head)))
                  ⟨_, _, rfl, SameBut.of (Same.refl _), ⟨[], hdlE, .nil⟩⟩ (fun q σ H' _ ⟨_, _, _, sb, _⟩ => sub_same fun a ha => by rw [List.mem_singleton.mp ha, hd10]; exact sb _ _ hd10 (by simpa using hdlD)) ?_ ?_
                · rintro q v σ H11 H12 hq ⟨v9, v10, rfl, sb11, hraw11⟩ s1112 hv
                  obtain ⟨pq, hpq, rfl⟩ := at_map hv
                  obtain ⟨row, hrow, hpr9⟩ := paired_at hps9 hpq
                  have sb12 := sb11.trans (SameBut.of s1112)
                  have hpr12 := sb12 _ _ (s10 _ _ hpr9) (by simpa using hdlr q pq hpq)
                  have hh12 := sb12 _ _ (s10 _ _ hh9) (by simpa using hdl0)
                  have hrL : row ∈ L := List.mem_of_mem_erase (List.mem_of_getElem? hrow)
                  have hrl : i < row.length := by rw [hlw row hrL]; exact hi
                  have hdn := small64 (hlb row hrL _ (KP.getD_mem0 hrl)) (Nat.le_trans hb35 (by decide))
                  have hraw12 := hraw11.same s1112
                  have hrw := hlw row hrL
                  have hhw := hlw head hmem
                  refine ⟨_, rfl, _, rfl, pq, h0, _, _, rfl, SqL.of hpr12, SqL.of hh12, fun DC hDC => ?_⟩
                  obtain ⟨zw, hzw⟩ : ∃ zw, zw = List.zipWith (fun x y => head.getD i 0 * x - row.getD i 0 * y) row head := ⟨_, rfl⟩
                  have hzl : zw.length = wd := by rw [hzw, List.length_zipWith, hrw, hhw, Nat.min_self]
                  refine lc_it (jo_zip (SqL.of hpr12) (SqL.of hh12) (by rw [List.length_map, List.length_map, hrw, hhw])) (Same.refl _) (Same.refl _) hDC (fun z => iV (zw.take z)) rfl (fun z _ => by simp; omega) (fun z v2 H13 Nx Sk hz s13 y kN _ => ?_) fun H13 s13 h13 => ?_
                  · obtain ⟨T2, x2, y2, rfl, hT2, hx2, hy2⟩ := y
                    obtain ⟨x3, hx3, rfl⟩ := at_map hx2
                    obtain ⟨y3, hy3, rfl⟩ := at_map hy2
                    refine ⟨T2, _, rfl, .inl (.inl hT2), rfl, _, _, rfl, _, _, rfl, rfl, ⟨rfl, ?_⟩⟩
                    refine ⟨_, rfl, _, rfl, h0, _, _, .int (head.getD i 0), rfl, rfl, SqL.of (s13 _ _ hh12), atIv hhl, _, rfl, _, _, rfl, rfl, .inl hup, ?_⟩
                    refine ⟨_, rfl, _, rfl, pq, _, _, .int (row.getD i 0), rfl, rfl, SqL.of (s13 _ _ hpr12), atIv hrl, _, rfl, _, _, rfl, rfl, .inl hdn, _, _, rfl, rfl, kN _ _ (Same.refl _) ?_⟩
                    have e : zw[z]? = some (head.getD i 0 * x3 - row.getD i 0 * y3) := by rw [hzw, List.getElem?_zipWith, hx3, hy3]
                    rw [take_more e]
                    exact iV_snoc _ _
                  · rw [List.length_map, hrw, ← hzl, List.take_length] at h13
                    have sb13 := sb12.trans (SameBut.of s13)
                    obtain ⟨qs, hqs, hqsr⟩ := hraw12.same s13
                    have hqsl : qs.length ≤ 20 := by rw [paired_len hqsr, List.length_map, List.length_take]; omega
                    have fin : ∀ (H14 : Hp) (DM : Addr), Same H13 H14 → DM ≠ dl → H14 DM = some (.lst (iV (KP.clr f i head row))) → ∃ (v9 v10 : Option V), [some (V.ref a), some (.int f), some (.ref D), some (.int ((kk : Int) + 1)), some (.int (wd : Int)), some (.int (i : Int)), some (.ref Dh), some (.ref h0), some (.ref dl), some (.ref pq), some (.ref DC), none, none, none] = [some (.ref a), some (.int f), some (.ref D), some (.int ((kk : Int) + 1)), some (.int (wd : Int)), some (.int (i : Int)), some (.ref Dh), some (.ref h0), some (.ref dl), v9, v10, none, none, none] ∧ SameBut [dl] H10 (upd H14 dl (.lst (rV qs ++ [.ref DM]))) ∧ IsRaw (upd H14 dl (.lst (rV qs ++ [.ref DM]))) dl (((L.erase head).take (q + 1)).map (KP.clr f i head)) := fun H14 DM s14 hne hDM => by
                      refine ⟨_, _, rfl, (sb13.trans (SameBut.of s14)).upd (.inl List.mem_cons_self), qs ++ [DM], by rw [upd_same, rV_snoc], ?_⟩
                      rw [take_map_more _ hrow]
                      refine Paired.snoc (paired_of (paired_len hqsr) fun z p l h1 h2 => ?_) (by rw [upd_ne hne]; exact hDM)
                      obtain ⟨l', h2', e⟩ := paired_at hqsr h1
                      rw [h2] at h2'; cases h2'
                      obtain ⟨l0, hl0, rfl⟩ := get_map h2
                      have hl0L : l0 ∈ L := List.mem_of_mem_erase (List.mem_of_mem_take (List.mem_of_getElem? hl0))
                      have hne2 : p ≠ dl := fun w => by
                        rw [w, hqs] at e
                        have hcl := KP.clr_len (f := f) (p := i) hhw (hlw l0 hl0L)
                        refine iV_rV (l := KP.clr f i head l0) (fun z => ?_) (HO.lst.inj (Option.some.inj e)).symm
                        rw [z] at hcl; simp at hcl; omega
                      rw [upd_ne hne2]; exact s14 _ _ e
                    have hDCl : DC ≠ dl := fun w => by
                      obtain ⟨rs12, h12, _⟩ := hraw12
                      rw [w, h12] at hDC; cases hDC
                    have hszq : (rV qs).length < sizeLine := szl (by rw [List.length_map]; omega)
                    have hclr : KP.clr f i head row = KP.mdl f zw := by rw [hzw]; rfl
                    refine ⟨_, rfl, .inl ⟨rfl, _, SqL.of hqs⟩, _, rfl, f, 0, rfl, rfl, _, rfl, ?_⟩
                    by_cases hf0 : 0 < f
                    · refine ite_t (decide_eq_true hf0) ⟨_, rfl, DC, rfl, ⟨_, SqL.of h13⟩, fun DM hDM => ?_⟩
                      refine lc_it (jo_list (SqL.of h13)) (Same.refl _) (Same.refl _) hDM (fun z => iV ((zw.take z).map (· % f))) rfl (fun z _ => by simp; omega) (fun z v3 H14 Nx Sk hz s14 hv3 kN _ => ?_) fun H14 s14 h14 => ?_
                      · obtain ⟨z3, hz3, rfl⟩ := at_map hv3
                        refine ⟨rfl, _, rfl, .inl ⟨_, rfl, _, rfl, z3, f, rfl, rfl, hf0, kN _ _ (Same.refl _) ?_⟩⟩
                        rw [take_map_more _ hz3]
                        exact iV_snoc _ _
                      · rw [List.length_map, List.take_length] at h14
                        refine ⟨dl, _, _, rfl, rfl, s14 _ _ hqs, hszq, fin H14 DM s14 (ne_of_none hqs hDM).symm ?_⟩
                        rw [h14, hclr]
                        unfold KP.mdl
                        rw [if_pos hf0]
                    · refine ite_f (decide_eq_false hf0) ⟨_, rfl, dl, _, _, rfl, rfl, hqs, hszq, fin H13 DC (Same.refl _) hDCl ?_⟩
                      rw [h13, hclr]
                      unfold KP.mdl
                      rw [if_neg hf0]
                · rintro σ H11 ⟨v9, v10, rfl, sb11, hraw11⟩
                  rw [List.length_map, hlenE, List.take_length] at hraw11
                  have hst' : rkAt f R (i + 1) = ((L.erase head).map (KP.clr f i head), kk + 1) := by
                    rw [hsucc]
                    unfold KP.rankStep
                    rw [hfl]
                  have s11 : Same H H11 := SameBut.freshL (as := [dl]) (s09.trans s10) (fun l hl => by rw [List.mem_singleton.mp hl]; exact hdlH) sb11
                  refine ⟨_, rfl, dl, _, _, _, _, _, _, by rw [hst']; rfl, s11, hdlH, by rw [hst']; exact hraw11, by rw [hst']; show ((L.erase head).map (KP.clr f i head)).length ≤ 20; rw [List.length_map]; exact hLe, ?_, ?_⟩
                  · rw [hst']
                    intro l hl
                    obtain ⟨l0, h1, rfl⟩ := List.mem_map.mp hl
                    exact KP.clr_len (hlw head hmem) (hlw l0 (List.mem_of_mem_erase h1))
                  · rw [hst']
                    intro l hl y hy
                    obtain ⟨l0, h1, rfl⟩ := List.mem_map.mp hl
                    have hl0 := List.mem_of_mem_erase h1
                    have hl0w : i < l0.length := by rw [hlw l0 hl0]; exact hi
                    show y.natAbs ≤ 2 ^ (2 * KP.bet i + 1)
                    have hz : ∀ z, z ∈ List.zipWith (fun x y => head.getD i 0 * x - l0.getD i 0 * y) l0 head → z.natAbs ≤ 2 ^ (2 * KP.bet i + 1) := fun z hz => by
                      obtain ⟨x1, y1, hx1, hy1, rfl⟩ := mem_zw hz
                      exact KP.natAbs_lin (hlb head hmem _ (KP.getD_mem0 hhl)) (hlb l0 hl0 _ hx1) (hlb l0 hl0 _ (KP.getD_mem0 hl0w)) (hlb head hmem _ hy1)
                    unfold KP.clr KP.mdl at hy
                    split at hy
                    · rename_i hfp
                      obtain ⟨z, hz2, rfl⟩ := List.mem_map.mp hy
                      have h1 := Int.emod_nonneg z (by omega : f ≠ 0)
                      have h2 := Int.emod_lt_of_pos z hfp
                      obtain ⟨hf0, hf13⟩ := field_bounds hf
                      have h3 : (2 : Nat) ^ 8 ≤ 2 ^ (2 * KP.bet i + 1) := Nat.pow_le_pow_right (by decide) (by have := KP.bet_mono (Nat.zero_le i); have e : KP.bet 0 = 8 := rfl; omega)
                      have : (2 : Nat) ^ 8 = 256 := by decide
                      omega
                    · exact hz y hy
        · rintro σ H' ⟨D', v5, v6, v7, v8, v9, v10, rfl, s', _⟩
          refine ⟨_, rfl, ?_⟩
          have e0 : KP.lawRank f R = (rkAt f R wd).2 := by
            unfold KP.lawRank rkAt
            rw [hwid]
          have := k H' s'
          rw [e0] at this
          exact this
end
end KW
end
section
set_option Elab.async false
set_option linter.all false
set_option maxRecDepth 100000
set_option maxHeartbeats 8000000
set_option pp.maxSteps 300
/-! The law: made, rank_of. -/
namespace KW
open PySem PySem.Spec PyProof.Rows L2
section
variable {P : Program} {w : World} {K : PySem.W.Frag} {mg : Str → Option Value} {base : Heap}
def IsParts (H : Hp) (a : Addr) (f : Int) (R : List (List Int)) : Prop := ∃ ar, H a = some (.lst [.ref ar, .int f]) ∧ IsRaw H ar R
theorem IsParts.same {H H' : Hp} {a : Addr} {f : Int} {R : List (List Int)} (s : Same H H') (h : IsParts H a f R) : IsParts H' a f R := let ⟨ar, x, y⟩ := h; ⟨ar, s _ _ x, y.same s⟩
/-- what stands of the rows of the law -/
structure PartsOk (f : Int) (wd n : Nat) (R : List (List Int)) : Prop where
  fld : isField f
  wid : ∀ l, l ∈ R → l.length = wd
  wd3 : wd ≤ 3
  len : R.length = n
  n20 : n ≤ 20
  pos : 0 < n
  big : ∀ l, l ∈ R → ∀ y, y ∈ l → y.natAbs ≤ 2 ^ 8
theorem scMade : FnScope ["_law_parts"] ["_law_parts"] (defScope s_l_made) := ⟨rfl, rfl, rfl, by decide +kernel, rfl, by decide +kernel, by decide +kernel⟩
def spMade (K : PySem.W.Frag) : Sp := fun vs H Q _ => ∃ (a : Addr) (f : Int) (wd n : Nat) (R : List (List Int)), vs = [.ref a] ∧ IsParts H a f R ∧ PartsOk f wd n R ∧ ∀ H' t, Same H H' → H t = none → IsRows K H' t f wd (R.map (KP.mdl f)) → Q (.ref t) H'
theorem c_made (T : Txt2 P K mg) : C8.Cal P w K mg base 5 "_law_made" (spMade K) [] := by
  obtain ⟨fd, F⟩ := T.fn_l_made
  refine mkCal F T.g_l_made (fun _ _ _ _ _ _ us hl => match us, hl with | [_], _ => rfl) scMade (fun vs H Q E h => ?_) fun cdv A outer s H vs Q E hr h => ?_
  · obtain ⟨a, f, wd, n, R, rfl, _⟩ := h
    rfl
  · obtain ⟨a, f, wd, n, R, rfl, ⟨ar, ha, hraw⟩, ok, k⟩ := h
    refine ⟨_, (pss_one (ps_ret (C8.pe_mk (mk_Rows T) hr (by decide) (by rfl) (pa_cons (pe_ix ix_list (pv 0) pe_int (fun _ _ => rfl)) (pa_cons (pe_ix ix_list (pv 0) pe_int (fun _ _ => rfl)) pa_nil))))), ?_⟩
    refine ⟨_, rfl, a, _, 0, _, rfl, rfl, SqL.of ha, at0, _, rfl, a, _, ((1 : Nat) : Int), .int f, rfl, rfl, SqL.of ha, atN rfl, fun x dx hx hdx hne => ?_⟩
    have sG : Same H (upd (upd H dx (.own x)) x (.ins (He.ga K "Rows") dx [])) := (Same.upd hdx).trans (Same.upd (by rw [upd_ne hne.symm]; exact hx))
    refine ⟨x, dx, ar, f, wd, R, rfl, upd_same, hraw.same sG, ok.fld, ok.wid, by have := ok.wd3; omega, by have := ok.len; have := ok.pos; omega, by have := ok.len; have := ok.n20; omega, fun H' sb hr => ⟨rfl, ?_⟩⟩
    exact k H' x (same_made hx hdx sb) hx hr
abbrev nmRankOf : List Str := ["_law_parts", "_law_lot", "_law_row"]
theorem scRankOf : FnScope nmRankOf ["_law_parts", "_law_lot"] (defScope s_l_rank_of) := ⟨rfl, rfl, rfl, by decide +kernel, rfl, by decide +kernel, by decide +kernel⟩
def spRankOf : Sp := fun vs H Q _ => ∃ (a l : Addr) (f : Int) (wd n : Nat) (R : List (List Int)) (lot : List Nat), vs = [.ref a, .ref l] ∧ IsParts H a f R ∧ PartsOk f wd n R ∧ H l = some (.lst (nV lot)) ∧ (∀ r, r ∈ lot → r < n) ∧ lot.length ≤ 20 ∧ ∀ H', Same H H' → Q (.int (KP.rankOf f R lot : Nat)) H'
theorem c_rankOf (T : Txt2 P K mg) : C8.Cal P w K mg base 2 "_law_rank_of" spRankOf [] := by
  obtain ⟨fd, F⟩ := T.fn_l_rank_of
  refine mkCal F T.g_l_rank_of (fun _ _ _ _ _ _ us hl => match us, hl with | [_, _], _ => rfl) scRankOf (fun vs H Q E h => ?_) fun cdv A outer s H vs Q E hr h => ?_
  · obtain ⟨a, l, f, wd, n, R, lot, rfl, _⟩ := h
    rfl
  · obtain ⟨a, l, f, wd, n, R, lot, rfl, ⟨ar, ha, hraw⟩, ok, hl, hlt, h20, k⟩ := h
    refine ⟨_, (pss_one (ps_ret (C8.pe_c (c_rank T) hr (by decide) (by rfl) (pa_cons (pe_lc (te := tOp (rIxL K) (tOp (rIxL K) (tVar 0) (tC (.int 0))) (tVar 2)) (own := [("_law_row", 2)]) (g := gName 2) (tt := tYes) rfl scRankOf.nd (pi_list (pv 1)) (blkOk_by (N := nmRankOf) (sc := defScope s_l_rank_of) (by decide +kernel)) (fun _ _ _ _ _ => pg_name (i := 2) scRankOf.nd rfl (Or.inl rfl)) (fun _ _ _ _ _ => pts_nil)
        (fun _ _ _ _ _ => pe_ix ix_list (pe_ix ix_list (pv 0) pe_int (fun _ _ => rfl)) (pv 2) (fun _ _ => rfl))) (pa_cons (pe_ix ix_list (pv 0) pe_int (fun _ _ => rfl)) pa_nil))))), ?_⟩
    obtain ⟨rs, har, hrs⟩ := id hraw
    refine ⟨_, rfl, l, rfl, ⟨_, SqL.of hl⟩, fun D hD => ?_⟩
    refine lc_ex (jo_list (SqL.of hl)) (Same.refl _) (Same.refl _) hD (fun i xs G => ∃ ps, xs = rV ps ∧ Paired (fun p row => G p = some (.lst (iV row))) ps ((lot.take i).map fun r => R.getD r [])) (fun i xs G G' sG ⟨ps, e1, e2⟩ => ⟨ps, e1, paired_mono (fun _ _ z => sG _ _ z) e2⟩) ⟨[], rfl, .nil⟩
      (fun i xs G hi ⟨ps, e1, e2⟩ => by rw [e1, List.length_map, paired_len e2, List.length_map, List.length_take]; omega) (fun i v xs H2 Nx Sk hi s2 hv hD2 hpv kN _ => ?_) fun H2 xs s2 d2 hpv => ?_
    · obtain ⟨r, hr', rfl⟩ := at_map hv
      have hrn := hlt r (List.mem_of_getElem? hr')
      have hRl : r < R.length := by rw [ok.len]; exact hrn
      have eR : R[r]? = some (R.getD r []) := by rw [List.getD_eq_getElem?_getD, List.getElem?_eq_getElem hRl]; rfl
      obtain ⟨p, hp, hpr⟩ := paired_at' hrs eR
      obtain ⟨ps, rfl, hps⟩ := hpv
      refine ⟨rfl, _, rfl, a, _, 0, .ref ar, rfl, rfl, SqL.of (s2 _ _ ha), at0, _, rfl, ar, _, _, .ref p, rfl, rfl, SqL.of (s2 _ _ har), atN (by rw [List.getElem?_map, hp]; rfl), kN _ _ (Same.refl _) ⟨ps ++ [p], by rw [rV_snoc], ?_⟩⟩
      rw [take_map_more _ hr']
      exact Paired.snoc hps (but_at (s2 _ _ hpr) (ne_of_none hpr hD))
    · obtain ⟨ps, rfl, hps⟩ := hpv
      rw [List.length_map, List.take_length] at hps
      have mem : ∀ x, x ∈ lot.map (fun r => R.getD r []) → x ∈ R := fun x hx => by
        obtain ⟨r, hr2, rfl⟩ := List.mem_map.mp hx
        have hRl : r < R.length := by rw [ok.len]; exact hlt r hr2
        rw [List.getD_eq_getElem?_getD, List.getElem?_eq_getElem hRl]; exact List.getElem_mem _
      refine ⟨_, rfl, a, _, ((1 : Nat) : Int), .int f, rfl, rfl, SqL.of (s2 _ _ ha), atN rfl, D, f, wd, lot.map fun r => R.getD r [], rfl, ⟨ps, d2, paired_mono (fun _ _ z => but_same _ _ z) hps⟩, ok.fld, fun x hx => ok.wid x (mem x hx), ok.wd3, by rw [List.length_map]; exact h20, fun x hx => ok.big x (mem x hx), fun H' s' => k H' (s2.trans s')⟩
end
end KW
end
section
set_option Elab.async false
set_option linter.all false
set_option maxRecDepth 100000
set_option maxHeartbeats 8000000
set_option pp.maxSteps 300
/-! The law: all_lots. -/
namespace KW
open PySem PySem.Spec PyProof.Rows L2
section
variable {P : Program} {w : World} {K : PySem.W.Frag} {mg : Str → Option Value} {base : Heap}
abbrev nmAll : List Str := ["_law_parts", "_law_rows_here", "_law_count", "_law_k", "_law_found", "_law_row", "_law_later", "_law_lots", "_law_lot"]
theorem scAll : FnScope nmAll ["_law_parts", "_law_rows_here", "_law_count"] (defScope s_l_all_lots) := ⟨rfl, rfl, rfl, by decide +kernel, rfl, by decide +kernel, by decide +kernel⟩
/-- a list of lists of lots -/
def IsWays (H : Hp) (q : Addr) (W : List (List (List Nat))) : Prop := ∃ ws, H q = some (.lst (rV ws)) ∧ Paired (IsLL H) ws W
theorem IsWays.same {H H' : Hp} {q : Addr} {W : List (List (List Nat))} (s : Same H H') (h : IsWays H q W) : IsWays H' q W := let ⟨ws, a, b⟩ := h; ⟨ws, s _ _ a, paired_mono (fun _ _ z => z.same s) b⟩
/-- .. while the list itself grows -/
def WaysBut (H : Hp) (q : Addr) (W : List (List (List Nat))) : Prop := ∃ ws, H q = some (.lst (rV ws)) ∧ Paired (IsLL (but q H)) ws W
theorem WaysBut.same {H H' : Hp} {q : Addr} {W : List (List (List Nat))} (s : Same H H') (h : WaysBut H q W) : WaysBut H' q W := let ⟨ws, a, b⟩ := h; ⟨ws, s _ _ a, paired_mono (fun _ _ z => z.same (but_mono s)) b⟩
theorem WaysBut.ways {H : Hp} {q : Addr} {W : List (List (List Nat))} (h : WaysBut H q W) : IsWays H q W := let ⟨ws, a, b⟩ := h; ⟨ws, a, paired_mono (fun _ _ z => z.same but_same) b⟩
theorem WaysBut.more {H : Hp} {q w : Addr} {ws : List Addr} {W : List (List (List Nat))} {L : List (List Nat)} (h : Paired (IsLL (but q H)) ws W) (hw : IsLL (but q H) w L) : WaysBut (L2.upd H q (.lst (rV ws ++ [.ref w]))) q (W ++ [L]) := by
  refine ⟨ws ++ [w], by rw [upd_same, rV_snoc], ?_⟩
  rw [but_upd]
  exact Paired.snoc h hw
theorem waysRow_len (f : Int) (R : List (List Int)) (c r : Nat) : ∀ W : List (List (List Nat)), (KP.waysRow f R c W r).length ≤ c * W.length
  | [] => Nat.zero_le _
  | lots :: W => by
    have ih := waysRow_len f R c r W
    unfold KP.waysRow at ih ⊢
    rw [List.flatMap_cons, List.length_append, List.length_map, List.length_cons, Nat.mul_succ]
    have h1 := List.length_filter_le (fun k => decide (KP.rankOf f R (KP.srt (lots.getD k [] ++ [r])) = (KP.srt (lots.getD k [] ++ [r])).length)) (List.range c)
    rw [List.length_range] at h1
    omega
def spAll : Sp := fun vs H Q _ => ∃ (a l : Addr) (f : Int) (wd n c : Nat) (R : List (List Int)) (rows : List Nat), vs = [.ref a, .ref l, .int (c : Int)] ∧ IsParts H a f R ∧ PartsOk f wd n R ∧ H l = some (.lst (nV rows)) ∧ (∀ r, r ∈ rows → r < n) ∧ rows.length ≤ 6 ∧ c ≤ 4 ∧
  ∀ H' q, Same H H' → H q = none → IsWays (newH H H') q (KP.allLots f R rows c) → Q (.ref q) H'
theorem c_all (T : Txt2 P K mg) : C8.Cal P w K mg base 3 "_law_all_lots" spAll [] := by
  obtain ⟨fd, F⟩ := T.fn_l_all_lots
  refine mkCal F T.g_l_all_lots (fun _ _ _ _ _ _ us hl => match us, hl with | [_, _, _], _ => rfl) scAll (fun vs H Q E h => ?_) fun cdv A outer s H vs Q E hr h => ?_
  · obtain ⟨a, l, f, wd, n, c, R, rows, rfl, _⟩ := h
    rfl
  · obtain ⟨a, l, f, wd, n, c, R, rows, rfl, hparts, ok, hl, hlt, h6, hc, k⟩ := h
    refine ⟨_, (pss_cons (ps_set (i := 4) scAll.nd rfl (Or.inl rfl) (pe_lst (pa_cons (pe_lc (own := [("_law_k", 3)]) (g := gName 3) (tt := tYes) rfl scAll.nd (pi_range1 (by rfl) T.f_range (pa_cons (pv 2) pa_nil)) (blkOk_by (N := nmAll) (sc := defScope s_l_all_lots) (by decide +kernel)) (fun _ _ _ _ _ => pg_name (i := 3) scAll.nd rfl (Or.inl rfl)) (fun _ _ _ _ _ => pts_nil) (fun _ _ _ _ _ => pe_lst pa_nil)) pa_nil))) (pss_cons (ps_for PassesOwn.never rfl (pi_list (pv 1)) (pg_name (i := 5) scAll.nd rfl (Or.inl rfl)) (pss_cons (ps_set (i := 6) scAll.nd rfl (Or.inl rfl) (pe_lst pa_nil)) (pss_cons (ps_for PassesOwn.never rfl (pi_list (pv 4)) (pg_name (i := 7) scAll.nd rfl (Or.inl rfl)) (pss_one (ps_for PassesOwn.never rfl (pi_range1 (by rfl) T.f_range (pa_cons (pv 2) pa_nil)) (pg_name (i := 3) scAll.nd rfl (Or.inl rfl))
            (pss_cons (ps_set (i := 8) scAll.nd rfl (Or.inl rfl) (pe_callB cr_sorted (by rfl) T.f_sorted boot_sorted (pa_cons (pe_op op_cat (pe_ix ix_list (pv 7) (pv 3) (fun _ _ => rfl)) (pe_lst (pa_cons (pv 5) pa_nil))) pa_nil))) (pss_one (ps_if (pt_cmpR op_eq (C8.pe_c (c_rankOf T) hr (by decide) (by rfl) (pa_cons (pv 0) (pa_cons (pv 8) pa_nil))) (pe_callB call_len_seq (by rfl) T.f_len boot_len (pa_cons (pv 8) pa_nil)) (nomark _))
                  (pss_one (ps_expr (pe_bm PySem.F.plainAttrs_list PySem.F.slot_list_append PySem.F.type_list_append mt_append (pv 6) (pa_cons (pe_op op_cat (pe_op op_cat (pe_slice sl_list (pv 7) po_none (po_some (pv 3))) (pe_lst (pa_cons (pv 8) pa_nil))) (pe_slice sl_list (pv 7) (po_some (pe_op op_add (pv 3) pe_int)) po_none)) pa_nil)))) pss_nil)))))) (pss_one (ps_set (i := 4) scAll.nd rfl (Or.inl rfl) (pv 6)))))) (pss_one (ps_ret (pv 4))))), ?_⟩
    refine ⟨_, rfl, _, rfl, by omega, by omega, fun D hD => ?_⟩
    have hcn : (c : Int).toNat = c := by simp
    rw [hcn]
    refine lc_ex (H0 := fun _ => none) (jo_range 0 c) (fun _ _ e => by cases e) (Same.refl _) hD (fun i xs G => ∃ qs, xs = rV qs ∧ IsLots (newH H G) qs (List.replicate i []))
      (fun i xs G G' sG ⟨ls, e1, e2⟩ => ⟨ls, e1, e2.same (new_mono sG)⟩) ⟨[], rfl, .nil⟩
      (fun i xs G hi ⟨ls, e1, e2⟩ => by rw [e1, List.length_map, paired_len e2, List.length_replicate]; omega) (fun i v xs H3 Nx Sk hi s3 hv hD3 hpv kN _ => ?_) fun H3 xs s3 d3 hpv => ?_
    · obtain ⟨qs, rfl, hl1⟩ := hpv
      refine ⟨rfl, Nat.zero_le _, fun q hq => ?_⟩
      have hqD : q ≠ D := fun z => by rw [z, hD3] at hq; cases hq
      refine kN _ _ (Same.upd hq) ⟨qs ++ [q], by rw [rV_snoc], ?_⟩
      rw [List.replicate_succ']
      exact Paired.snoc (hl1.same (new_mono (but_mono (Same.upd hq)))) (new_at (s3.free hq) (but_at upd_same hqD))
    · obtain ⟨qs, rfl, hl1⟩ := hpv
      refine ⟨sz (by simp), fun q0 hq0 => ?_⟩
      have sq := Same.upd (o := .lst [V.ref D]) hq0
      have hw0 : IsWays (newH H (upd H3 q0 (.lst [.ref D]))) q0 [List.replicate c []] := ⟨[D], new_at (s3.free hq0) upd_same, .cons ⟨qs, new_at hD (sq _ _ d3), hl1.same (new_mono (but_same.trans sq))⟩ .nil⟩
      generalize hH4 : upd H3 q0 (.lst [V.ref D]) = H4 at sq hw0
      have s4 := s3.trans sq
      refine ⟨_, rfl, l, rfl, ⟨_, SqL.of (s4 _ _ hl)⟩, ?_⟩
      refine for_it (jo_list (SqL.of hl)) (fun i σ H' => ∃ (q : Addr) (v3 v5 v6 v7 v8 : Option V), σ = [some (.ref a), some (.ref l), some (.int (c : Int)), v3, some (.ref q), v5, v6, v7, v8] ∧ Same H H' ∧ H q = none ∧ IsWays (newH H H') q (KP.allLots f R (rows.take i) c) ∧
          (∀ W, W ∈ KP.allLots f R (rows.take i) c → W.length = c ∧ ∀ lot, lot ∈ W → (∀ r, r ∈ lot → r < n) ∧ lot.length ≤ i) ∧ (KP.allLots f R (rows.take i) c).length ≤ 4 ^ i)
        ⟨q0, _, _, _, _, _, rfl, s4, s3.free hq0, hw0, ?_, Nat.le_refl 1⟩ (fun i σ H' _ ⟨_, _, _, _, _, _, _, h, _⟩ => h) ?_ ?_
      · intro W hW
        have e : W = List.replicate c [] := List.mem_singleton.mp hW
        subst e
        exact ⟨List.length_replicate, fun lot h => by rw [List.eq_of_mem_replicate h]; exact ⟨fun _ h => absurd h List.not_mem_nil, Nat.le_refl _⟩⟩
      · rintro i v σ H5 H6 hi ⟨q, v3, v5, v6, v7, v8, rfl, s5, hq, hways, hshape, hlen⟩ s56 hv
        obtain ⟨r, hr', rfl⟩ := at_map hv
        have s6 := s5.trans s56
        obtain ⟨ws, hwsN, hwp⟩ := hways.same (new_mono s56)
        have hws := new_same _ _ hwsN
        have hnext : KP.allLots f R (rows.take (i + 1)) c = KP.waysRow f R c (KP.allLots f R (rows.take i) c) r := by
          unfold KP.allLots
          rw [take_more hr', List.foldl_append]; rfl
        generalize hWi : KP.allLots f R (rows.take i) c = Wi at hwp hshape hlen hnext
        have hwsl : ws.length = Wi.length := paired_len hwp
        refine ⟨Nat.zero_le _, fun dl hdl => ?_⟩
        have s7 := Same.upd (o := .lst []) hdl
        have hdl7 : (upd H6 dl (.lst [])) dl = some (.lst []) := upd_same
        have hdlH : H dl = none := s6.free hdl
        have hqdl : q ≠ dl := ne_of_none hws hdl
        have hws7 := s7 _ _ hws
        generalize hH7 : upd H6 dl (.lst []) = H7 at s7 hdl7 hws7
        refine ⟨_, rfl, q, rfl, ⟨_, SqL.of hws7⟩, ?_⟩
        refine for_it (jo_list (SqL.of (sub_at (as := [q]) hws7 List.mem_cons_self))) (fun j σ H' => ∃ (v3 v7 v8 : Option V), σ = [some (.ref a), some (.ref l), some (.int (c : Int)), v3, some (.ref q), some (.int (r : Int)), some (.ref dl), v7, v8] ∧ SameBut [dl] H7 H' ∧ WaysBut (newH H H') dl (KP.waysRow f R c (Wi.take j) r))
          ⟨_, _, _, rfl, SameBut.of (Same.refl _), ⟨[], new_at hdlH hdl7, .nil⟩⟩ (fun j σ H' _ ⟨_, _, _, _, sb, _⟩ => sub_same fun a ha => by rw [List.mem_singleton.mp ha, hws7]; exact sb _ _ hws7 (by simpa using hqdl)) ?_ ?_
        · rintro j v σ H8 H9 hj ⟨v3, v7, v8, rfl, sb8, hw8⟩ s89 hv
          obtain ⟨wj, hwj, rfl⟩ := at_map hv
          obtain ⟨lots, hlots, hll⟩ := paired_at hwp hwj
          have hW : lots ∈ Wi := List.mem_of_getElem? hlots
          obtain ⟨hWl, hWlot⟩ := hshape lots hW
          have sb9 := sb8.trans (SameBut.of s89)
          have hw9 := hw8.same (new_mono s89)
          have hstep : KP.waysRow f R c (Wi.take (j + 1)) r = KP.waysRow f R c (Wi.take j) r ++ ((List.range c).filter fun k => KP.rankOf f R (KP.srt (lots.getD k [] ++ [r])) = (KP.srt (lots.getD k [] ++ [r])).length).map fun k => KP.putIn lots k r := by
            unfold KP.waysRow
            rw [take_more hlots, List.flatMap_append]
            congr 1
            show List.flatMap _ [lots] = _
            rw [List.flatMap_cons, List.flatMap_nil, List.append_nil]
          rw [hstep]
          refine ⟨_, rfl, _, rfl, by omega, by omega, ?_⟩
          rw [hcn]
          refine for_it (H0 := fun _ => none) (jo_range 0 c) (fun kk σ H' => ∃ (v3 v8 : Option V), σ = [some (.ref a), some (.ref l), some (.int (c : Int)), v3, some (.ref q), some (.int (r : Int)), some (.ref dl), some (.ref wj), v8] ∧ SameBut [dl] H7 H' ∧
              WaysBut (newH H H') dl (KP.waysRow f R c (Wi.take j) r ++ ((List.range kk).filter fun k => KP.rankOf f R (KP.srt (lots.getD k [] ++ [r])) = (KP.srt (lots.getD k [] ++ [r])).length).map fun k => KP.putIn lots k r))
            ⟨_, _, rfl, sb9, by simpa using hw9⟩ (fun _ _ _ _ _ _ _ e => by cases e) ?_ ?_
          · rintro kk v σ H10 H11 hkk ⟨v3, v8, rfl, sb10, hw10⟩ s1011 rfl
            rw [Int.zero_add]
            have hi6 : i < rows.length := by rw [← nV_len rows]; exact hi
            obtain ⟨ls, hwj6, hls6⟩ := hll
            have s6_11 : Same H6 H11 := (SameBut.freshL (as := [dl]) s7 (fun l hl => by rw [List.mem_singleton.mp hl]; exact hdl) sb10).trans s1011
            have hw11 := hw10.same (new_mono s1011)
            have sb11 := sb10.trans (SameBut.of s1011)
            have hlsl : ls.length = lots.length := paired_len hls6
            have hkl : kk < lots.length := by omega
            have eL : lots[kk]? = some (lots.getD kk []) := by rw [List.getD_eq_getElem?_getD, List.getElem?_eq_getElem hkl]; rfl
            obtain ⟨hb1, hb2⟩ := hWlot _ (KP.getD_lots hkl)
            obtain ⟨lot, hlotE⟩ : ∃ lot, lots.getD kk [] = lot := ⟨_, rfl⟩
            rw [hlotE] at eL hb1 hb2
            obtain ⟨p, hp, hp6⟩ := paired_at' hls6 eL
            have hpr := s6_11 _ _ (new_same _ _ hp6)
            have hwj11 := s6_11 _ _ (new_same _ _ hwj6)
            obtain ⟨ws11, hdl11N, hp11⟩ := id hw11
            have hdl11 := new_same _ _ hdl11N
            refine ⟨_, rfl, _, rfl, wj, _, _, .ref p, rfl, rfl, SqL.of hwj11, atN (by rw [List.getElem?_map, hp]; rfl), _, rfl, sz (by simp), fun e he => ?_⟩
            refine ⟨p, e, nV lot, [.int (r : Int)], rfl, rfl, Same.upd he _ _ hpr, upd_same, sz (by rw [nV_len]; simp; omega), fun cc hcc => ?_⟩
            have e0 : nV lot ++ [V.int (r : Int)] = iV ((lot ++ [r]).map fun (r : Nat) => (r : Int)) := by rw [← nV_snoc, nV_iV]
            rw [e0]
            refine ⟨cc, _, rfl, SqL.of upd_same, by rw [List.length_map, List.length_append]; simp; omega, fun ns' q2 hperm hsrt hq2 => ?_⟩
            rw [nV_srt hperm hsrt]
            have sS := ((Same.upd (o := .lst [V.int (r : Int)]) he).upd' (o := .lst (iV ((lot ++ [r]).map fun (r : Nat) => (r : Int)))) hcc).upd' (o := .lst (nV (KP.srt (lot ++ [r])))) hq2
            have hdq2 : dl ≠ q2 := ne_of_none (((Same.upd he).upd' hcc) _ _ hdl11) hq2
            have hq2S : (upd (upd (upd H11 e (.lst [V.int (r : Int)])) cc (.lst (iV ((lot ++ [r]).map fun (r : Nat) => (r : Int))))) q2 (.lst (nV (KP.srt (lot ++ [r]))))) q2 = some (.lst (nV (KP.srt (lot ++ [r])))) := upd_same
            generalize hHS : upd (upd (upd H11 e (.lst [V.int (r : Int)])) cc (.lst (iV ((lot ++ [r]).map fun (r : Nat) => (r : Int))))) q2 (.lst (nV (KP.srt (lot ++ [r])))) = HS at sS hq2S
            have hsl : (KP.srt (lot ++ [r])).length = lot.length + 1 := by rw [(KP.srt_perm _).length_eq, List.length_append, List.length_singleton]
            have hltS : ∀ x, x ∈ KP.srt (lot ++ [r]) → x < n := fun x hx => by
              rcases List.mem_append.mp (KP.mem_srt.mp hx) with hx | hx
              · exact hb1 x hx
              · rw [List.mem_singleton.mp hx]; exact hlt r (List.mem_of_getElem? hr')
            refine ⟨_, rfl, _, rfl, a, q2, f, wd, n, R, _, rfl, hparts.same (s6.trans (s6_11.trans sS)), ok, hq2S, hltS, by omega, fun H14 s14 => ⟨_, rfl, q2, _, rfl, .inl (SqL.of (s14 _ _ hq2S)), rfl, _, rfl, ?_⟩⟩
            rw [nV_len]
            have s11_14 := sS.trans s14
            have s6_14 := s6_11.trans s11_14
            have sb14 := sb11.trans (SameBut.of s11_14)
            by_cases hrk : KP.rankOf f R (KP.srt (lot ++ [r])) = (KP.srt (lot ++ [r])).length
            · refine ite_t (by rw [hrk]; exact decide_eq_true rfl) ?_
              have hwj14 := s6_14 _ _ (new_same _ _ hwj6)
              obtain ⟨wsx, hdlxN, hpx⟩ := hw11.same (new_mono s11_14)
              have hdlx := new_same _ _ hdlxN
              refine ⟨_, rfl, .inl ⟨rfl, _, SqL.of hdlx⟩, _, rfl, _, rfl, _, rfl, wj, _, rfl, SqL.of hwj14, fun p1 hp1 => ⟨_, rfl, sz (by simp), fun p2 hp2 => ?_⟩⟩
              have e1 : cutV (rV ls) none (some (kk : Int)) = rV (ls.take kk) := by rw [cut_take, ← List.map_take]
              have e2 : cutV (rV ls) (some ((kk : Int) + 1)) none = rV (ls.drop (kk + 1)) := by
                have := cut_drop (rV ls) (kk + 1)
                rw [← List.map_drop] at this
                exact this
              rw [e1] at hp2 ⊢
              have sa := (Same.upd (o := .lst (rV (ls.take kk))) hp1).upd' (o := .lst [V.ref q2]) hp2
              refine ⟨p1, p2, _, _, rfl, rfl, Same.upd hp2 _ _ upd_same, upd_same, sz (by rw [List.length_map, List.length_take]; simp; omega), fun p3 hp3 => ?_⟩
              have e3 : rV (ls.take kk) ++ [V.ref q2] = rV (ls.take kk ++ [q2]) := (rV_snoc _ _).symm
              rw [e3]
              have sb := sa.upd' (o := .lst (rV (ls.take kk ++ [q2]))) hp3
              have h3 : (upd (upd (upd H14 p1 (.lst (rV (ls.take kk)))) p2 (.lst [V.ref q2])) p3 (.lst (rV (ls.take kk ++ [q2])))) p3 = some (.lst (rV (ls.take kk ++ [q2]))) := upd_same
              generalize hH15 : upd (upd (upd H14 p1 (.lst (rV (ls.take kk)))) p2 (.lst [V.ref q2])) p3 (.lst (rV (ls.take kk ++ [q2]))) = H15 at sb h3
              refine ⟨_, rfl, _, rfl, _, _, rfl, rfl, _, rfl, wj, _, rfl, SqL.of (sb _ _ hwj14), fun p4 hp4 => ?_⟩
              rw [e2]
              refine ⟨p3, p4, _, _, rfl, rfl, Same.upd hp4 _ _ h3, upd_same, sz (by rw [List.length_map, List.length_map, List.length_append, List.length_take, List.length_drop]; simp; omega), fun p5 hp5 => ?_⟩
              have e4 : rV (ls.take kk ++ [q2]) ++ rV (ls.drop (kk + 1)) = rV (ls.take kk ++ [q2] ++ ls.drop (kk + 1)) := (List.map_append ..).symm
              rw [e4]
              have sc := (sb.upd' (o := .lst (rV (ls.drop (kk + 1)))) hp4).upd' (o := .lst (rV (ls.take kk ++ [q2] ++ ls.drop (kk + 1)))) hp5
              have hd5 : dl ≠ p5 := ne_of_none ((sb.upd' hp4) _ _ hdlx) hp5
              have h5 : (upd (upd H15 p4 (.lst (rV (ls.drop (kk + 1))))) p5 (.lst (rV (ls.take kk ++ [q2] ++ ls.drop (kk + 1))))) p5 = some (.lst (rV (ls.take kk ++ [q2] ++ ls.drop (kk + 1)))) := upd_same
              generalize hHX : upd (upd H15 p4 (.lst (rV (ls.drop (kk + 1))))) p5 (.lst (rV (ls.take kk ++ [q2] ++ ls.drop (kk + 1)))) = HX at sc h5
              have hlenx : wsx.length ≤ 100000 := by
                rw [paired_len hpx, List.length_append, List.length_map]
                have h1 := waysRow_len f R c r (Wi.take j)
                have h2 := List.length_filter_le (fun k => decide (KP.rankOf f R (KP.srt (lots.getD k [] ++ [r])) = (KP.srt (lots.getD k [] ++ [r])).length)) (List.range kk)
                rw [List.length_range] at h2
                have h3 : c * (Wi.take j).length ≤ 4 * 4 ^ i := Nat.mul_le_mul hc (by rw [List.length_take]; omega)
                have h4 : 4 ^ i ≤ 4 ^ 6 := Nat.pow_le_pow_right (by decide) (by omega)
                have h5 : (4 : Nat) ^ 6 = 4096 := by decide
                omega
              refine ⟨dl, _, _, rfl, rfl, sc _ _ hdlx, szl (by rw [List.length_map]; omega), _, _, rfl, (sb14.trans (SameBut.of sc)).upd (.inl List.mem_cons_self), ?_⟩
              have s6X := s6_14.trans sc
              have hlsX := hls6.same (but_new (H := H) hdl s6X)
              have hq2H : H q2 = none := ((s6.trans s6_11).trans ((Same.upd he).upd' hcc)).free hq2
              have hp5H : H p5 = none := ((s6.trans s6_14).trans (sb.upd' hp4)).free hp5
              have hnew : IsLL (but dl (newH H HX)) p5 (KP.putIn lots kk r) := by
                refine ⟨_, but_at (new_at hp5H h5) hd5.symm, ?_⟩
                unfold KP.putIn
                rw [hlotE]
                exact paired_append (paired_append (paired_take hlsX kk) (.cons (but_at (new_at hq2H (sc _ _ (s14 _ _ hq2S))) hdq2.symm) .nil)) (paired_drop hlsX (kk + 1))
              rw [range_more, if_pos (decide_eq_true (by rw [hlotE]; exact hrk)), List.map_append, ← List.append_assoc]
              rw [new_upd hdlH]
              exact WaysBut.more (paired_mono (fun _ _ z => z.same (but_mono (new_mono sc))) hpx) hnew
            · refine ite_f (decide_eq_false fun q => hrk (Int.ofNat.inj (V.int.inj q))) ⟨_, _, rfl, sb14, ?_⟩
              rw [range_more, if_neg (by rw [hlotE]; simpa using hrk)]
              exact hw11.same (new_mono s11_14)
          · rintro σ H10 ⟨v3, v8, rfl, sb10, hw10⟩
            exact ⟨_, _, _, rfl, sb10, hw10⟩
        · rintro σ H8 ⟨v3, v7, v8, rfl, sb8, hw8⟩
          rw [List.length_map, hwsl, List.take_length, ← hnext] at hw8
          have s8 : Same H H8 := SameBut.freshL (as := [dl]) (s6.trans s7) (fun l hl => by rw [List.mem_singleton.mp hl]; exact hdlH) sb8
          refine ⟨_, rfl, dl, _, _, _, _, _, rfl, s8, hdlH, hw8.ways, ?_, ?_⟩
          · intro W hW
            rw [hnext] at hW
            obtain ⟨lots, hlots, kk, hkk, hrk, rfl⟩ := KP.mem_waysRow.mp hW
            obtain ⟨hWl, hWlot⟩ := hshape lots hlots
            refine ⟨by rw [KP.putIn_len (by omega)]; exact hWl, fun lot hlot => ?_⟩
            unfold KP.putIn at hlot
            rcases List.mem_append.mp hlot with hlot | hlot
            · rcases List.mem_append.mp hlot with hlot | hlot
              · obtain ⟨b1, b2⟩ := hWlot lot (List.mem_of_mem_take hlot)
                exact ⟨b1, by omega⟩
              · rw [List.mem_singleton.mp hlot]
                have hgd : lots.getD kk [] ∈ lots := KP.getD_lots (by omega)
                obtain ⟨b1, b2⟩ := hWlot _ hgd
                refine ⟨fun x hx => ?_, ?_⟩
                · rcases List.mem_append.mp (KP.mem_srt.mp hx) with hx | hx
                  · exact b1 x hx
                  · rw [List.mem_singleton.mp hx]; exact hlt r (List.mem_of_getElem? hr')
                · rw [(KP.srt_perm _).length_eq, List.length_append, List.length_singleton]; omega
            · obtain ⟨b1, b2⟩ := hWlot lot (List.mem_of_mem_drop hlot)
              exact ⟨b1, by omega⟩
          · rw [hnext]
            refine Nat.le_trans (waysRow_len f R c r Wi) ?_
            rw [Nat.pow_succ, Nat.mul_comm]
            exact Nat.mul_le_mul hlen hc
      · rintro σ H' ⟨q, v3, v5, v6, v7, v8, rfl, s', hq, hways, _⟩
        rw [List.length_map, List.take_length] at hways
        exact ⟨_, rfl, k H' q s' hq hways⟩
end
end KW
end
section
set_option Elab.async false
set_option linter.all false
set_option maxRecDepth 100000
set_option maxHeartbeats 8000000
set_option pp.maxSteps 300
/-! The law: rows. -/
namespace KW
open PySem PySem.Spec PyProof.Rows L2
/-- a list comprehension that changes the things at some places -/
theorem lc_sb {J : It} {g : TG} {tt : TT} {te : TE} {vs : List Nat} {σ : L2.St} {H H0 : Hp} {D : Addr} {Qd : Hp → Prop} {n : Nat} {Y : Nat → V → Hp → Prop} (as : List Addr) (jo : JOk J H0 n Y) (hS0 : ∀ H', SameBut as H H' → Same H0 H') (hD : H D = none) (hDa : D ∉ as) (Pv : Nat → List V → Hp → Prop) (mono : ∀ i xs G G', Same G G' → Pv i xs G → Pv i xs G')
    (h0 : Pv 0 [] H) (hz : ∀ i xs G, i ≤ n → Pv i xs G → xs.length ≤ 1000000)
    (hs : ∀ i x xs H' (Nx : V → Hp → Prop) (Sk : Hp → Prop), i < n → SameBut as H H' → Y i x H' → H' D = some (.lst xs) → Pv i xs (but D H') → (∀ y H4, SameBut as H' H4 → Pv (i + 1) (xs ++ [y]) (but D H4) → Nx y H4) → (∀ H3, SameBut as H' H3 → Pv (i + 1) xs (but D H3) → Sk H3) →
      g x (wipe σ vs) H' fun σ2 H2 => wipe σ2 vs = wipe σ vs ∧ tt σ2 H2 fun b H3 => if b = true then te σ2 H3 Nx else Sk H3)
    (hd : ∀ H' xs, SameBut as H H' → H' D = some (.lst xs) → Pv n xs (but D H') → Qd H') :
    ∃ W : Nat → Nat → Hp → Prop, (∃ m, W 0 m (upd H D (.lst []))) ∧ ∀ i m H, W i m H →
      (J.stop i H ∧ Qd H) ∨ (J.go i H ∧ ∃ Nx : Hp → Prop, (∀ H', Nx H' → ∃ m', m' < m ∧ W (i + 1) m' H') ∧ ∀ x H', J.yld i H x H' → g x (wipe σ vs) H' fun σ2 H2 => wipe σ2 vs = wipe σ vs ∧ tt σ2 H2 fun b H3 =>
        if b = true then te σ2 H3 fun y H4 => ∃ acc, H4 D = some (.lst acc) ∧ acc.length < sizeLine ∧ Nx (upd H4 D (.lst (acc ++ [y]))) else Nx H3) := by
  refine ⟨fun i m H' => m = n - i ∧ i ≤ n ∧ SameBut as H H' ∧ ∃ xs, H' D = some (.lst xs) ∧ Pv i xs (but D H'), ⟨n, by simp, Nat.zero_le _, (SameBut.of (Same.refl H)).upd (.inr hD), [], upd_same, by rw [but_upd]; exact mono _ _ _ _ (but_none hD (Same.refl H)) h0⟩, ?_⟩
  rintro i m H' ⟨rfl, hi, s, xs, d, pv⟩
  by_cases hlt : i < n
  · refine .inr ⟨jo.go i H' hlt (hS0 _ s), fun H'' => SameBut as H H'' ∧ ∃ xs, H'' D = some (.lst xs) ∧ Pv (i + 1) xs (but D H''), fun H'' p' => ⟨n - (i + 1), by omega, rfl, hlt, p'⟩, fun x H'' y => ?_⟩
    obtain ⟨s2, y⟩ := jo.yld i x H' H'' hlt (hS0 _ s) y
    have pv2 := mono _ _ _ _ (but_mono (D := D) s2) pv
    have s02 := s.trans (SameBut.of s2)
    refine hs i x xs H'' _ _ hlt s02 y (s2 _ _ d) pv2 (fun y H4 s3 e => ⟨xs, s3 _ _ (s2 _ _ d) hDa, szl (hz i xs _ hi pv), (s02.trans s3).upd (.inr hD), _, upd_same, by rw [but_upd]; exact e⟩) fun H3 s3 e => ⟨s02.trans s3, xs, s3 _ _ (s2 _ _ d) hDa, e⟩
  · have e : i = n := by omega
    subst e
    exact .inl ⟨jo.stop H' (hS0 _ s), hd H' xs s d pv⟩
section
variable {P : Program} {w : World} {K : PySem.W.Frag} {mg : Str → Option Value} {base : Heap}
theorem IsSrc.bt {H : Hp} {a D : Addr} {B : Nat} (h : IsSrc H a B) (hD : H D = none) : IsSrc (but D H) a B := let ⟨g, s, c, x, y⟩ := h; ⟨g, s, c, but_at x (ne_of_none x hD), y⟩
theorem IsSrc.bt' {H : Hp} {a D : Addr} {B : Nat} (h : IsSrc H a B) (hD : a ≠ D) : IsSrc (but D H) a B := let ⟨g, s, c, x, y⟩ := h; ⟨g, s, c, but_at x hD, y⟩
theorem IsSrc.ne {H : Hp} {a D : Addr} {B : Nat} (h : IsSrc H a B) (hD : H D = none) : a ≠ D := let ⟨g, s, c, x, y⟩ := h; ne_of_none x hD
/-- rows, while the list of them grows -/
def RawBut (H : Hp) (q : Addr) (R : List (List Int)) : Prop := ∃ rs : List Addr, H q = some (.lst (rV rs)) ∧ Paired (fun p l => but q H p = some (.lst (iV l))) rs R
theorem RawBut.raw {H : Hp} {q : Addr} {R : List (List Int)} (h : RawBut H q R) : IsRaw H q R := let ⟨rs, a, b⟩ := h; ⟨rs, a, paired_mono (fun _ _ z => but_same _ _ z) b⟩
theorem RawBut.same {H H' : Hp} {q : Addr} {R : List (List Int)} (s : Same H H') (h : RawBut H q R) : RawBut H' q R := let ⟨rs, a, b⟩ := h; ⟨rs, s _ _ a, paired_mono (fun _ _ z => but_mono s _ _ z) b⟩
theorem sb_but {a : Addr} {H H' : Hp} (s : SameBut [a] H H') : Same (but a H) (but a H') := fun b o e => by
  unfold but at e ⊢
  split at e
  · cases e
  · rename_i h; rw [if_neg h]; exact s _ _ e (by simpa using h)
theorem RawBut.more {H : Hp} {q p : Addr} {rs : List Addr} {R : List (List Int)} {l : List Int} (h : Paired (fun p l => but q H p = some (.lst (iV l))) rs R) (hp : but q H p = some (.lst (iV l))) : RawBut (L2.upd H q (.lst (rV rs ++ [.ref p]))) q (R ++ [l]) := by
  refine ⟨rs ++ [p], by rw [upd_same, rV_snoc], ?_⟩
  rw [but_upd]
  exact Paired.snoc h hp
abbrev nmRowsL : List Str := ["_law_source_here", "_law_width", "_law_many", "_law_found", "_law_k", "_law_way", "_law_row", "_law_place", "_law_times", "_law_number"]
theorem scRowsL : FnScope nmRowsL ["_law_source_here", "_law_width", "_law_many"] (defScope s_l_rows) := ⟨rfl, rfl, rfl, by decide +kernel, rfl, by decide +kernel, by decide +kernel⟩
def spRowsL : Sp := fun vs H Q _ => ∃ (a : Addr) (wd m B : Nat), vs = [.ref a, .int (wd : Int), .int (m : Int)] ∧ wd ≤ 3 ∧ m ≤ 5 ∧ IsSrc H a B ∧ B ≤ 10000 ∧
  ∀ (H' : Hp) (q : Addr) (R : List (List Int)), SameBut [a] H H' → H q = none → IsSrc H' a (B + 50) → IsRaw (but a H') q R → R.length = m → (∀ l, l ∈ R → l.length = wd) → (∀ l, l ∈ R → ∀ y, y ∈ l → y.natAbs ≤ 2 ^ 8) → Q (.ref q) H'
theorem c_rowsL (T : Txt2 P K mg) : C8.Cal P w K mg base 3 "_law_rows" spRowsL [] := by
  obtain ⟨fd, F⟩ := T.fn_l_rows
  refine mkCal F T.g_l_rows (fun _ _ _ _ _ _ us hl => match us, hl with | [_, _, _], _ => rfl) scRowsL (fun vs H Q E h => ?_) fun cdv A outer s H vs Q E hr h => ?_
  · obtain ⟨a, wd, m, B, rfl, _⟩ := h
    rfl
  · obtain ⟨a, wd, m, B, rfl, hwd, hm, hsrc, hB, k⟩ := h
    have hu := hr.units
    refine ⟨_, (pss_cons (ps_set (i := 3) scRowsL.nd rfl (Or.inl rfl) (pe_lst pa_nil)) (pss_cons (ps_for PassesOwn.never rfl (pi_range1 (by rfl) T.f_range (pa_cons (pv 2) pa_nil)) (pg_name (i := 4) scRowsL.nd rfl (Or.inl rfl)) (pss_cons (ps_set (i := 5) scRowsL.nd rfl (Or.inl rfl) (C8.pe_c (c_draw T) hr (by decide) (by rfl) (pa_cons (pv 0) (pa_cons (pe_int) pa_nil)))) (pss_cons (ps_setLc (i := 6) (own := [("_law_place", 7)]) (g := gName 7) (tt := tYes) (te := tOp (rI0 fun i j => .int (i - j)) (tCall spDraw [] C8.E0 (tCons (tVar 0) (tCons (tC (.int 5)) tNil))) (tC (.int 2))) rfl scRowsL.nd rfl rfl rfl (pi_range1 (by rfl) T.f_range (pa_cons (pv 1) pa_nil)) (blkOk_by (N := nmRowsL) (sc := defScope s_l_rows) (by decide +kernel)) (fun _ _ _ _ _ => pg_name (i := 7) scRowsL.nd rfl (Or.inl rfl)) (fun _ _ _ _ _ => pts_nil)
            (fun _ _ _ _ _ => pe_op op_sub (C8.pe_c (c_draw T) hr (by decide) (by rfl) (pa_cons (pv 0) (pa_cons (pe_int) pa_nil))) pe_int)) (pss_cons (ps_if (PW.pt (pw_and (pt_cmpR op_eq (pv 5) pe_int (nomark _)) (pw_and1 (pt_cmpR (op_neD hu) (pv 3) (pe_lst pa_nil) (nomark _)))))
            (pss_one (ps_set (i := 6) scRowsL.nd rfl (Or.inl rfl) (pe_callTy call_list_of (by rfl) T.f_list (boot_T "list") (pa_cons (C8.pe_c (c_pick T) hr (by decide) (by rfl) (pa_cons (pv 0) (pa_cons (pv 3) pa_nil))) pa_nil))))
            (pss_one (ps_if (PW.pt (pw_and (pt_cmpR op_eq (pv 5) pe_int (nomark _)) (pw_and1 (pt_cmpR (op_neD hu) (pv 3) (pe_lst pa_nil) (nomark _)))))
              (pss_cons (ps_set (i := 8) scRowsL.nd rfl (Or.inr rfl) (pe_op op_add pe_int (C8.pe_c (c_draw T) hr (by decide) (by rfl) (pa_cons (pv 0) (pa_cons (pe_int) pa_nil))))) (pss_one (ps_setLc (i := 6) (own := [("_law_number", 9)]) (g := gName 9) (tt := tYes) (te := tOp (rI CMul fun i j => .int (i * j)) (tVar 8) (tVar 9)) rfl scRowsL.nd rfl rfl rfl (pi_list (C8.pe_c (c_pick T) hr (by decide) (by rfl) (pa_cons (pv 0) (pa_cons (pv 3) pa_nil)))) (blkOk_by (N := nmRowsL) (sc := defScope s_l_rows) (by decide +kernel)) (fun _ _ _ _ _ => pg_name (i := 9) scRowsL.nd rfl (Or.inl rfl)) (fun _ _ _ _ _ => pts_nil)
                  (fun _ _ _ _ _ => pe_op op_mul (pv 8) (pv 9)))))
              (pss_one (ps_if (pt_cmpR op_eq (pv 5) pe_int (nomark _))
                (pss_one (ps_setLc (i := 6) (own := [("_law_place", 7)]) (g := gName 7) (tt := tYes) (te := tOp (rIxL K) (tLst (tCons (tC (.int 0)) (tCons (tC (.int 0)) (tCons (tC (.int 1)) tNil)))) (tCall spDraw [] C8.E0 (tCons (tVar 0) (tCons (tC (.int 3)) tNil)))) rfl scRowsL.nd rfl rfl rfl (pi_range1 (by rfl) T.f_range (pa_cons (pv 1) pa_nil)) (blkOk_by (N := nmRowsL) (sc := defScope s_l_rows) (by decide +kernel)) (fun _ _ _ _ _ => pg_name (i := 7) scRowsL.nd rfl (Or.inl rfl)) (fun _ _ _ _ _ => pts_nil)
                  (fun _ _ _ _ _ => pe_ix ix_list (pe_lst (pa_cons (pe_int) (pa_cons (pe_int) (pa_cons (pe_int) pa_nil)))) (C8.pe_c (c_draw T) hr (by decide) (by rfl) (pa_cons (pv 0) (pa_cons (pe_int) pa_nil))) (fun _ _ => rfl)))) pss_nil))))) (pss_one (ps_expr (pe_bm PySem.F.plainAttrs_list PySem.F.slot_list_append PySem.F.type_list_append mt_append (pv 3) (pa_cons (pv 6) pa_nil)))))))) (pss_one (ps_ret (pv 3))))), ?_⟩
    have hmn : ((m : Nat) : Int).toNat = m := by simp
    have hwn : ((wd : Nat) : Int).toNat = wd := by simp
    refine ⟨Nat.zero_le _, fun q hq => ?_⟩
    have hqa : a ≠ q := hsrc.ne hq
    have hq0 : but a (upd H q (.lst [])) q = some (.lst (rV [])) := but_at upd_same hqa.symm
    have sbq : SameBut [a] H (upd H q (.lst [])) := SameBut.of (Same.upd hq)
    refine ⟨_, rfl, _, rfl, by omega, by omega, ?_⟩
    rw [hmn]
    refine for_it (H0 := fun _ => none) (jo_range 0 m) (fun i σ H' => ∃ (R : List (List Int)) (v4 v5 v6 v8 : Option V), σ = [some (.ref a), some (.int (wd : Int)), some (.int (m : Int)), some (.ref q), v4, v5, v6, none, v8, none] ∧ SameBut [a] H H' ∧ IsSrc H' a (B + 8 * i) ∧ RawBut (but a H') q R ∧ R.length = i ∧
        (∀ l, l ∈ R → l.length = wd) ∧ ∀ l, l ∈ R → ∀ y, y ∈ l → 3 * y.natAbs ≤ 2 * 3 ^ i)
      ⟨[], _, _, _, _, rfl, sbq, hsrc.same (Same.upd hq), ⟨[], hq0, .nil⟩, rfl, fun _ h => absurd h List.not_mem_nil, fun _ h => absurd h List.not_mem_nil⟩ (fun _ _ _ _ _ _ _ e => by cases e) ?_ ?_
    · rintro i v σ H1 H2 hi ⟨R, v4, v5, v6, v8, rfl, sb1, hsrc1, hraw1, hlen, hwid, hbig⟩ s12 rfl
      have hpow : (3 : Nat) ^ (i + 1) = 3 * 3 ^ i := by rw [Nat.pow_succ]; omega
      have hpos : 1 ≤ (3 : Nat) ^ i := Nat.one_le_pow _ _ (by decide)
      have fin : ∀ (H5 : Hp) (p : Addr) (row : List Int) (v5 v8 : Option V), SameBut [a] H2 H5 → IsSrc H5 a (B + 8 * (i + 1)) → but a H5 p = some (.lst (iV row)) → p ≠ q → row.length = wd → (∀ y, y ∈ row → 3 * y.natAbs ≤ 2 * 3 ^ (i + 1)) →
          ∃ rs : List Addr, H5 q = some (.lst (rV rs)) ∧ rs.length ≤ 5 ∧ ∃ (R : List (List Int)) (v4 v5' v6 v8' : Option V), [some (.ref a), some (.int (wd : Int)), some (.int (m : Int)), some (.ref q), some (.int (0 + (i : Int))), v5, some (.ref p), none, v8, none] = [some (.ref a), some (.int (wd : Int)), some (.int (m : Int)), some (.ref q), v4, v5', v6, none, v8', none] ∧
            SameBut [a] H (upd H5 q (.lst (rV rs ++ [.ref p]))) ∧ IsSrc (upd H5 q (.lst (rV rs ++ [.ref p]))) a (B + 8 * (i + 1)) ∧ RawBut (but a (upd H5 q (.lst (rV rs ++ [.ref p])))) q R ∧ R.length = i + 1 ∧ (∀ l, l ∈ R → l.length = wd) ∧ ∀ l, l ∈ R → ∀ y, y ∈ l → 3 * y.natAbs ≤ 2 * 3 ^ (i + 1) := fun H5 p row v5 v8 sb5 hs5 hp hpq hrl hrb => by
        obtain ⟨rs, h1, h2⟩ := hraw1.same ((sb_but (SameBut.of s12)).trans (sb_but sb5))
        have hl : rs.length = R.length := paired_len h2
        refine ⟨rs, but_same _ _ h1, by omega, R ++ [row], _, _, _, _, rfl, ((sb1.trans (SameBut.of s12)).trans sb5).upd (.inr hq), ?_, ?_, by rw [List.length_append]; simp; omega, fun l hl => ?_, fun l hl y hy => ?_⟩
        · obtain ⟨g, s', c, e1, e2⟩ := hs5
          exact ⟨g, s', c, by rw [upd_ne hqa]; exact e1, e2⟩
        · rw [but_upd_ne hqa.symm]
          exact RawBut.more h2 (but_at hp hpq)
        · rcases List.mem_append.mp hl with hl | hl
          · exact hwid l hl
          · rw [List.mem_singleton.mp hl]; exact hrl
        · rcases List.mem_append.mp hl with hl | hl
          · have := hbig l hl y hy; omega
          · rw [List.mem_singleton.mp hl] at hy; exact hrb y hy
      refine ⟨_, rfl, a, 8, B + 8 * i, rfl, by decide, by decide, hsrc1.same s12, by omega, fun H3 d8 sb3 hs3 hd8 => ?_⟩
      refine ⟨_, rfl, _, rfl, by omega, by omega, fun D hD => ?_⟩
      rw [hwn]
      have haD : a ≠ D := hs3.ne hD
      refine lc_sb [a] (jo_range 0 wd) (H0 := fun _ => none) (fun _ _ _ _ e => by cases e) hD (by simpa using haD.symm) (fun j xs G => IsSrc G a (B + 8 * i + 1 + j) ∧ ∃ ns : List Int, xs = iV ns ∧ ns.length = j ∧ ∀ y, y ∈ ns → y.natAbs ≤ 2)
        (fun j xs G G' sG ⟨e1, e2⟩ => ⟨e1.same sG, e2⟩) ⟨hs3, [], rfl, rfl, fun _ h => absurd h List.not_mem_nil⟩ (fun j xs G hj ⟨_, ns, e1, e2, _⟩ => by rw [e1, List.length_map]; omega) (fun j v xs H4 Nx Sk hj sb4 hv hD4 hpv kN _ => ?_) fun H4 xs sb4 d4 hpv => ?_
      · obtain ⟨hs4, ns, rfl, hnl, hn2⟩ := hpv
        refine ⟨rfl, _, rfl, a, 5, B + 8 * i + 1 + j, rfl, by decide, by decide, hs4.same but_same, by omega, fun H5 d5 sb5 hs5 hd5 => ⟨_, _, rfl, rfl, kN _ _ sb5 ⟨hs5.bt' haD, ns ++ [(d5 : Int) - 2], (iV_snoc _ _).symm, by rw [List.length_append]; simp; omega, fun y hy => ?_⟩⟩⟩
        rcases List.mem_append.mp hy with hy | hy
        · exact hn2 y hy
        · rw [List.mem_singleton.mp hy]; omega
      · obtain ⟨hs4, ns, rfl, hnl, hn2⟩ := hpv
        have hs4' := hs4.same but_same
        have sb24 := sb3.trans sb4
        have hDq : D ≠ q := fun z => by
          obtain ⟨rs, h1, _⟩ := hraw1.same ((sb_but (SameBut.of s12)).trans (sb_but sb3))
          rw [z] at hD
          rw [but_same _ _ h1] at hD; cases hD
        have ne0 : ∀ k : Nat, d8 ≠ k → decide (V.int (d8 : Int) = V.int (k : Int)) = false := fun k h => decide_eq_false fun q => h (Int.ofNat.inj (V.int.inj q))
        have eq0 : ∀ k : Nat, d8 = k → decide (V.int (d8 : Int) = V.int (k : Int)) = true := fun k h => by rw [h]; exact decide_eq_true rfl
        have hmono : ∀ {H5 : Hp} {c : Nat}, c ≤ 8 → IsSrc H5 a (B + 8 * i + c) → IsSrc H5 a (B + 8 * (i + 1)) := fun hc h => h.mono (by omega)
        have base2 : ∀ y, y ∈ ns → 3 * y.natAbs ≤ 2 * 3 ^ (i + 1) := fun y hy => by have := hn2 y hy; omega
        -- the row as it was drawn
        have plain : ∀ (H5 : Hp), Same H4 H5 → but a H5 D = some (.lst (iV ns)) ∧ SameBut [a] H2 H5 ∧ IsSrc H5 a (B + 8 * (i + 1)) := fun H5 s5 => ⟨but_at (s5 _ _ d4) haD.symm, sb24.trans (SameBut.of s5), (hs4'.same s5).mono (by omega)⟩
        have rawAt : ∀ (H5 : Hp), SameBut [a] H2 H5 → ∃ rs : List Addr, H5 q = some (.lst (rV rs)) ∧ rs.length = R.length ∧ IsRaw H5 q R ∧ Paired (fun p l => but q (but a H5) p = some (.lst (iV l))) rs R := fun H5 sb5 => by
          have hh := hraw1.same ((sb_but (SameBut.of s12)).trans (sb_but sb5))
          obtain ⟨rs, h1, h2⟩ := id hh
          exact ⟨rs, but_same _ _ h1, paired_len h2, hh.raw.same but_same, h2⟩
        have hR5 : R.length ≤ 5 := by omega
        by_cases h0 : d8 = 0
        · refine ⟨_, rfl, rfl, _, rfl, ite_t (eq0 0 h0) ?_⟩
          refine ⟨_, rfl, Nat.zero_le _, fun e he => ?_⟩
          have s5 := Same.upd (o := .lst []) he
          have hE : IsRaw (upd H4 e (.lst [])) e ([] : List (List Int)) := ⟨[], upd_same, .nil⟩
          generalize hH5 : upd H4 e (.lst []) = H5 at s5 hE
          have sb25 := sb24.trans (SameBut.of s5)
          obtain ⟨rs, hq5, hrsl, hraw5, hpr5⟩ := rawAt H5 sb25
          refine ⟨_, _, raw_at hraw5, raw_at hE, toD_shaped _, toD_shaped _, _, rfl, ?_⟩
          rw [PySem.W.Datum.eqv]
          by_cases hR : R = []
          · refine ite_f (by rw [decide_eq_true hR]; rfl) ?_
            refine ⟨_, rfl, rfl, _, rfl, ite_f (ne0 1 (by omega)) ⟨_, rfl, rfl, _, rfl, ite_f (ne0 2 (by omega)) ?_⟩⟩
            obtain ⟨p1, p2, p3⟩ := plain H5 s5
            obtain ⟨rs, h1, h2, h3⟩ := fin H5 D ns _ _ p2 p3 p1 hDq hnl base2
            exact ⟨_, rfl, .inl ⟨rfl, _, SqL.of h1⟩, _, rfl, q, _, _, rfl, rfl, h1, szl (by rw [List.length_map]; omega), h3⟩
          · refine ite_t (by rw [decide_eq_false hR]; rfl) ?_
            have hrs0 : rV rs ≠ [] := fun z => hR (List.eq_nil_of_length_eq_zero (by rw [← hrsl, List.map_eq_nil_iff.mp z]; rfl))
            refine ⟨_, rfl, _, rfl, a, q, B + 8 * i + 1 + wd, _, rfl, hq5, hqa.symm, hrs0, by rw [List.length_map]; omega, hs4'.same s5, by omega, fun H6 j6 x6 sb6 hs6 hx6 => ?_⟩
            obtain ⟨p, hp, rfl⟩ := at_map hx6
            obtain ⟨row, hrow, hpr⟩ := paired_at hpr5 hp
            have hpr6 := sb_but sb6 _ _ (but_same _ _ hpr)
            refine ⟨p, _, rfl, .inl (SqL.of (but_same _ _ hpr6)), fun l hl => ?_⟩
            have hla : a ≠ l := hs6.ne hl
            have hlq : l ≠ q := fun z => by rw [z, sb6 _ _ hq5 (by simpa using hqa.symm)] at hl; cases hl
            obtain ⟨rs2, h1, h2, h3⟩ := fin (upd H6 l (.lst (iV row))) l row _ _ ((sb25.trans sb6).trans (SameBut.of (Same.upd hl))) ((hs6.same (Same.upd hl)).mono (by omega)) (but_at upd_same hla.symm) hlq (hwid row (List.mem_of_getElem? hrow)) (fun y hy => by have := hbig row (List.mem_of_getElem? hrow) y hy; omega)
            exact ⟨_, rfl, .inl ⟨rfl, _, SqL.of h1⟩, _, rfl, q, _, _, rfl, rfl, h1, szl (by rw [List.length_map]; omega), h3⟩
        · refine ⟨_, rfl, rfl, _, rfl, ite_f (ne0 0 h0) ?_⟩
          by_cases h1 : d8 = 1
          · refine ⟨_, rfl, rfl, _, rfl, ite_t (eq0 1 h1) ?_⟩
            refine ⟨_, rfl, Nat.zero_le _, fun e he => ?_⟩
            have s5 := Same.upd (o := .lst []) he
            have hE : IsRaw (upd H4 e (.lst [])) e ([] : List (List Int)) := ⟨[], upd_same, .nil⟩
            generalize hH5 : upd H4 e (.lst []) = H5 at s5 hE
            have sb25 := sb24.trans (SameBut.of s5)
            obtain ⟨rs, hq5, hrsl, hraw5, hpr5⟩ := rawAt H5 sb25
            refine ⟨_, _, raw_at hraw5, raw_at hE, toD_shaped _, toD_shaped _, _, rfl, ?_⟩
            rw [PySem.W.Datum.eqv]
            by_cases hR : R = []
            · refine ite_f (by rw [decide_eq_true hR]; rfl) ?_
              refine ⟨_, rfl, rfl, _, rfl, ite_f (ne0 2 (by omega)) ?_⟩
              obtain ⟨p1, p2, p3⟩ := plain H5 s5
              obtain ⟨rs, h1, h2, h3⟩ := fin H5 D ns _ _ p2 p3 p1 hDq hnl base2
              exact ⟨_, rfl, .inl ⟨rfl, _, SqL.of h1⟩, _, rfl, q, _, _, rfl, rfl, h1, szl (by rw [List.length_map]; omega), h3⟩
            · refine ite_t (by rw [decide_eq_false hR]; rfl) ?_
              have hrs0 : rV rs ≠ [] := fun z => hR (List.eq_nil_of_length_eq_zero (by rw [← hrsl, List.map_eq_nil_iff.mp z]; rfl))
              refine ⟨_, rfl, a, 3, B + 8 * i + 1 + wd, rfl, by decide, by decide, hs4'.same s5, by omega, fun H6 d6 sb6 hs6 hd6 => ⟨_, _, rfl, rfl, ?_⟩⟩
              have hq6 := sb6 _ _ hq5 (by simpa using hqa.symm)
              refine ⟨_, rfl, _, rfl, a, q, B + 8 * i + 1 + wd + 1, _, rfl, hq6, hqa.symm, hrs0, by rw [List.length_map]; omega, hs6, by omega, fun H7 j7 x7 sb7 hs7 hx7 => ?_⟩
              obtain ⟨p, hp, rfl⟩ := at_map hx7
              obtain ⟨row, hrow, hpr⟩ := paired_at hpr5 hp
              have hrm := List.mem_of_getElem? hrow
              have hpr7 := but_same _ _ (sb_but (sb6.trans sb7) _ _ (but_same _ _ hpr))
              refine ⟨p, rfl, ⟨_, SqL.of hpr7⟩, fun D2 hD2 => ?_⟩
              refine lc_it (jo_list (SqL.of hpr7)) (Same.refl _) (Same.refl _) hD2 (fun z => iV ((row.take z).map fun y => (1 + (d6 : Int)) * y)) rfl (fun z _ => by have := hwid row hrm; simp; omega) (fun z v3 H8 Nx Sk hz s8 hv3 kN _ => ?_) fun H8 s8 h8 => ?_
              · obtain ⟨z3, hz3, rfl⟩ := at_map hv3
                refine ⟨rfl, _, rfl, _, rfl, _, _, rfl, rfl, .inl (by constructor <;> omega), kN _ _ (Same.refl _) ?_⟩
                rw [take_map_more _ hz3]
                exact iV_snoc _ _
              · rw [List.length_map, List.take_length] at h8
                have hs8 := hs7.same s8
                have haD2 : a ≠ D2 := hs7.ne hD2
                have hD2q : D2 ≠ q := fun z => by rw [z, sb7 _ _ hq6 (by simpa using hqa.symm)] at hD2; cases hD2
                obtain ⟨rs2, h1, h2, h3⟩ := fin H8 D2 (row.map fun y => (1 + (d6 : Int)) * y) _ _ (((sb25.trans sb6).trans sb7).trans (SameBut.of s8)) (hs8.mono (by omega)) (but_at h8 haD2.symm) hD2q (by rw [List.length_map]; exact hwid row hrm) (fun y hy => by
                  obtain ⟨y0, hy0, rfl⟩ := List.mem_map.mp hy
                  have hb := hbig row hrm y0 hy0
                  rw [Int.natAbs_mul]
                  have h3 : (1 + (d6 : Int)).natAbs ≤ 3 := by omega
                  have := Nat.mul_le_mul h3 (Nat.le_refl y0.natAbs)
                  omega)
                exact ⟨_, rfl, .inl ⟨rfl, _, SqL.of h1⟩, _, rfl, q, _, _, rfl, rfl, h1, szl (by rw [List.length_map]; omega), h3⟩
          · refine ⟨_, rfl, rfl, _, rfl, ite_f (ne0 1 h1) ?_⟩
            by_cases h2 : d8 = 2
            · refine ⟨_, rfl, rfl, _, rfl, ite_t (eq0 2 h2) ?_⟩
              refine ⟨_, rfl, _, rfl, by omega, by omega, fun D2 hD2 => ?_⟩
              rw [hwn]
              have haD2 : a ≠ D2 := hs4'.ne hD2
              refine lc_sb [a] (jo_range 0 wd) (H0 := fun _ => none) (fun _ _ _ _ e => by cases e) hD2 (by simpa using haD2.symm) (fun j xs G => IsSrc G a (B + 8 * i + 1 + wd + j) ∧ ∃ ns : List Int, xs = iV ns ∧ ns.length = j ∧ ∀ y, y ∈ ns → y.natAbs ≤ 2)
                (fun j xs G G' sG ⟨e1, e2⟩ => ⟨e1.same sG, e2⟩) ⟨hs4', [], rfl, rfl, fun _ h => absurd h List.not_mem_nil⟩ (fun j xs G hj ⟨_, ns, e1, e2, _⟩ => by rw [e1, List.length_map]; omega) (fun j v xs H5 Nx Sk hj sb5 hv hD5 hpv kN _ => ?_) fun H5 xs sb5 d5 hpv => ?_
              · obtain ⟨hs5, ns2, rfl, hnl2, hn22⟩ := hpv
                refine ⟨rfl, sz (by simp), fun p hp => ?_⟩
                have hpa : p ≠ a := ((hs5.same but_same).ne hp).symm
                refine ⟨_, rfl, a, 3, B + 8 * i + 1 + wd + j, rfl, by decide, by decide, (hs5.same but_same).same (Same.upd hp), by omega, fun H6 d6 sb6 hs6 hd6 => ?_⟩
                have hl : H6 p = some (.lst (iV [0, 0, 1])) := sb6 _ _ upd_same (by simpa using hpa)
                have hd' : d6 < ([0, 0, 1] : List Int).length := hd6
                refine ⟨p, _, _, .int (([0, 0, 1] : List Int).getD d6 0), rfl, rfl, SqL.of hl, atIv hd', kN _ _ ((SameBut.of (Same.upd hp)).trans sb6) ⟨hs6.bt' haD2, ns2 ++ [([0, 0, 1] : List Int).getD d6 0], (iV_snoc _ _).symm, by rw [List.length_append]; simp; omega, fun y hy => ?_⟩⟩
                rcases List.mem_append.mp hy with hy | hy
                · exact hn22 y hy
                · rw [List.mem_singleton.mp hy]
                  have : ∀ d, d < 3 → (([0, 0, 1] : List Int).getD d 0).natAbs ≤ 2 := by decide
                  exact this d6 hd6
              · obtain ⟨hs5, ns2, rfl, hnl2, hn22⟩ := hpv
                have hD2q : D2 ≠ q := fun z => by
                  obtain ⟨rs, h1, _⟩ := rawAt H4 sb24
                  rw [z, h1] at hD2; cases hD2
                obtain ⟨rs2, h1, h2, h3⟩ := fin H5 D2 ns2 _ _ (sb24.trans sb5) ((hs5.same but_same).mono (by omega)) (but_at d5 haD2.symm) hD2q hnl2 (fun y hy => by have := hn22 y hy; omega)
                exact ⟨_, rfl, .inl ⟨rfl, _, SqL.of h1⟩, _, rfl, q, _, _, rfl, rfl, h1, szl (by rw [List.length_map]; omega), h3⟩
            · refine ⟨_, rfl, rfl, _, rfl, ite_f (ne0 2 h2) ?_⟩
              obtain ⟨p1, p2, p3⟩ := plain H4 (Same.refl _)
              obtain ⟨rs, h1, h2, h3⟩ := fin H4 D ns _ _ p2 p3 p1 hDq hnl base2
              exact ⟨_, rfl, .inl ⟨rfl, _, SqL.of h1⟩, _, rfl, q, _, _, rfl, rfl, h1, szl (by rw [List.length_map]; omega), h3⟩
    · rintro σ H1 ⟨R, v4, v5, v6, v8, rfl, sb1, hsrc1, hraw1, hlen, hwid, hbig⟩
      refine ⟨_, rfl, k H1 q R sb1 hq (hsrc1.mono (by omega)) hraw1.raw hlen hwid fun l hl y hy => ?_⟩
      have h1 := hbig l hl y hy
      have h2 : (3 : Nat) ^ m ≤ 3 ^ 5 := Nat.pow_le_pow_right (by decide) hm
      have h3 : (3 : Nat) ^ 5 = 243 := by decide
      have h4 : (2 : Nat) ^ 8 = 256 := by decide
      omega
end
end KW
end
section
set_option Elab.async false
set_option linter.all false
set_option maxRecDepth 100000
set_option maxHeartbeats 8000000
set_option pp.maxSteps 300
/-! The law: is_lot, is_many, is_shown, are_right. -/
namespace KW
open PySem PySem.Spec PyProof.Rows L2
section
variable {P : Program} {w : World} {K : PySem.W.Frag} {mg : Str → Option Value} {base : Heap}
def rLen (K : PySem.W.Frag) : List V → Hp → VK → Prop := fun xs H Q => ∃ p ys, xs = [.ref p] ∧ (SqL K H p ys ∨ SqT K H p ys) ∧ Q (.int ys.length) H
abbrev nmIsLot : List Str := ["_law_lot", "_law_many", "_law_row"]
theorem scIsLot : FnScope nmIsLot ["_law_lot", "_law_many"] (defScope s_l_is_lot) := ⟨rfl, rfl, rfl, by decide +kernel, rfl, by decide +kernel, by decide +kernel⟩
def spIsLot : Sp := fun vs H Q _ => ∃ (l : Addr) (n : Nat) (lot : List Nat), vs = [.ref l, .int (n : Int)] ∧ H l = some (.lst (nV lot)) ∧ (∀ r, r ∈ lot → r < n) ∧ lot.Pairwise (· < ·) ∧ lot.length ≤ 20 ∧ ∀ H', Same H H' → Q (.bl true) H'
theorem c_isLot (T : Txt2 P K mg) : C8.Cal P w K mg base 1 "_law_is_lot" spIsLot [] := by
  obtain ⟨fd, F⟩ := T.fn_l_is_lot
  refine mkCal F T.g_l_is_lot (fun _ _ _ _ _ _ us hl => match us, hl with | [_, _], _ => rfl) scIsLot (fun vs H Q E h => ?_) fun cdv A outer s H vs Q E hr h => ?_
  · obtain ⟨l, n, lot, rfl, _⟩ := h
    rfl
  · obtain ⟨l, n, lot, rfl, hl, hlt, hsrt, h20, k⟩ := h
    have hu := hr.units
    refine ⟨_, (pss_cons (ps_if (pt_not (pt_val (pe_callB call_isiT (by rfl) T.f_isinstance boot_isinstance (pa_cons (pv 0) (pa_cons (pe_tup (pa_cons (pe_bltn (v := .ty "list") (by rfl) T.f_list (boot_T "list") rfl) (pa_cons (pe_bltn (v := .ty "tuple") (by rfl) T.f_tuple (boot_T "tuple") rfl) pa_nil))) pa_nil))))) (pss_one (ps_ret pe_bl)) pss_nil) (pss_cons (ps_if (pt_not (pt_val (pe_callB (cr_all rfl) (by rfl) T.f_all boot_all (pa_cons (pe_lc (own := [("_law_row", 2)]) (g := gName 2) (tt := tYes) (te := tAndV (tCB (rIsi K) (tCons (tVar 2) (tCons (tC (.ty "int")) tNil))) (tAndV (tNotV (tCB (rIsi K) (tCons (tVar 2) (tCons (tC (.ty "bool")) tNil)))) (tChain (rI0 fun i j => .bl (decide (i ≤ j))) (rI0 fun i j => .bl (decide (i < j))) (tC (.int 0)) (tVar 2) (tVar 1)))) rfl scIsLot.nd (pi_list (pv 0)) (blkOk_by (N := nmIsLot) (sc := defScope s_l_is_lot) (by decide +kernel)) (fun _ _ _ _ _ => pg_name (i := 2) scIsLot.nd rfl (Or.inl rfl)) (fun _ _ _ _ _ => pts_nil)
            (fun _ _ _ _ _ => pe_and (pe_callB call_isi (by rfl) T.f_isinstance boot_isinstance (pa_cons (pv 2) (pa_cons (pe_bltn (v := .ty "int") (by rfl) T.f_int (boot_T "int") rfl) pa_nil))) (pe_and (pe_not (pe_callB call_isi (by rfl) T.f_isinstance boot_isinstance (pa_cons (pv 2) (pa_cons (pe_bltn (v := .ty "bool") (by rfl) T.f_bool (boot_T "bool") rfl) pa_nil)))) (pe_one (pe_chain op_le op_lt pe_int (pv 2) (pv 1)))))) pa_nil)))) (pss_one (ps_ret pe_bl)) pss_nil) (pss_one (ps_ret (pe_cmpR (op_eqD hu) (pe_callTy call_list_of (by rfl) T.f_list (boot_T "list") (pa_cons (pv 0) pa_nil)) (pe_callB (cr_sortedSet rfl) (by rfl) T.f_sorted boot_sorted (pa_cons (pe_callTy (cr_setOf rfl) (by rfl) T.f_set (boot_T "set") (pa_cons (pv 0) pa_nil)) pa_nil)) (nomark _)))))), ?_⟩
    refine ⟨_, rfl, sz (by decide), fun p hp => ?_⟩
    refine ⟨_, p, _, _, _, _, rfl, upd_same, .cons (.ty _) (.cons (.ty _) .nil), .base (.lst (xs := nV lot) (by rw [upd_ne (ne_of_none hl hp)]; exact hl)), kitAny_cons (kit_ty k_ll) (fun h => nomatch h) (fun _ => rfl), _, rfl, ite_f rfl ?_⟩
    have s1 := Same.upd (o := .tup [V.ty "list", .ty "tuple"]) hp
    have hl1 := s1 _ _ hl
    generalize hH1 : upd H p (.tup [V.ty "list", .ty "tuple"]) = H1 at s1 hl1
    refine ⟨_, rfl, l, rfl, ⟨_, SqL.of hl1⟩, fun D hD => ?_⟩
    refine lc_it (jo_list (SqL.of hl1)) (Same.refl _) (Same.refl _) hD (fun i => (List.replicate i true).map V.bl) rfl (fun i hi => by rw [List.length_map] at hi; simp; omega) (fun i x H' Nx Sk hi s2 hx kN kS => ?_) fun H2 s2 d2 => ?_
    · obtain ⟨r, hr', rfl⟩ := at_map hx
      obtain ⟨t, ht, k1, k2⟩ := thing_ty (K := K) (H := H') (x := .int (r : Int)) (.inr (.inr (.inl ⟨_, rfl⟩)))
      have hrn := hlt r (List.mem_of_getElem? hr')
      refine ⟨rfl, _, rfl, _, _, _, _, _, rfl, .ty _, ht, k1, _, rfl, iteT ⟨_, rfl, _, _, _, _, _, rfl, .ty _, ht, k2, _, rfl, _, rfl, iteT ?_⟩⟩
      refine ⟨_, rfl, 0, (r : Int), rfl, rfl, _, rfl, ?_⟩
      rw [decide_eq_true (Int.natCast_nonneg r)]
      refine iteT ⟨_, rfl, (r : Int), (n : Int), rfl, rfl, ?_⟩
      show Nx (V.bl (decide ((r : Int) < (n : Int)))) H'
      rw [decide_eq_true (by omega : (r : Int) < (n : Int))]
      exact kN _ _ (Same.refl _) (by rw [List.replicate_succ', List.map_append]; rfl)
    · refine ⟨D, _, rfl, SqL.of d2, ?_⟩
      rw [all_true]
      have hl2 := s2 _ _ hl1
      refine ⟨_, rfl, ite_f rfl ⟨_, rfl, l, _, rfl, .inl (SqL.of hl2), fun p3 hp3 => ?_⟩⟩
      have s3 := Same.upd (o := .lst (nV lot)) hp3
      have hl3 := s3 _ _ hl2
      have h33 : (upd H2 p3 (.lst (nV lot))) p3 = some (.lst (nV lot)) := upd_same
      generalize hH3 : upd H2 p3 (.lst (nV lot)) = H3 at s3 hl3 h33
      refine ⟨_, rfl, l, lot.map fun (r : Nat) => (r : Int), rfl, SqL.of (by rw [hl3, nV_iV]), by rw [List.length_map]; omega, fun c p4 hc hp4 => ?_⟩
      rw [List.length_map] at hc
      refine ⟨p4, _, _, rfl, upd_same, by omega, fun ns p5 hns hnk _ hp5 => ?_⟩
      have ek : ns = lot.map fun (r : Nat) => (r : Int) := nats_int hns hsrt fun r => by
        rw [hnk r, decide_eq_true_iff]
        constructor
        · intro h
          obtain ⟨k, hk, rfl⟩ := List.mem_map.mp h
          exact ⟨k, hk, rfl⟩
        · rintro ⟨k, hk, rfl⟩
          exact List.mem_map.mpr ⟨k, hk, rfl⟩
      subst ek
      have s5 := (Same.upd (o := SetO w p4 (fun j => decide (j ∈ lot.map fun (r : Nat) => (r : Int))) c) hp4).upd' (o := .lst (iV (lot.map fun (r : Nat) => (r : Int)))) hp5
      have e1 : At K (upd (upd H3 p4 (SetO w p4 (fun j => decide (j ∈ lot.map fun (r : Nat) => (r : Int))) c)) p5 (.lst (iV (lot.map fun (r : Nat) => (r : Int))))) (.ref p3) lot := at_nats (SqL.of (s5 _ _ h33))
      have e2 : At K (upd (upd H3 p4 (SetO w p4 (fun j => decide (j ∈ lot.map fun (r : Nat) => (r : Int))) c)) p5 (.lst (iV (lot.map fun (r : Nat) => (r : Int))))) (.ref p5) lot := at_nats (SqL.of (by rw [upd_same, nV_iV]))
      refine ⟨_, _, e1, e2, toD_shaped _, toD_shaped _, ?_⟩
      rw [PySem.W.Datum.eqv, decide_eq_true rfl]
      exact k _ (((s1.trans s2).trans s3).trans s5)
/-! ### is_many, is_shown -/
abbrev nmIsMany : List Str := ["_law_parts", "_law_count", "_law_lot"]
theorem scIsMany : FnScope nmIsMany ["_law_parts", "_law_count", "_law_lot"] (defScope s_l_is_many) := ⟨rfl, rfl, rfl, by decide +kernel, rfl, by decide +kernel, by decide +kernel⟩
def spIsMany : Sp := fun vs H Q _ => ∃ (a l : Addr) (f : Int) (wd n c : Nat) (R : List (List Int)) (lot : List Nat), vs = [.ref a, .int (c : Int), .ref l] ∧ IsParts H a f R ∧ PartsOk f wd n R ∧ H l = some (.lst (nV lot)) ∧ (∀ r, r ∈ lot → r < n) ∧ lot.Pairwise (· < ·) ∧ c ≤ 4 ∧ c * KP.rankOf f R lot < lot.length ∧ ∀ H', Same H H' → Q (.bl true) H'
theorem c_isMany (T : Txt2 P K mg) : C8.Cal P w K mg base 3 "_law_is_many" spIsMany [] := by
  obtain ⟨fd, F⟩ := T.fn_l_is_many
  refine mkCal F T.g_l_is_many (fun _ _ _ _ _ _ us hl => match us, hl with | [_, _, _], _ => rfl) scIsMany (fun vs H Q E h => ?_) fun cdv A outer s H vs Q E hr h => ?_
  · obtain ⟨a, l, f, wd, n, c, R, lot, rfl, _⟩ := h
    rfl
  · obtain ⟨a, l, f, wd, n, c, R, lot, rfl, hparts, ok, hl, hlt, hsrt, hc, hmany, k⟩ := h
    have h20 : lot.length ≤ 20 := Nat.le_trans (nd_len hsrt hlt) ok.n20
    refine ⟨_, (pss_one (ps_ret (pe_and (C8.pe_c (c_isLot T) hr (by decide) (by rfl) (pa_cons (pv 2) (pa_cons (pe_callB call_len_seq (by rfl) T.f_len boot_len (pa_cons (pe_ix ix_list (pv 0) pe_int (fun _ _ => rfl)) pa_nil)) pa_nil)))
      (pe_one (pe_cmpR op_gt (pe_callB call_len_seq (by rfl) T.f_len boot_len (pa_cons (pv 2) pa_nil)) (pe_op op_mul (pv 1) (C8.pe_c (c_rankOf T) hr (by decide) (by rfl) (pa_cons (pv 0) (pa_cons (pv 2) pa_nil)))) (nomark _)))))), ?_⟩
    obtain ⟨ar, ha, rs, har, hrs⟩ := id hparts
    have hrl : rs.length = n := by rw [paired_len hrs, ok.len]
    refine ⟨_, rfl, _, rfl, a, _, 0, .ref ar, rfl, rfl, SqL.of ha, at0, ar, _, rfl, .inl (SqL.of har), ?_⟩
    rw [List.length_map, hrl]
    refine ⟨l, n, lot, rfl, hl, hlt, hsrt, h20, fun H1 s1 => ⟨_, rfl, iteT ?_⟩⟩
    refine ⟨_, rfl, l, _, rfl, .inl (SqL.of (s1 _ _ hl)), _, rfl, _, rfl, _, rfl, a, l, f, wd, n, R, lot, rfl, hparts.same s1, ok, s1 _ _ hl, hlt, h20, fun H2 s2 => ⟨_, _, rfl, rfl, .inl (by constructor <;> omega), _, _, rfl, rfl, ?_⟩⟩
    rw [nV_len]
    have e : ((c : Int) * ((KP.rankOf f R lot : Nat) : Int)) < ((lot.length : Nat) : Int) := by
      have := hmany
      rw [← Int.natCast_mul]; omega
    show Q (V.bl (decide ((c : Int) * ((KP.rankOf f R lot : Nat) : Int) < ((lot.length : Nat) : Int)))) H2
    rw [decide_eq_true e]
    exact k _ (s1.trans s2)
abbrev nmIsShown : List Str := ["_law_parts", "_law_lot", "_law_rows_here", "_law_count", "_law_row"]
theorem scIsShown : FnScope nmIsShown ["_law_parts", "_law_lot", "_law_rows_here", "_law_count"] (defScope s_l_is_shown) := ⟨rfl, rfl, rfl, by decide +kernel, rfl, by decide +kernel, by decide +kernel⟩
def spIsShown : Sp := fun vs H Q _ => ∃ (a l rh : Addr) (f : Int) (wd n c : Nat) (R : List (List Int)) (lot rows : List Nat), vs = [.ref a, .ref l, .ref rh, .int (c : Int)] ∧ IsParts H a f R ∧ PartsOk f wd n R ∧ H l = some (.lst (nV lot)) ∧ H rh = some (.lst (nV rows)) ∧ (∀ r, r ∈ lot → r ∈ rows) ∧ (∀ r, r ∈ rows → r < n) ∧ lot.Pairwise (· < ·) ∧ c ≤ 4 ∧ c * KP.rankOf f R lot < lot.length ∧
  ∀ H', Same H H' → Q (.bl true) H'
theorem c_isShown (T : Txt2 P K mg) : C8.Cal P w K mg base 4 "_law_is_shown" spIsShown [] := by
  obtain ⟨fd, F⟩ := T.fn_l_is_shown
  refine mkCal F T.g_l_is_shown (fun _ _ _ _ _ _ us hl => match us, hl with | [_, _, _, _], _ => rfl) scIsShown (fun vs H Q E h => ?_) fun cdv A outer s H vs Q E hr h => ?_
  · obtain ⟨a, l, rh, f, wd, n, c, R, lot, rows, rfl, _⟩ := h
    rfl
  · obtain ⟨a, l, rh, f, wd, n, c, R, lot, rows, rfl, hparts, ok, hl, hrh, hsub, hlt, hsrt, hc, hmany, k⟩ := h
    have hlt2 : ∀ r, r ∈ lot → r < n := fun r h => hlt r (hsub r h)
    have h20 : lot.length ≤ 20 := Nat.le_trans (nd_len hsrt hlt2) ok.n20
    refine ⟨_, (pss_one (ps_ret (pe_and (pe_callB (cr_all rfl) (by rfl) T.f_all boot_all (pa_cons (pe_lc (own := [("_law_row", 4)]) (g := gName 4) (tt := tYes) (te := tOp (rIn K false) (tVar 4) (tVar 2)) rfl scIsShown.nd (pi_list (pv 1)) (blkOk_by (N := nmIsShown) (sc := defScope s_l_is_shown) (by decide +kernel)) (fun _ _ _ _ _ => pg_name (i := 4) scIsShown.nd rfl (Or.inl rfl)) (fun _ _ _ _ _ => pts_nil)
          (fun _ _ _ _ _ => pe_cmpR op_in_seq (pv 4) (pv 2) (by rfl))) pa_nil))
      (pe_one (C8.pe_c (c_isMany T) hr (by decide) (by rfl) (pa_cons (pv 0) (pa_cons (pv 3) (pa_cons (pv 1) pa_nil)))))))), ?_⟩
    refine ⟨_, rfl, l, rfl, ⟨_, SqL.of hl⟩, fun D hD => ?_⟩
    refine lc_it (jo_list (SqL.of hl)) (Same.refl _) (Same.refl _) hD (fun i => (List.replicate i true).map V.bl) rfl (fun i hi => by rw [List.length_map] at hi; simp; omega) (fun i x H' Nx Sk hi s2 hx kN kS => ?_) fun H2 s2 d2 => ?_
    · obtain ⟨r, hr', rfl⟩ := at_map hx
      refine ⟨rfl, _, rfl, _, rfl, rh, _, rfl, .inl (SqL.of (s2 _ _ hrh)), rfl, flat_nats _, ?_⟩
      show Nx (.bl (inV (.int (r : Int)) (nV rows))) H'
      rw [inV_nats, List.contains_iff_mem.mpr (hsub r (List.mem_of_getElem? hr'))]
      exact kN _ _ (Same.refl _) (by rw [List.replicate_succ', List.map_append]; rfl)
    · refine ⟨D, _, rfl, SqL.of d2, ?_⟩
      rw [all_true]
      exact ⟨_, rfl, iteT ⟨_, rfl, _, rfl, _, rfl, a, l, f, wd, n, c, R, lot, rfl, hparts.same s2, ok, s2 _ _ hl, hlt2, hsrt, hc, hmany, fun H' s' => k H' (s2.trans s')⟩⟩
end
end KW
end
section
set_option Elab.async false
set_option linter.all false
set_option maxRecDepth 100000
set_option maxHeartbeats 8000000
set_option pp.maxSteps 300
/-! The law: are_right. -/
namespace KW
open PySem PySem.Spec PyProof.Rows L2
section
variable {P : Program} {w : World} {K : PySem.W.Frag} {mg : Str → Option Value} {base : Heap}
theorem sum_lens : ∀ (L : List (List Nat)) (k : Nat), (L.map fun lot => ((lot.length : Nat) : Int)).sum = ((KP.seatsFrom k L).length : Nat)
  | [], _ => rfl
  | lot :: L, k => by
    have ih := sum_lens L (k + 1)
    show ((lot.length : Nat) : Int) + (L.map fun lot => ((lot.length : Nat) : Int)).sum = (((lot.map fun r => (r, k)) ++ KP.seatsFrom (k + 1) L).length : Nat)
    rw [ih, List.length_append, List.length_map]; omega
theorem way_keys {f : Int} {R : List (List Int)} {rows : List Nat} {c : Nat} {L : List (List Nat)} (W : KP.IsWay f R rows c L) (hs : rows.Pairwise (· < ·)) : KP.srt ((KP.seats L).map (·.1)) = rows :=
  KP.sorted_uniq (KP.srt_lt (KP.seats_nodup W.nodup W.dis)) hs fun r => by rw [KP.mem_srt, W.keys]
theorem way_count {f : Int} {R : List (List Int)} {rows : List Nat} {c : Nat} {L : List (List Nat)} (W : KP.IsWay f R rows c L) (hs : rows.Pairwise (· < ·)) : (KP.seats L).length = rows.length := by
  rw [← way_keys W hs, (KP.srt_perm _).length_eq, List.length_map]
theorem ll_at {H : Hp} {a : Addr} {L : List (List Nat)} (h : IsLL H a L) : At K H (.ref a) L := by
  obtain ⟨rs, x, y⟩ := h
  exact at_list (SqL.of x) (paired_mapL V.ref (paired_mono (fun p l e => at_nats (SqL.of e)) y))
abbrev nmAreRight : List Str := ["_law_parts", "_law_lots", "_law_rows_here", "_law_count", "_law_lot"]
theorem scAreRight : FnScope nmAreRight ["_law_parts", "_law_lots", "_law_rows_here", "_law_count"] (defScope s_l_are_right) := ⟨rfl, rfl, rfl, by decide +kernel, rfl, by decide +kernel, by decide +kernel⟩
def spAreRight : Sp := fun vs H Q _ => ∃ (a b rh : Addr) (f : Int) (wd n c : Nat) (R : List (List Int)) (L : List (List Nat)) (rows : List Nat), vs = [.ref a, .ref b, .ref rh, .int (c : Int)] ∧ IsParts H a f R ∧ PartsOk f wd n R ∧ IsLL H b L ∧ H rh = some (.lst (nV rows)) ∧ rows.Pairwise (· < ·) ∧ (∀ r, r ∈ rows → r < n) ∧ KP.IsWay f R rows c L ∧ c ≤ 4 ∧
  ∀ H', Same H H' → Q (.bl true) H'
theorem c_areRight (T : Txt2 P K mg) : C8.Cal P w K mg base 3 "_law_are_right" spAreRight [] := by
  obtain ⟨fd, F⟩ := T.fn_l_are_right
  refine mkCal F T.g_l_are_right (fun _ _ _ _ _ _ us hl => match us, hl with | [_, _, _, _], _ => rfl) scAreRight (fun vs H Q E h => ?_) fun cdv A outer s H vs Q E hr h => ?_
  · obtain ⟨a, b, rh, f, wd, n, c, R, L, rows, rfl, _⟩ := h
    rfl
  · obtain ⟨a, b, rh, f, wd, n, c, R, L, rows, rfl, hparts, ok, hL, hrh, hsrt, hlt, W, hc, k⟩ := h
    have hu := hr.units
    have hrows20 : rows.length ≤ 20 := Nat.le_trans (nd_len hsrt hlt) ok.n20
    have hcount := way_count W hsrt
    obtain ⟨ls, hb, hls⟩ := id hL
    have hlsl : ls.length = c := by rw [paired_len hls, W.len]
    refine ⟨_, (pss_cons (ps_if (PW.pt (pw_or (pt_not (pt_val (pe_callB call_isi (by rfl) T.f_isinstance boot_isinstance (pa_cons (pv 1) (pa_cons (pe_bltn (v := .ty "list") (by rfl) T.f_list (boot_T "list") rfl) pa_nil))))) (pw_or (pt_cmpR op_ne (pe_callB call_len_seq (by rfl) T.f_len boot_len (pa_cons (pv 1) pa_nil)) (pv 3) (nomark _))
          (pw_or1 (pt_cmpR (op_neD hu) (pe_callB (call_sortedDI rfl) (by rfl) T.f_sorted boot_sorted (pa_cons (C8.pe_c (c_seats T) hr (by decide) (by rfl) (pa_cons (pv 1) pa_nil)) pa_nil)) (pv 2) (nomark _)))))) (pss_one (ps_ret pe_bl)) pss_nil) (pss_cons (ps_if (pt_cmpR op_ne (pe_callB (cr_sum rfl) (by rfl) T.f_sum boot_sum (pa_cons (pe_lc (own := [("_law_lot", 4)]) (g := gName 4) (tt := tYes) (te := tCB (rLen K) (tCons (tVar 4) tNil)) rfl scAreRight.nd (pi_list (pv 1)) (blkOk_by (N := nmAreRight) (sc := defScope s_l_are_right) (by decide +kernel)) (fun _ _ _ _ _ => pg_name (i := 4) scAreRight.nd rfl (Or.inl rfl)) (fun _ _ _ _ _ => pts_nil)
            (fun _ _ _ _ _ => pe_callB call_len_seq (by rfl) T.f_len boot_len (pa_cons (pv 4) pa_nil))) pa_nil)) (pe_callB call_len_seq (by rfl) T.f_len boot_len (pa_cons (pv 2) pa_nil)) (nomark _)) (pss_one (ps_ret pe_bl)) pss_nil) (pss_one (ps_ret (pe_callB (cr_all rfl) (by rfl) T.f_all boot_all (pa_cons (pe_lc (own := [("_law_lot", 4)]) (g := gName 4) (tt := tYes) (te := tAndV (tOp (rEqD K) (tVar 4) (tCB (rSorted K) (tCons (tVar 4) tNil))) (tOp rEq (tCall spRankOf [] C8.E0 (tCons (tVar 0) (tCons (tVar 4) tNil))) (tCB (rLen K) (tCons (tVar 4) tNil)))) rfl scAreRight.nd (pi_list (pv 1)) (blkOk_by (N := nmAreRight) (sc := defScope s_l_are_right) (by decide +kernel)) (fun _ _ _ _ _ => pg_name (i := 4) scAreRight.nd rfl (Or.inl rfl)) (fun _ _ _ _ _ => pts_nil)
            (fun _ _ _ _ _ => pe_and (pe_cmpR (op_eqD hu) (pv 4) (pe_callB cr_sorted (by rfl) T.f_sorted boot_sorted (pa_cons (pv 4) pa_nil)) (nomark _)) (pe_one (pe_cmpR op_eq (C8.pe_c (c_rankOf T) hr (by decide) (by rfl) (pa_cons (pv 0) (pa_cons (pv 4) pa_nil))) (pe_callB call_len_seq (by rfl) T.f_len boot_len (pa_cons (pv 4) pa_nil)) (nomark _))))) pa_nil)))))), ?_⟩
    refine ⟨_, rfl, _, _, _, _, _, rfl, .ty _, .base (.lst hb), kit_ty k_ll, _, rfl, ite_f rfl ?_⟩
    refine ⟨_, rfl, b, _, rfl, .inl (SqL.of hb), _, rfl, rfl, _, rfl, ?_⟩
    rw [List.length_map, hlsl]
    refine ite_f (by rw [decide_eq_true rfl]; rfl) ?_
    refine ⟨_, rfl, b, L, rfl, hL, KP.seats_nodup W.nodup W.dis, by omega, fun H1 q1 s1 hq1 h1 => ?_⟩
    refine ⟨q1, _, ((KP.seats L).map (·.1)).map fun (r : Nat) => (r : Int), rfl, .inl h1, movesD_keys2 _, by rw [List.length_map, List.length_map]; omega, fun ys q3 hperm hs hq3 => ?_⟩
    rw [nats_le hperm hs, way_keys W hsrt]
    have s3 := Same.upd (o := .lst ((rows.map fun (r : Nat) => (r : Int)).map V.int)) hq3
    have e1 : At K (upd H1 q3 (.lst ((rows.map fun (r : Nat) => (r : Int)).map V.int))) (.ref q3) rows := at_nats (SqL.of (by rw [upd_same, nV_iV]))
    generalize hH3 : upd H1 q3 (.lst ((rows.map fun (r : Nat) => (r : Int)).map V.int)) = H3 at s3 e1
    have s03 := s1.trans s3
    have e2 : At K H3 (.ref rh) rows := at_nats (SqL.of (s03 _ _ hrh))
    refine ⟨_, rfl, _, _, e1, e2, toD_shaped _, toD_shaped _, _, rfl, ?_⟩
    rw [PySem.W.Datum.eqv]
    refine ite_f (by rw [decide_eq_true rfl]; rfl) ?_
    have hb3 := s03 _ _ hb
    refine ⟨_, rfl, b, rfl, ⟨_, SqL.of hb3⟩, fun D hD => ?_⟩
    refine lc_it (jo_list (SqL.of hb3)) (Same.refl _) (Same.refl _) hD (fun i => iV ((L.take i).map fun lot => ((lot.length : Nat) : Int))) rfl (fun i hi => by simp; have := W.len; omega) (fun i x H' Nx Sk hi s4 hx kN kS => ?_) fun H4 s4 d4 => ?_
    · obtain ⟨l, hl, rfl⟩ := at_map hx
      obtain ⟨lot, hlot, hll⟩ := paired_at hls hl
      refine ⟨rfl, _, rfl, l, _, rfl, .inl (SqL.of (s4 _ _ (s03 _ _ hll))), kN _ _ (Same.refl _) ?_⟩
      rw [take_map_more _ hlot, nV_len]
      exact iV_snoc _ _
    · rw [List.length_map, hlsl, ← W.len, List.take_length] at d4
      refine ⟨D, _, rfl, SqL.of d4, ?_⟩
      rw [sum_lens L 0]
      have s04 := s03.trans s4
      refine ⟨_, rfl, rh, _, rfl, .inl (SqL.of (s04 _ _ hrh)), rfl, _, rfl, ?_⟩
      rw [nV_len]
      have e3 : (KP.seatsFrom 0 L).length = rows.length := hcount
      rw [e3]
      refine ite_f (by rw [decide_eq_true rfl]; rfl) ?_
      have hb4 := s04 _ _ hb
      refine ⟨_, rfl, b, rfl, ⟨_, SqL.of hb4⟩, fun D2 hD2 => ?_⟩
      refine lc_it (jo_list (SqL.of hb4)) (Same.refl _) (Same.refl _) hD2 (fun i => (List.replicate i true).map V.bl) rfl (fun i hi => by rw [List.length_map] at hi; simp; omega) (fun i x H' Nx Sk hi s5 hx kN kS => ?_) fun H5 s5 d5 => ?_
      · obtain ⟨l, hl, rfl⟩ := at_map hx
        obtain ⟨lot, hlot, hll⟩ := paired_at hls hl
        have hm := List.mem_of_getElem? hlot
        have hlotlt : ∀ r, r ∈ lot → r < n := fun r hr' => by
          refine hlt r ((W.rows_ r).mpr ⟨i, KP.memL_iff.mpr ?_⟩)
          rw [List.getD_eq_getElem?_getD, hlot]; exact hr'
        have hl20 : lot.length ≤ 20 := Nat.le_trans (nd_len (W.srt lot hm) hlotlt) ok.n20
        have s05 := s04.trans s5
        have hl5 := s05 _ _ hll
        refine ⟨rfl, _, rfl, _, rfl, l, lot.map fun (r : Nat) => (r : Int), rfl, SqL.of (by rw [hl5, nV_iV]), by rw [List.length_map]; omega, fun ns' q hperm hsrt' hq => ?_⟩
        rw [nV_srt hperm hsrt', KP.srt_id (W.srt lot hm)]
        have s6 := Same.upd (o := .lst (nV lot)) hq
        refine ⟨_, _, at_nats (SqL.of (s6 _ _ hl5)), at_nats (SqL.of upd_same), toD_shaped _, toD_shaped _, _, rfl, ?_⟩
        rw [PySem.W.Datum.eqv, decide_eq_true rfl]
        refine iteT ⟨_, rfl, _, rfl, a, l, f, wd, n, R, lot, rfl, hparts.same (s05.trans s6), ok, s6 _ _ hl5, hlotlt, hl20, fun H7 s7 => ⟨_, rfl, l, _, rfl, .inl (SqL.of (s7 _ _ (s6 _ _ hl5))), rfl, ?_⟩⟩
        rw [nV_len, W.free lot hm, decide_eq_true rfl]
        exact kN _ _ (s6.trans s7) (by rw [List.replicate_succ', List.map_append]; rfl)
      · refine ⟨D2, _, rfl, SqL.of d5, ?_⟩
        rw [all_true]
        exact k _ (s04.trans s5)
end
end KW
end
section
set_option Elab.async false
set_option linter.all false
set_option maxRecDepth 100000
set_option maxHeartbeats 8000000
set_option pp.maxSteps 300
/-! The law: come_right. -/
namespace KW
open PySem PySem.Spec PyProof.Rows L2
section
variable {P : Program} {w : World} {K : PySem.W.Frag} {mg : Str → Option Value} {base : Heap}
theorem movesD_kV (pl : List (Nat × Nat)) : ((movesD pl).map fun kv => kV kv.1) = nV (pl.map (·.1)) := by
  unfold movesD nV
  rw [List.map_map, List.map_map]; rfl
theorem movesD_len (pl : List (Nat × Nat)) : (movesD pl).length = pl.length := List.length_map ..
theorem ways_at {H : Hp} {a : Addr} {W : List (List (List Nat))} (h : IsWays H a W) : At K H (.ref a) W := by
  obtain ⟨rs, x, y⟩ := h
  exact at_list (SqL.of x) (paired_mapL V.ref (paired_mono (fun p l e => ll_at e) y))
theorem pairs_at {H : Hp} {p : Addr} {ts : List Addr} {pl : List (Nat × Nat)} (h : H p = some (.lst (ts.map V.ref))) (q : Paired (fun (t : Addr) (q : Key × V) => H t = some (.tup [kV q.1, q.2])) ts (movesD pl)) : At K H (.ref p) pl := by
  refine at_list (SqL.of h) (paired_mapL V.ref (paired_of ?_ fun i t z h1 h2 => ?_))
  · rw [paired_len q, movesD_len]
  · obtain ⟨kv, hkv, e⟩ := paired_at q h1
    unfold movesD at hkv
    rw [List.getElem?_map, h2] at hkv
    cases hkv
    exact at_pair (.inl (.inl e)) (at_nat _) (at_nat _)
theorem empty_at {H : Hp} {a : Addr} {α : Type} [DecidableEq α] [PySem.W.Datum α] (h : H a = some (.lst [])) : At K H (.ref a) ([] : List α) := at_list (SqL.of h) .nil
theorem way_le {f : Int} {R : List (List Int)} {rows : List Nat} {c : Nat} {L : List (List Nat)} (W : KP.IsWay f R rows c L) (hn : rows.Nodup) : (KP.seats L).length ≤ rows.length := by
  have h1 := KP.seats_nodup W.nodup W.dis
  have h2 : (KP.srt ((KP.seats L).map (·.1))) = KP.srt rows := KP.sorted_uniq (KP.srt_lt h1) (KP.srt_lt hn) fun r => by rw [KP.mem_srt, KP.mem_srt, W.keys]
  have h3 := congrArg List.length h2
  rw [(KP.srt_perm _).length_eq, (KP.srt_perm _).length_eq, List.length_map] at h3
  omega
theorem PartsOk.dom {f : Int} {wd n : Nat} {R : List (List Int)} (ok : PartsOk f wd n R) : KP.Dom f ∧ 0 ≤ f ∧ f ≤ 13 := ⟨KP.dom_of ok.fld, field_bounds ok.fld⟩
theorem PartsOk.raw {f : Int} {wd n : Nat} {R : List (List Int)} (ok : PartsOk f wd n R) : KP.RawOk wd n R := ⟨ok.len, ok.wid, ok.big⟩
theorem foldWays_len (f : Int) (R : List (List Int)) (c C : Nat) (hc : c ≤ C) : ∀ (rows : List Nat) (W : List (List (List Nat))), (rows.foldl (KP.waysRow f R c) W).length ≤ C ^ rows.length * W.length
  | [], W => by simp
  | r :: rows, W => by
    have h1 := foldWays_len f R c C hc rows (KP.waysRow f R c W r)
    have h2 := waysRow_len f R c r W
    have h3 : c * W.length ≤ C * W.length := Nat.mul_le_mul_right _ hc
    rw [List.foldl_cons, List.length_cons, Nat.pow_succ, Nat.mul_assoc]
    exact Nat.le_trans h1 (Nat.mul_le_mul_left _ (Nat.le_trans h2 h3))
theorem allLots_len {f : Int} {R : List (List Int)} {c : Nat} (hc : c ≤ 4) {rows : List Nat} (h : rows.length ≤ 6) : (KP.allLots f R rows c).length ≤ 4096 := by
  have h1 := foldWays_len f R c 4 hc rows [List.replicate c []]
  have h2 : 4 ^ rows.length ≤ 4 ^ 6 := Nat.pow_le_pow_right (by decide) h
  have h3 : (4 : Nat) ^ 6 = 4096 := by decide
  rw [List.length_singleton, Nat.mul_one] at h1
  exact Nat.le_trans h1 (by omega)
abbrev nmCR : List Str := ["_law_parts", "_law_before", "_law_row", "_law_found", "_law_behind", "_law_rows_here", "_law_ways", "_law_least", "_law_shown", "_law_way"]
theorem scCR : FnScope nmCR ["_law_parts", "_law_before", "_law_row", "_law_found", "_law_behind"] (defScope s_l_come_right) := ⟨rfl, rfl, rfl, by decide +kernel, rfl, by decide +kernel, by decide +kernel⟩
def spCR : Sp := fun vs H Q _ => ∃ (a b fd bh : Addr) (x : Nat) (f : Int) (wd n c : Nat) (R : List (List Int)) (L M : List (List Nat)) (rows : List Nat), vs = [.ref a, .ref b, .int (x : Int), .ref fd, .ref bh] ∧ IsParts H a f R ∧ PartsOk f wd n R ∧ IsLL H b L ∧ IsLL H bh M ∧
  KP.IsWay f R rows c L ∧ rows.Nodup ∧ (∀ r, r ∈ rows → r < n) ∧ x < n ∧ x ∉ rows ∧ c ≤ 4 ∧ n ≤ 5 ∧
  ((∃ ml lot, H fd = some (.tup [.str "many", .ref ml]) ∧ H ml = some (.lst (nV lot)) ∧ KP.allLots f R (KP.srt (rows ++ [x])) c = [] ∧ (∀ r, r ∈ lot → r ∈ KP.srt (rows ++ [x])) ∧ lot.Pairwise (· < ·) ∧ c * KP.rankOf f R lot < lot.length ∧ M = L ∧ ∀ H', Same H H' → Q (.bl true) H') ∨
   ∃ d, H fd = some (.tup [.str "told", .ref d]) ∧ H d = some (.dK (movesD (KP.changed L M))) ∧ KP.IsWay f R (KP.srt (rows ++ [x])) c M ∧ (∀ way, way ∈ KP.allLots f R (KP.srt (rows ++ [x])) c → (KP.changed L M).length ≤ (KP.changed L way).length) ∧ ∀ H', SameBut [d] H H' → Q (.bl true) H')
theorem c_comeRight (T : Txt2 P K mg) : C8.Cal P w K mg base 5 "_law_come_right" spCR [] := by
  obtain ⟨fd, F⟩ := T.fn_l_come_right
  refine mkCal F T.g_l_come_right (fun _ _ _ _ _ _ us hl => match us, hl with | [_, _, _, _, _], _ => rfl) scCR (fun vs H Q E h => ?_) fun cdv A outer s H vs Q E hr h => ?_
  · obtain ⟨a, b, fd, bh, x, f, wd, n, c, R, L, M, rows, rfl, _⟩ := h
    rfl
  · obtain ⟨a, b, fd, bh, x, f, wd, n, c, R, L, M, rows, rfl, hparts, ok, hL, hM, W, hnd, hlt, hx, hxr, hc, hn5, hcase⟩ := h
    have hu := hr.units
    refine ⟨_, (pss_cons (ps_set (i := 5) scCR.nd rfl (Or.inl rfl) (pe_callB cr_sorted (by rfl) T.f_sorted boot_sorted (pa_cons (pe_op op_cat (pe_callTy (call_list_dK rfl) (by rfl) T.f_list (boot_T "list") (pa_cons (C8.pe_c (c_seats T) hr (by decide) (by rfl) (pa_cons (pv 1) pa_nil)) pa_nil)) (pe_lst (pa_cons (pv 2) pa_nil))) pa_nil))) (pss_cons (ps_set (i := 6) scCR.nd rfl (Or.inl rfl) (C8.pe_c (c_all T) hr (by decide) (by rfl) (pa_cons (pv 0) (pa_cons (pv 5) (pa_cons (pe_callB call_len_seq (by rfl) T.f_len boot_len (pa_cons (pv 1) pa_nil)) pa_nil))))) (pss_cons (ps_if (pt_cmpR (op_eqD hu) (pv 6) (pe_lst pa_nil) (nomark _)) (pss_one (ps_ret (pe_and (pe_cmpR op_eq (pe_ix ix_tup (pv 3) pe_int (fun _ _ => rfl)) pe_str (nomark _)) (pe_and (C8.pe_c (c_isShown T) hr (by decide) (by rfl) (pa_cons (pv 0) (pa_cons (pe_ix ix_tup (pv 3) pe_int (fun _ _ => rfl)) (pa_cons (pv 5) (pa_cons (pe_callB call_len_seq (by rfl) T.f_len boot_len (pa_cons (pv 1) pa_nil)) pa_nil))))) (pe_one (pe_cmpR (op_eqD hu) (pv 4) (pv 1) (nomark _))))))) pss_nil) (pss_cons (ps_if (PW.pt (pw_or (pt_cmpR op_ne (pe_ix ix_tup (pv 3) pe_int (fun _ _ => rfl)) pe_str (nomark _)) (pw_or1 (pt_not (pt_val (C8.pe_c (c_areRight T) hr (by decide) (by rfl) (pa_cons (pv 0) (pa_cons (pv 4) (pa_cons (pv 5) (pa_cons (pe_callB call_len_seq (by rfl) T.f_len boot_len (pa_cons (pv 1) pa_nil)) pa_nil)))))))))) (pss_one (ps_ret pe_bl)) pss_nil) (pss_cons (ps_par (i := 7) (j := 8) rfl scCR.nd rfl rfl (by decide) rfl rfl (pa_cons (pe_callB (cr_min rfl) (by rfl) T.f_min boot_min (pa_cons (pe_lc (own := [("_law_way", 9)]) (g := gName 9) (tt := tYes) (te := tCB (fun xs H Q => ∃ a kvs, xs = [V.ref a] ∧ H a = some (.dK kvs) ∧ Q (.int kvs.length) H) (tCons (tCall (spChanged K) [] C8.E0 (tCons (tVar 1) (tCons (tVar 9) tNil))) tNil)) rfl scCR.nd (pi_list (pv 6)) (blkOk_by (N := nmCR) (sc := defScope s_l_come_right) (by decide +kernel)) (fun _ _ _ _ _ => pg_name (i := 9) scCR.nd rfl (Or.inl rfl)) (fun _ _ _ _ _ => pts_nil)
            (fun _ _ _ _ _ => pe_callB call_lenD (by rfl) T.f_len boot_len (pa_cons (C8.pe_c (c_changed T) hr (by decide) (by rfl) (pa_cons (pv 1) (pa_cons (pv 9) pa_nil))) pa_nil))) pa_nil)) (pa_cons (LiI.pe_listItems rfl (pe_ix ix_tup (pv 3) pe_int (fun _ _ => rfl)) (by rfl) T.f_list (boot_T "list")) pa_nil)) (by kernel_rfl)) (pss_cons (ps_expr (pe_bm0 PySem.F.plainAttrs_dict PySem.F.slot_dict_clear PySem.F.type_dict_clear mtd_clear (pe_ix ix_tup (pv 3) pe_int (fun _ _ => rfl)))) (pss_one (ps_ret (pe_and (pe_cmpR (op_eqD hu) (pv 8) (LiI.pe_listItems rfl (C8.pe_c (c_changed T) hr (by decide) (by rfl) (pa_cons (pv 1) (pa_cons (pv 4) pa_nil))) (by rfl) T.f_list (boot_T "list")) (nomark _)) (pe_one (pe_cmpR op_eq (pe_callB call_len_seq (by rfl) T.f_len boot_len (pa_cons (pv 8) pa_nil)) (pv 7) (nomark _)))))))))))), ?_⟩
    obtain ⟨D, hf0, hf13⟩ := ok.dom
    have hrlt : ∀ r, r ∈ KP.srt (rows ++ [x]) → r < n := fun r h => ((KP.rows_in r).mp h).elim (hlt r) fun h => h ▸ hx
    have rnd : (rows ++ [x]).Nodup := KP.snoc_nodup hnd hxr
    have hrl : rows.length ≤ 5 := Nat.le_trans (KP.nodup_le n rows hnd hlt) hn5
    have hkeys := KP.way_rows_srt W hnd hxr
    have hsl : (KP.seats L).length ≤ rows.length := way_le W hnd
    have hrhl : (KP.srt (rows ++ [x])).length = rows.length + 1 := by rw [(KP.srt_perm _).length_eq, List.length_append]; rfl
    obtain ⟨ls, hb, hls⟩ := id hL
    have hlsl : ls.length = c := by rw [paired_len hls, W.len]
    have hndL := KP.seats_nodup W.nodup W.dis
    have isWay : ∀ way, way ∈ KP.allLots f R (KP.srt (rows ++ [x])) c → KP.IsWay f R (KP.srt (rows ++ [x])) c way := fun way h => (KP.allLots_iff D hf0 ok.len ok.wid (KP.srt_nodup rnd) hrlt).mp h
    refine ⟨_, rfl, b, L, rfl, hL, hndL, by omega, fun H1 q1 s1 hq1 h1 => ?_⟩
    refine ⟨q1, _, rfl, h1, fun p2 hp2 => ?_⟩
    rw [movesD_kV]
    refine ⟨_, rfl, sz (by simp), fun p3 hp3 => ?_⟩
    refine ⟨p2, p3, _, _, rfl, rfl, Same.upd hp3 _ _ upd_same, upd_same, sz (by rw [nV_len, List.length_map]; simp; omega), fun p4 hp4 => ?_⟩
    have e0 : nV ((KP.seats L).map (·.1)) ++ [V.int (x : Int)] = iV (((KP.seats L).map (·.1) ++ [x]).map fun (r : Nat) => (r : Int)) := by rw [← nV_snoc, nV_iV]
    rw [e0]
    refine ⟨p4, _, rfl, SqL.of upd_same, by rw [List.length_map, List.length_append, List.length_map]; simp; omega, fun ns' q5 hperm hsrt hq5 => ?_⟩
    rw [nV_srt hperm hsrt, hkeys]
    have s15 := (((Same.upd (o := .lst (nV ((KP.seats L).map (·.1)))) hp2).upd' (o := .lst [V.int (x : Int)]) hp3).upd' (o := .lst (iV (((KP.seats L).map (·.1) ++ [x]).map fun (r : Nat) => (r : Int)))) hp4).upd' (o := .lst (nV (KP.srt (rows ++ [x])))) hq5
    have h5 : (upd (upd (upd (upd H1 p2 (.lst (nV ((KP.seats L).map (·.1))))) p3 (.lst [V.int (x : Int)])) p4 (.lst (iV (((KP.seats L).map (·.1) ++ [x]).map fun (r : Nat) => (r : Int))))) q5 (.lst (nV (KP.srt (rows ++ [x]))))) q5 = some (.lst (nV (KP.srt (rows ++ [x])))) := upd_same
    generalize hH5 : upd (upd (upd (upd H1 p2 (.lst (nV ((KP.seats L).map (·.1))))) p3 (.lst [V.int (x : Int)])) p4 (.lst (iV (((KP.seats L).map (·.1) ++ [x]).map fun (r : Nat) => (r : Int))))) q5 (.lst (nV (KP.srt (rows ++ [x])))) = H5 at s15 h5
    have s05 := s1.trans s15
    refine ⟨_, rfl, _, rfl, _, rfl, b, _, rfl, .inl (SqL.of (s05 _ _ hb)), ?_⟩
    rw [List.length_map, hlsl]
    refine ⟨a, q5, f, wd, n, c, R, KP.srt (rows ++ [x]), rfl, hparts.same s05, ok, h5, hrlt, by omega, hc, fun H6 q6 s6 hq6 hways => ?_⟩
    have hways := hways.same new_same
    have s06 := s05.trans s6
    have h56 := s6 _ _ h5
    refine ⟨_, rfl, Nat.zero_le _, fun e he => ?_⟩
    have s7 := Same.upd (o := .lst []) he
    have hE : At K (upd H6 e (.lst [])) (.ref e) ([] : List (List (List Nat))) := empty_at upd_same
    have hways7 := hways.same s7
    generalize hH7 : upd H6 e (.lst []) = H7 at s7 hE hways7
    have s07 := s06.trans s7
    have h57 := s7 _ _ h56
    refine ⟨_, _, ways_at hways7, hE, toD_shaped _, toD_shaped _, _, rfl, ?_⟩
    rw [PySem.W.Datum.eqv]
    rcases hcase with ⟨ml, lot, hfd, hml, hall, hsub, hlsrt, hmany, hML, k⟩ | ⟨d, hfd, hd, WM, hleast, k⟩
    · refine ite_t (decide_eq_true hall) ?_
      refine ⟨_, rfl, fd, _, ((0 : Nat) : Int), .str "many", rfl, rfl, SqT.of (s07 _ _ hfd), atN rfl, rfl, _, rfl, ?_⟩
      rw [decide_eq_true rfl]
      refine iteT ⟨_, rfl, _, rfl, fd, _, ((1 : Nat) : Int), .ref ml, rfl, rfl, SqT.of (s07 _ _ hfd), atN rfl, _, rfl, _, rfl, b, _, rfl, .inl (SqL.of (s07 _ _ hb)), ?_⟩
      rw [List.length_map, hlsl]
      refine ⟨a, ml, q5, f, wd, n, c, R, lot, KP.srt (rows ++ [x]), rfl, hparts.same s07, ok, s07 _ _ hml, h57, hsub, hrlt, hlsrt, hc, hmany, fun H8 s8 => ⟨_, rfl, iteT ?_⟩⟩
      have s08 := s07.trans s8
      refine ⟨_, rfl, _, rfl, _, _, ll_at (hM.same s08), ll_at (hL.same s08), toD_shaped _, toD_shaped _, ?_⟩
      rw [PySem.W.Datum.eqv, decide_eq_true hML]
      exact k _ s08
    · have hMin : M ∈ KP.allLots f R (KP.srt (rows ++ [x])) c := (KP.allLots_iff D hf0 ok.len ok.wid (KP.srt_nodup rnd) hrlt).mpr WM
      refine ite_f (decide_eq_false fun z => by rw [z] at hMin; cases hMin) ?_
      refine ⟨_, rfl, fd, _, ((0 : Nat) : Int), .str "told", rfl, rfl, SqT.of (s07 _ _ hfd), atN rfl, rfl, _, rfl, ite_f (by rw [decide_eq_true rfl]; rfl) ?_⟩
      refine ⟨_, rfl, _, rfl, _, rfl, _, rfl, b, _, rfl, .inl (SqL.of (s07 _ _ hb)), ?_⟩
      rw [List.length_map, hlsl]
      refine ⟨a, bh, q5, f, wd, n, c, R, M, KP.srt (rows ++ [x]), rfl, hparts.same s07, ok, hM.same s07, h57, KP.srt_lt rnd, hrlt, WM, hc, fun H8 s8 => ⟨_, rfl, ite_f rfl ?_⟩⟩
      have s08 := s07.trans s8
      obtain ⟨ws, hws, hwp⟩ := hways7.same s8
      have hwsl : ws.length = (KP.allLots f R (KP.srt (rows ++ [x])) c).length := paired_len hwp
      refine ⟨_, rfl, q6, rfl, ⟨_, SqL.of hws⟩, fun Dc hDc => ?_⟩
      refine lc_ex (jo_list (SqL.of hws)) (Same.refl _) (Same.refl _) hDc (fun i xs G => xs = iV (((KP.allLots f R (KP.srt (rows ++ [x])) c).take i).map fun way => ((KP.changed L way).length : Int))) (fun _ _ _ _ _ h => h) rfl
        (fun i xs G hi e => ?_) (fun i v xs H9 Nx Sk hi s9 hv hD9 hpv kN _ => ?_) fun H9 xs s9 d9 hpv => ?_
      · have := allLots_len (f := f) (R := R) hc (rows := KP.srt (rows ++ [x])) (by omega)
        rw [e, List.length_map, List.length_map, List.length_take]; omega
      · obtain ⟨wad, hw, rfl⟩ := at_map hv
        obtain ⟨way, hway, hll⟩ := paired_at hwp hw
        have Wy := isWay way (List.mem_of_getElem? hway)
        have hwl := way_le Wy (KP.srt_nodup rnd)
        refine ⟨rfl, _, rfl, _, rfl, b, wad, L, way, rfl, (hL.same s08).same s9, hll.same s9, hndL, KP.seats_nodup Wy.nodup Wy.dis, by omega, by omega, fun H10 q10 s10 hq10 h10 => ⟨q10, _, rfl, h10, kN _ _ s10 ?_⟩⟩
        rw [hpv, take_map_more _ hway, movesD_len]
        exact (iV_snoc _ _).symm
      · rw [List.length_map, hwsl, List.take_length] at hpv
        subst hpv
        have s09 := s08.trans s9
        refine ⟨Dc, _, rfl, SqL.of d9, by rw [List.length_map]; exact List.length_pos_of_mem hMin, fun m hm hmin => ?_⟩
        have hm1 : m = ((KP.changed L M).length : Int) := by
          have h1 := hmin _ (List.mem_map.mpr ⟨M, hMin, rfl⟩)
          obtain ⟨way, hway, rfl⟩ := List.mem_map.mp hm
          have h2 := hleast way hway
          omega
        refine ⟨_, rfl, fd, _, ((1 : Nat) : Int), .ref d, rfl, rfl, SqT.of (s09 _ _ hfd), atN rfl, d, _, rfl, s09 _ _ hd, fun H10 p10 ts s10 hp10 hts hpts h10 hpr => ⟨_, _, rfl, ?_⟩⟩
        have s010 : Same H H10 := s09.trans s10
        have hd10 := s010 _ _ hd
        refine ⟨_, rfl, fd, _, ((1 : Nat) : Int), .ref d, rfl, rfl, SqT.of (s010 _ _ hfd), atN rfl, .inr (.inr (.inl ⟨rfl, .inl ⟨_, hd10⟩⟩)), d, _, rfl, rfl, hd10, ?_⟩
        have sb11 : SameBut [d] H10 (upd H10 d (.dK [])) := (SameBut.of (Same.refl H10)).upd (.inl List.mem_cons_self)
        have sb0 : SameBut [d] H (upd H10 d (.dK [])) := (SameBut.of s010).trans sb11
        generalize hH11 : upd H10 d (.dK []) = H11 at sb11 sb0
        have hL11 := LL_but hd (fun _ => by simp) sb0 hL
        have hM11 := LL_but hd (fun _ => by simp) sb0 hM
        have hMl := way_le WM (KP.srt_nodup rnd)
        refine ⟨_, rfl, _, rfl, _, rfl, b, bh, L, M, rfl, hL11, hM11, hndL, KP.seats_nodup WM.nodup WM.dis, by omega, by omega, fun H12 q12 s12 hq12 h12 => ⟨q12, _, rfl, h12, fun H13 p13 ts13 s13 _ _ _ h13 hpr13 => ?_⟩⟩
        have hpd : p10 ≠ d := fun z => by rw [z, hd10] at h10; cases h10
        have s1113 : Same H11 H13 := s12.trans s13
        have h1013 := s1113 _ _ (sb11 _ _ h10 (by simpa using hpd))
        have hpr2 : Paired (fun (t : Addr) (q : Key × V) => H13 t = some (.tup [kV q.1, q.2])) ts (movesD (KP.changed L M)) := paired_mono (fun t q e => s1113 _ _ (sb11 _ _ e (by
          have : t ≠ d := fun z => by rw [z, hd10] at e; cases e
          simpa using this))) hpr
        have htl : ts.length = (KP.changed L M).length := by rw [paired_len hpr, movesD_len]
        refine ⟨_, _, pairs_at h1013 hpr2, pairs_at h13 hpr13, toD_shaped _, toD_shaped _, _, rfl, ?_⟩
        rw [PySem.W.Datum.eqv, decide_eq_true rfl]
        refine iteT ⟨_, rfl, p10, _, rfl, .inl (SqL.of h1013), _, rfl, rfl, ?_⟩
        rw [List.length_map, htl, hm1, decide_eq_true rfl]
        exact k _ (sb0.trans (SameBut.of s1113))
end
end KW
end
section
set_option Elab.async false
set_option linter.all false
set_option maxRecDepth 100000
set_option maxHeartbeats 8000000
set_option pp.maxSteps 300
/-! The law: next_lots. -/
namespace KW
open PySem PySem.Spec PyProof.Rows L2
section
variable {P : Program} {w : World} {K : PySem.W.Frag} {mg : Str → Option Value} {base : Heap}
abbrev nmNext : List Str := ["_law_parts", "_law_before", "_law_row", "_law_ways", "_law_sizes", "_law_way", "_law_size"]
theorem scNext : FnScope nmNext ["_law_parts", "_law_before", "_law_row"] (defScope s_l_next_lots) := ⟨rfl, rfl, rfl, by decide +kernel, rfl, by decide +kernel, by decide +kernel⟩
/-- the least of some numbers as the program tells it -/
theorem minL_int {l : List Nat} {m : Int} (h : m ∈ l.map fun (z : Nat) => (z : Int)) (hm : ∀ y, y ∈ l.map (fun (z : Nat) => (z : Int)) → m ≤ y) : m = ((KP.minL l : Nat) : Int) := by
  obtain ⟨z, hz, rfl⟩ := List.mem_map.mp h
  rw [KP.minL_eq hz fun b hb => by have := hm _ (List.mem_map.mpr ⟨b, hb, rfl⟩); omega]
def spNext (K : PySem.W.Frag) : Sp := fun vs H Q _ => ∃ (a b : Addr) (x : Nat) (f : Int) (wd n c : Nat) (R : List (List Int)) (L : List (List Nat)) (rows : List Nat), vs = [.ref a, .ref b, .int (x : Int)] ∧ IsParts H a f R ∧ PartsOk f wd n R ∧ IsLL H b L ∧
  KP.IsWay f R rows c L ∧ rows.Nodup ∧ (∀ r, r ∈ rows → r < n) ∧ x < n ∧ x ∉ rows ∧ c ≤ 4 ∧ n ≤ 5 ∧ ∀ H' q, Same H H' → H q = none → IsWays (newH H H') q (KP.nextLots f R L x) → Q (.ref q) H'
theorem c_next (T : Txt2 P K mg) : C8.Cal P w K mg base 4 "_law_next_lots" (spNext K) [] := by
  obtain ⟨fd, F⟩ := T.fn_l_next_lots
  refine mkCal F T.g_l_next_lots (fun _ _ _ _ _ _ us hl => match us, hl with | [_, _, _], _ => rfl) scNext (fun vs H Q E h => ?_) fun cdv A outer s H vs Q E hr h => ?_
  · obtain ⟨a, b, x, f, wd, n, c, R, L, rows, rfl, _⟩ := h
    rfl
  · obtain ⟨a, b, x, f, wd, n, c, R, L, rows, rfl, hparts, ok, hL, W, hnd, hlt, hx, hxr, hc, hn5, k⟩ := h
    have hu := hr.units
    refine ⟨_, (pss_cons (ps_set (i := 3) scNext.nd rfl (Or.inl rfl) (C8.pe_c (c_all T) hr (by decide) (by rfl) (pa_cons (pv 0) (pa_cons (pe_callB cr_sorted (by rfl) T.f_sorted boot_sorted (pa_cons (pe_op op_cat (pe_callTy (call_list_dK rfl) (by rfl) T.f_list (boot_T "list") (pa_cons (C8.pe_c (c_seats T) hr (by decide) (by rfl) (pa_cons (pv 1) pa_nil)) pa_nil)) (pe_lst (pa_cons (pv 2) pa_nil))) pa_nil)) (pa_cons (pe_callB call_len_seq (by rfl) T.f_len boot_len (pa_cons (pv 1) pa_nil)) pa_nil))))) (pss_cons (ps_set (i := 4) scNext.nd rfl (Or.inr rfl) (pe_lc (own := [("_law_way", 5)]) (g := gName 5) (tt := tYes) (te := tCB (fun xs H Q => ∃ a kvs, xs = [V.ref a] ∧ H a = some (.dK kvs) ∧ Q (.int kvs.length) H) (tCons (tCall (spChanged K) [] C8.E0 (tCons (tVar 1) (tCons (tVar 5) tNil))) tNil)) rfl scNext.nd (pi_list (pv 3)) (blkOk_by (N := nmNext) (sc := defScope s_l_next_lots) (by decide +kernel)) (fun _ _ _ _ _ => pg_name (i := 5) scNext.nd rfl (Or.inl rfl)) (fun _ _ _ _ _ => pts_nil)
            (fun _ _ _ _ _ => pe_callB call_lenD (by rfl) T.f_len boot_len (pa_cons (C8.pe_c (c_changed T) hr (by decide) (by rfl) (pa_cons (pv 1) (pa_cons (pv 5) pa_nil))) pa_nil)))) (pss_one (ps_ret (pe_lc (own := [("_law_way", 5), ("_law_size", 6)]) (g := gTup K 2 (gCons (gName 5) (gCons (gName 6) gNil))) (tt := tTest (tOp rEq (tVar 6) (tCB (rMin K) (tCons (tVar 4) tNil)))) rfl scNext.nd (pi_zip (by rfl) T.f_zip (pa_cons (pv 3) (pa_cons (pv 4) pa_nil))) (blkOk_by (N := nmNext) (sc := defScope s_l_next_lots) (by decide +kernel))
            (fun _ _ _ _ _ => pg_tup rfl (pgs_cons (pg_name (i := 5) scNext.nd rfl (Or.inl rfl)) (pgs_cons (pg_name (i := 6) scNext.nd rfl (Or.inl rfl)) pgs_nil))) (fun _ _ _ _ _ => pts_one (pt_cmpR op_eq (pv 6) (pe_callB (cr_min rfl) (by rfl) T.f_min boot_min (pa_cons (pv 4) pa_nil)) (nomark _))) (fun _ _ _ _ _ => pv 5)))))), ?_⟩
    obtain ⟨D, hf0, hf13⟩ := ok.dom
    have hrlt : ∀ r, r ∈ KP.srt (rows ++ [x]) → r < n := fun r h => ((KP.rows_in r).mp h).elim (hlt r) fun h => h ▸ hx
    have rnd : (rows ++ [x]).Nodup := KP.snoc_nodup hnd hxr
    have hrl : rows.length ≤ 5 := Nat.le_trans (KP.nodup_le n rows hnd hlt) hn5
    have hkeys := KP.way_rows_srt W hnd hxr
    have hsl : (KP.seats L).length ≤ rows.length := way_le W hnd
    have hrhl : (KP.srt (rows ++ [x])).length = rows.length + 1 := by rw [(KP.srt_perm _).length_eq, List.length_append]; rfl
    obtain ⟨ls, hb, hls⟩ := id hL
    have hlsl : ls.length = c := by rw [paired_len hls, W.len]
    have hndL := KP.seats_nodup W.nodup W.dis
    have isWay : ∀ way, way ∈ KP.allLots f R (KP.srt (rows ++ [x])) c → KP.IsWay f R (KP.srt (rows ++ [x])) c way := fun way h => (KP.allLots_iff D hf0 ok.len ok.wid (KP.srt_nodup rnd) hrlt).mp h
    refine ⟨_, rfl, _, rfl, b, L, rfl, hL, hndL, by omega, fun H1 q1 s1 hq1 h1 => ?_⟩
    refine ⟨q1, _, rfl, h1, fun p2 hp2 => ?_⟩
    rw [movesD_kV]
    refine ⟨_, rfl, sz (by simp), fun p3 hp3 => ?_⟩
    refine ⟨p2, p3, _, _, rfl, rfl, Same.upd hp3 _ _ upd_same, upd_same, sz (by rw [nV_len, List.length_map]; simp; omega), fun p4 hp4 => ?_⟩
    have e0 : nV ((KP.seats L).map (·.1)) ++ [V.int (x : Int)] = iV (((KP.seats L).map (·.1) ++ [x]).map fun (r : Nat) => (r : Int)) := by rw [← nV_snoc, nV_iV]
    rw [e0]
    refine ⟨p4, _, rfl, SqL.of upd_same, by rw [List.length_map, List.length_append, List.length_map]; simp; omega, fun ns' q5 hperm hsrt hq5 => ?_⟩
    rw [nV_srt hperm hsrt, hkeys]
    have s15 := (((Same.upd (o := .lst (nV ((KP.seats L).map (·.1)))) hp2).upd' (o := .lst [V.int (x : Int)]) hp3).upd' (o := .lst (iV (((KP.seats L).map (·.1) ++ [x]).map fun (r : Nat) => (r : Int)))) hp4).upd' (o := .lst (nV (KP.srt (rows ++ [x])))) hq5
    have h5 : (upd (upd (upd (upd H1 p2 (.lst (nV ((KP.seats L).map (·.1))))) p3 (.lst [V.int (x : Int)])) p4 (.lst (iV (((KP.seats L).map (·.1) ++ [x]).map fun (r : Nat) => (r : Int))))) q5 (.lst (nV (KP.srt (rows ++ [x]))))) q5 = some (.lst (nV (KP.srt (rows ++ [x])))) := upd_same
    generalize hH5 : upd (upd (upd (upd H1 p2 (.lst (nV ((KP.seats L).map (·.1))))) p3 (.lst [V.int (x : Int)])) p4 (.lst (iV (((KP.seats L).map (·.1) ++ [x]).map fun (r : Nat) => (r : Int))))) q5 (.lst (nV (KP.srt (rows ++ [x])))) = H5 at s15 h5
    have s05 := s1.trans s15
    refine ⟨_, rfl, b, _, rfl, .inl (SqL.of (s05 _ _ hb)), ?_⟩
    rw [List.length_map, hlsl]
    refine ⟨a, q5, f, wd, n, c, R, KP.srt (rows ++ [x]), rfl, hparts.same s05, ok, h5, hrlt, by omega, hc, fun H6 q6 s6 hq6 hways => ?_⟩
    have s06 := s05.trans s6
    obtain ⟨ws, hwsN, hwp⟩ := hways
    have hws := new_same _ _ hwsN
    have hAL := allLots_len (f := f) (R := R) hc (rows := KP.srt (rows ++ [x])) (by omega)
    have hnext : KP.nextLots f R L x = (KP.allLots f R (KP.srt (rows ++ [x])) c).filter fun way => decide ((KP.changed L way).length = KP.minL ((KP.allLots f R (KP.srt (rows ++ [x])) c).map fun way => (KP.changed L way).length)) := by
      unfold KP.nextLots
      rw [hkeys, W.len]
    generalize hALe : KP.allLots f R (KP.srt (rows ++ [x])) c = AL at hwp isWay hAL hnext
    have hwsl : ws.length = AL.length := paired_len hwp
    refine ⟨_, rfl, q6, rfl, ⟨_, SqL.of hws⟩, fun Dc hDc => ?_⟩
    refine lc_ex (jo_list (SqL.of hws)) (Same.refl _) (Same.refl _) hDc (fun i xs G => xs = iV (((AL.take i).map fun way => (KP.changed L way).length).map fun (z : Nat) => (z : Int))) (fun _ _ _ _ _ h => h) rfl
      (fun i xs G hi e => by rw [e, List.length_map, List.length_map, List.length_map, List.length_take]; omega) (fun i v xs H9 Nx Sk hi s9 hv hD9 hpv kN _ => ?_) fun H9 xs s9 d9 hpv => ?_
    · obtain ⟨wad, hw, rfl⟩ := at_map hv
      obtain ⟨way, hway, hll⟩ := paired_at hwp hw
      have Wy := isWay way (List.mem_of_getElem? hway)
      have hwl := way_le Wy (KP.srt_nodup rnd)
      refine ⟨rfl, _, rfl, _, rfl, b, wad, L, way, rfl, (hL.same s06).same s9, (hll.same new_same).same s9, hndL, KP.seats_nodup Wy.nodup Wy.dis, by omega, by omega, fun H10 q10 s10 hq10 h10 => ⟨q10, _, rfl, h10, kN _ _ s10 ?_⟩⟩
      rw [hpv, take_map_more _ hway, movesD_len, List.map_append]
      exact (iV_snoc _ _).symm
    · rw [List.length_map, hwsl, List.take_length] at hpv
      subst hpv
      have s09 := s06.trans s9
      have hws9 := s9 _ _ hws
      refine ⟨_, rfl, _, rfl, q6, Dc, _, _, rfl, SqL.of hws9, SqL.of d9, fun Dz hDz => ?_⟩
      refine lc_ex (jo_zip (SqL.of hws9) (SqL.of d9) (by rw [List.length_map, List.length_map, List.length_map, List.length_map, hwsl])) (Same.refl _) (Same.refl _) hDz (fun i xs G => ∃ qs, xs = rV qs ∧ Paired (IsLL (newH H G)) qs ((AL.take i).filter fun way => decide ((KP.changed L way).length = KP.minL (AL.map fun way => (KP.changed L way).length))))
        (fun i xs G G' sG ⟨qs, e1, e2⟩ => ⟨qs, e1, paired_mono (fun _ _ z => z.same (new_mono sG)) e2⟩) ⟨[], rfl, .nil⟩ (fun i xs G hi ⟨qs, e1, e2⟩ => ?_) (fun i v xs H11 Nx Sk hi s11 y hD11 hpv kN kS => ?_) fun H11 xs s11 d11 hpv => ?_
      · have := List.length_filter_le (fun way => decide ((KP.changed L way).length = KP.minL (AL.map fun way => (KP.changed L way).length))) (AL.take i)
        rw [List.length_take] at this
        rw [e1, List.length_map, paired_len e2]; omega
      · obtain ⟨T2, x2, y2, rfl, hT2, hx2, hy2⟩ := y
        obtain ⟨wad, hw, rfl⟩ := at_map hx2
        obtain ⟨way, hway, hll⟩ := paired_at hwp hw
        obtain ⟨z2, hz2, rfl⟩ := at_map hy2
        rw [List.getElem?_map, List.getElem?_map, hway] at hz2
        cases hz2
        obtain ⟨qs, rfl, hqs⟩ := hpv
        have hmem := List.mem_of_getElem? hway
        refine ⟨T2, _, rfl, .inl (.inl hT2), rfl, _, _, rfl, _, _, rfl, rfl, ⟨rfl, ?_⟩⟩
        refine ⟨_, rfl, _, rfl, Dc, _, rfl, SqL.of (s11 _ _ d9), by rw [List.length_map, List.length_map]; exact List.length_pos_of_mem hmem, fun m hm hmin => ⟨rfl, _, rfl, ?_⟩⟩
        rw [minL_int hm hmin]
        have hD6 : H6 Dz = none := s9.free hDz
        by_cases he : (KP.changed L way).length = KP.minL (AL.map fun way => (KP.changed L way).length)
        · refine ite_t (decide_eq_true (congrArg (fun (z : Nat) => V.int (z : Int)) he)) ⟨_, rfl, kN _ _ (Same.refl _) ⟨qs ++ [wad], by rw [rV_snoc], ?_⟩⟩
          rw [take_filter_more _ hway, if_pos (decide_eq_true he)]
          exact Paired.snoc hqs ((hll.same (new_later s05)).same (new_mono (but_none hD6 (s9.trans s11))))
        · refine ite_f (decide_eq_false fun q => he (Int.ofNat.inj (V.int.inj q))) (kS _ (Same.refl _) ⟨qs, rfl, ?_⟩)
          rw [take_filter_more _ hway, if_neg (by simpa using he)]
          exact hqs
      · obtain ⟨qs, rfl, hqs⟩ := hpv
        rw [List.length_map, hwsl, List.take_length] at hqs
        have s011 := s09.trans s11
        refine k _ Dz s011 (s09.free hDz) ⟨qs, new_at (s09.free hDz) d11, ?_⟩
        rw [hnext]
        exact paired_mono (fun _ _ z => z.same (new_mono but_same)) hqs
end
end KW
end
section
set_option Elab.async false
set_option linter.all false
set_option maxRecDepth 100000
set_option maxHeartbeats 8000000
set_option pp.maxSteps 300
/-! The law: less_right. -/
namespace KW
open PySem PySem.Spec PyProof.Rows L2
theorem nodup_take {l : List Nat} {i r : Nat} (h : l.Nodup) (hi : l[i]? = some r) : r ∉ l.take i := fun hm => by
  obtain ⟨j, hj, e⟩ := List.getElem_of_mem hm
  rw [List.length_take] at hj
  rw [List.getElem_take] at e
  obtain ⟨hil, e2⟩ := List.getElem?_eq_some_iff.mp hi
  exact List.pairwise_iff_getElem.mp h j i (by omega) hil (by omega) (e.trans e2.symm)
/-- how many stands there can be, with r0 rows at first -/
def stB (r0 : Nat) : Nat → Nat
  | 0 => 1
  | i + 1 => stB r0 i * 2 ^ (r0 + i + 1)
theorem stB_le {r0 i : Nat} (h : r0 + i ≤ 5) : stB r0 i ≤ 32768 := by
  have : ∀ r0, r0 < 6 → ∀ i, i < 6 → r0 + i ≤ 5 → stB r0 i ≤ 32768 := by decide
  exact this r0 (by omega) i (by omega) h
/-- the law's stands behind i rows -/
structure Stage (f : Int) (R : List (List Int)) (n c : Nat) (rr lot : List Nat) (i : Nat) (RW : List Nat) (ST : List (List (List Nat))) : Prop where
  nd : RW.Nodup
  lt : ∀ r, r ∈ RW → r < n
  mem : ∀ r, r ∈ RW ↔ r ∈ rr ∨ r ∈ lot.take i
  len : RW.length = rr.length + i
  ways : ∀ lots, lots ∈ ST → KP.IsWay f R RW c lots
  cnt : ST.length ≤ stB rr.length i
theorem lessFold_len {f : Int} {R : List (List Int)} {r B : Nat} : ∀ (stands later : List (List (List Nat))), (∀ lots, lots ∈ stands → (KP.nextLots f R lots r).length ≤ B) → (stands.foldl (fun later lots => later ++ (KP.nextLots f R lots r).filter fun way => !later.contains way) later).length ≤ later.length + stands.length * B
  | [], later, _ => by simp
  | lots :: stands, later, h => by
    have h1 := lessFold_len stands (later ++ (KP.nextLots f R lots r).filter fun way => !later.contains way) fun l hl => h l (List.mem_cons_of_mem _ hl)
    have h2 := h lots List.mem_cons_self
    have h3 := List.length_filter_le (fun way => !later.contains way) (KP.nextLots f R lots r)
    rw [List.length_append] at h1
    rw [List.foldl_cons, List.length_cons, Nat.succ_mul]
    omega
section
variable {f : Int} {R : List (List Int)} {wd n c : Nat} {rr lot : List Nat} {i r : Nat} {RW : List Nat} {ST : List (List (List Nat))}
theorem next_len (hc : c ≤ 2) {rows : List Nat} {L : List (List Nat)} {x : Nat} (W : KP.IsWay f R rows c L) (hnd : rows.Nodup) (hxr : x ∉ rows) : (KP.nextLots f R L x).length ≤ 2 ^ (rows.length + 1) := by
  have h1 := List.length_filter_le (fun way => decide ((KP.changed L way).length = KP.minL ((KP.allLots f R (KP.srt ((KP.seats L).map (·.1) ++ [x])) L.length).map fun way => (KP.changed L way).length))) (KP.allLots f R (KP.srt ((KP.seats L).map (·.1) ++ [x])) L.length)
  have h2 : (KP.nextLots f R L x).length ≤ (KP.allLots f R (KP.srt ((KP.seats L).map (·.1) ++ [x])) L.length).length := h1
  rw [KP.way_rows_srt W hnd hxr, W.len] at h2
  have h3 := foldWays_len f R c 2 hc (KP.srt (rows ++ [x])) [List.replicate c []]
  rw [List.length_singleton, Nat.mul_one, (KP.srt_perm _).length_eq, List.length_append, List.length_singleton] at h3
  exact Nat.le_trans h2 h3
theorem Stage.next (ok : PartsOk f wd n R) (hc : c ≤ 2) (S : Stage f R n c rr lot i RW ST) (hi : lot[i]? = some r) (hrn : r < n) (hrr : r ∉ RW) : Stage f R n c rr lot (i + 1) (KP.srt (RW ++ [r])) (KP.lessStep f R ST r) where
  nd := KP.srt_nodup (KP.snoc_nodup S.nd hrr)
  lt := fun x hx => ((KP.rows_in x).mp hx).elim (S.lt x) fun h => h ▸ hrn
  mem := fun x => by
    rw [KP.rows_in, S.mem, take_more hi, List.mem_append, List.mem_singleton, or_assoc]
  len := by rw [(KP.srt_perm _).length_eq, List.length_append, S.len]; rfl
  ways := fun z hz => by
    obtain ⟨lots, hl, h⟩ := KP.mem_lessStep.mp hz
    exact KP.nextLots_way ok.dom.1 ok.dom.2.1 ok.raw (S.ways lots hl) S.nd S.lt hrn hrr h
  cnt := by
    have h1 := lessFold_len (f := f) (R := R) (r := r) (B := 2 ^ (rr.length + i + 1)) ST [] fun lots hl => by
      have := next_len hc (S.ways lots hl) S.nd hrr
      rw [S.len] at this; exact this
    rw [List.length_nil, Nat.zero_add] at h1
    exact Nat.le_trans h1 (Nat.mul_le_mul_right _ S.cnt)
end
section
variable {P : Program} {w : World} {K : PySem.W.Frag} {mg : Str → Option Value} {base : Heap}
abbrev nmLR : List Str := ["_law_parts", "_law_before", "_law_place", "_law_found", "_law_behind", "_law_rest", "_law_rows_here", "_law_stands", "_law_row", "_law_later", "_law_lots", "_law_way"]
theorem scLR : FnScope nmLR ["_law_parts", "_law_before", "_law_place", "_law_found", "_law_behind"] (defScope s_l_less_right) := ⟨rfl, rfl, rfl, by decide +kernel, rfl, by decide +kernel, by decide +kernel⟩
def spLR : Sp := fun vs H Q _ => ∃ (a b fd bh : Addr) (x : Nat) (f : Int) (wd n c : Nat) (R : List (List Int)) (L M : List (List Nat)) (rows rr : List Nat), vs = [.ref a, .ref b, .int (x : Int), .ref fd, .ref bh] ∧ IsParts H a f R ∧ PartsOk f wd n R ∧ IsLL H b L ∧ IsLL H bh M ∧
  KP.IsWay f R rows (c + 1) L ∧ rows.Nodup ∧ (∀ r, r ∈ rows → r < n) ∧ x < L.length ∧ c ≤ 2 ∧ n ≤ 5 ∧ KP.IsWay f R rr c (restOf L x) ∧ rr.Nodup ∧ (∀ r, r ∈ rows ↔ r ∈ rr ∨ r ∈ L.getD x []) ∧ (∀ r, r ∈ L.getD x [] → r ∉ rr) ∧
  ((∃ ml lot, H fd = some (.tup [.str "many", .ref ml]) ∧ H ml = some (.lst (nV lot)) ∧ KP.allLots f R (KP.srt rows) c = [] ∧ (∀ r, r ∈ lot → r ∈ rows) ∧ lot.Pairwise (· < ·) ∧ c * KP.rankOf f R lot < lot.length ∧ M = L ∧ ∀ H', Same H H' → Q (.bl true) H') ∨
   ∃ d, H fd = some (.tup [.str "told", .ref d]) ∧ H d = some (.dK (movesD (KP.changed (restOf L x) M))) ∧ KP.allLots f R (KP.srt rows) c ≠ [] ∧ M ∈ (L.getD x []).foldl (KP.lessStep f R) [restOf L x] ∧ ∀ H', Same H H' → Q (.bl true) H')
theorem c_lessRight (T : Txt2 P K mg) : C8.Cal P w K mg base 5 "_law_less_right" spLR [] := by
  obtain ⟨fd, F⟩ := T.fn_l_less_right
  refine mkCal F T.g_l_less_right (fun _ _ _ _ _ _ us hl => match us, hl with | [_, _, _, _, _], _ => rfl) scLR (fun vs H Q E h => ?_) fun cdv A outer s H vs Q E hr h => ?_
  · obtain ⟨a, b, fd, bh, x, f, wd, n, c, R, L, M, rows, rr, rfl, _⟩ := h
    rfl
  · obtain ⟨a, b, fd, bh, x, f, wd, n, c, R, L, M, rows, rr, rfl, hparts, ok, hL, hM, W, hnd, hlt, hx, hc, hn5, WR, hrnd, hrows, hdis, hcase⟩ := h
    have hu := hr.units
    have hu65 := units65 hr
    refine ⟨_, (pss_cons (ps_set (i := 5) scLR.nd rfl (Or.inl rfl) (pe_op op_cat (pe_slice sl_list (pv 1) po_none (po_some (pv 2))) (pe_slice sl_list (pv 1) (po_some (pe_op op_add (pv 2) pe_int)) po_none))) (pss_cons (ps_par (i := 6) (j := 7) rfl scLR.nd rfl rfl (by decide) rfl rfl (pa_cons (pe_callB (call_sortedDI rfl) (by rfl) T.f_sorted boot_sorted (pa_cons (C8.pe_c (c_seats T) hr (by decide) (by rfl) (pa_cons (pv 1) pa_nil)) pa_nil)) (pa_cons (pe_lst (pa_cons (pv 5) pa_nil)) pa_nil)) (by kernel_rfl)) (pss_cons (ps_if (pt_cmpR (op_eqD hu) (C8.pe_c (c_all T) hr (by decide) (by rfl) (pa_cons (pv 0) (pa_cons (pv 6) (pa_cons (pe_callB call_len_seq (by rfl) T.f_len boot_len (pa_cons (pv 5) pa_nil)) pa_nil)))) (pe_lst pa_nil) (nomark _)) (pss_one (ps_ret (pe_and (pe_cmpR op_eq (pe_ix ix_tup (pv 3) pe_int (fun _ _ => rfl)) pe_str (nomark _)) (pe_and (C8.pe_c (c_isShown T) hr (by decide) (by rfl) (pa_cons (pv 0) (pa_cons (pe_ix ix_tup (pv 3) pe_int (fun _ _ => rfl)) (pa_cons (pv 6) (pa_cons (pe_callB call_len_seq (by rfl) T.f_len boot_len (pa_cons (pv 5) pa_nil)) pa_nil))))) (pe_one (pe_cmpR (op_eqD hu) (pv 4) (pv 1) (nomark _))))))) pss_nil) (pss_cons (ps_for PassesOwn.never rfl (pi_list (pe_ix ix_list (pv 1) (pv 2) (fun _ _ => rfl))) (pg_name (i := 8) scLR.nd rfl (Or.inl rfl)) (pss_cons (ps_set (i := 9) scLR.nd rfl (Or.inr rfl) (pe_lst pa_nil)) (pss_cons (ps_for PassesOwn.never rfl (pi_list (pv 7)) (pg_name (i := 10) scLR.nd rfl (Or.inl rfl)) (pss_one (ps_expr (pe_bm PySem.F.plainAttrs_list PySem.F.slot_list_extend PySem.F.type_list_extend mt_extend (pv 9) (pa_cons (pe_lc (own := [("_law_way", 11)]) (g := gName 11) (tt := tTest (tOp (rNotInD K) (tVar 11) (tVar 9))) rfl scLR.nd (pi_list (C8.pe_c (c_next T) hr (by decide) (by rfl) (pa_cons (pv 0) (pa_cons (pv 10) (pa_cons (pv 8) pa_nil))))) (blkOk_by (N := nmLR) (sc := defScope s_l_less_right) (by decide +kernel)) (fun _ _ _ _ _ => pg_name (i := 11) scLR.nd rfl (Or.inl rfl))
                (fun _ _ _ _ _ => pts_one (pt_cmpR (op_notInD hu65) (pv 11) (pv 9) (by rfl))) (fun _ _ _ _ _ => pv 11)) pa_nil))))) (pss_one (ps_set (i := 7) scLR.nd rfl (Or.inl rfl) (pv 9)))))) (pss_cons (ps_if (PW.pt (pw_or (pt_cmpR op_ne (pe_ix ix_tup (pv 3) pe_int (fun _ _ => rfl)) pe_str (nomark _)) (pw_or1 (pt_cmpR (op_notInD hu65) (pv 4) (pv 7) (by rfl))))) (pss_one (ps_ret pe_bl)) pss_nil) (pss_one (ps_ret (pe_cmpR (op_eqD hu) (LiI.pe_listItems rfl (pe_ix ix_tup (pv 3) pe_int (fun _ _ => rfl)) (by rfl) T.f_list (boot_T "list")) (LiI.pe_listItems rfl (C8.pe_c (c_changed T) hr (by decide) (by rfl) (pa_cons (pv 5) (pa_cons (pv 4) pa_nil))) (by rfl) T.f_list (boot_T "list")) (nomark _))))))))), ?_⟩
    obtain ⟨D, hf0, hf13⟩ := ok.dom
    have hrl : rows.length ≤ 5 := Nat.le_trans (KP.nodup_le n rows hnd hlt) hn5
    have hsl : (KP.seats L).length ≤ rows.length := way_le W hnd
    obtain ⟨ls, hb, hls⟩ := id hL
    have hlsl : ls.length = L.length := paired_len hls
    have hLc : L.length = c + 1 := W.len
    have hndL := KP.seats_nodup W.nodup W.dis
    have hk := KP.way_rows_all W hnd
    have hsrl : (KP.srt rows).length = rows.length := (KP.srt_perm _).length_eq
    have hsrlt : ∀ r, r ∈ KP.srt rows → r < n := fun r h => hlt r (KP.mem_srt.mp h)
    refine ⟨_, rfl, _, rfl, _, rfl, b, _, rfl, SqL.of hb, fun p1 hp1 => ?_⟩
    have hb2 := Same.upd (o := .lst (cutV (rV ls) none (some (x : Int)))) hp1 _ _ hb
    refine ⟨_, rfl, _, rfl, _, _, rfl, rfl, _, rfl, b, _, rfl, SqL.of hb2, fun p2 hp2 => ?_⟩
    have e1 : cutV (rV ls) none (some (x : Int)) = rV (ls.take x) := by rw [cut_take, ← List.map_take]
    have e2 : cutV (rV ls) (some ((x : Int) + 1)) none = rV (ls.drop (x + 1)) := by
      have := cut_drop (rV ls) (x + 1)
      rw [← List.map_drop] at this
      exact this
    rw [e2]
    rw [e1] at hp2 hb2 ⊢
    refine ⟨p1, p2, _, _, rfl, rfl, Same.upd hp2 _ _ upd_same, upd_same, sz (by rw [List.length_map, List.length_map, List.length_take, List.length_drop]; omega), fun p3 hp3 => ?_⟩
    have e3 : rV (ls.take x) ++ rV (ls.drop (x + 1)) = rV (ls.take x ++ ls.drop (x + 1)) := (List.map_append ..).symm
    rw [e3] at *
    have s1 : Same H (upd (upd (upd H p1 (.lst (rV (ls.take x)))) p2 (.lst (rV (ls.drop (x + 1))))) p3 (.lst (rV (ls.take x ++ ls.drop (x + 1))))) := ((Same.upd hp1).upd' hp2).upd' hp3
    have h31 : (upd (upd (upd H p1 (.lst (rV (ls.take x)))) p2 (.lst (rV (ls.drop (x + 1))))) p3 (.lst (rV (ls.take x ++ ls.drop (x + 1))))) p3 = some (.lst (rV (ls.take x ++ ls.drop (x + 1)))) := upd_same
    generalize hH1 : upd (upd (upd H p1 (.lst (rV (ls.take x)))) p2 (.lst (rV (ls.drop (x + 1))))) p3 (.lst (rV (ls.take x ++ ls.drop (x + 1)))) = H1 at s1 h31
    have hrest : IsLL H1 p3 (restOf L x) := ⟨_, h31, paired_append (paired_take (hls.same s1) x) (paired_drop (hls.same s1) (x + 1))⟩
    refine ⟨_, rfl, b, L, rfl, hL.same s1, hndL, by omega, fun H2 q2 s2 hq2 h2 => ?_⟩
    refine ⟨q2, _, ((KP.seats L).map (·.1)).map fun (r : Nat) => (r : Int), rfl, .inl h2, movesD_keys2 _, by rw [List.length_map, List.length_map]; omega, fun ys q3 hperm hs hq3 => ?_⟩
    rw [nats_le hperm hs, hk]
    have e5 : (((KP.srt rows).map fun (r : Nat) => (r : Int)).map V.int) = nV (KP.srt rows) := by rw [nV_iV]
    rw [e5]
    have s3 := Same.upd (o := .lst (nV (KP.srt rows))) hq3
    refine ⟨_, rfl, sz (by simp), fun p4 hp4 => ⟨_, _, rfl, ?_⟩⟩
    have s4 := s3.upd' (o := .lst [V.ref p3]) hp4
    have hrh : (upd (upd H2 q3 (.lst (nV (KP.srt rows)))) p4 (.lst [V.ref p3])) q3 = some (.lst (nV (KP.srt rows))) := Same.upd hp4 _ _ upd_same
    have hst0 : (upd (upd H2 q3 (.lst (nV (KP.srt rows)))) p4 (.lst [V.ref p3])) p4 = some (.lst (rV [p3])) := upd_same
    generalize hH4 : upd (upd H2 q3 (.lst (nV (KP.srt rows)))) p4 (.lst [V.ref p3]) = H4 at s4 hrh hst0
    have s14 := s2.trans s4
    have s04 := s1.trans s14
    have hrest4 := hrest.same s14
    obtain ⟨lsr, hr3, hlsr⟩ := id hrest4
    have hlsrl : lsr.length = c := by rw [paired_len hlsr, WR.len]
    refine ⟨_, rfl, _, rfl, _, rfl, p3, _, rfl, .inl (SqL.of hr3), ?_⟩
    rw [List.length_map, hlsrl]
    refine ⟨a, q3, f, wd, n, c, R, KP.srt rows, rfl, hparts.same s04, ok, hrh, hsrlt, by omega, by omega, fun H6 q6 s6 hq6 hways => ⟨Nat.zero_le _, fun e he => ?_⟩⟩
    have s7 := Same.upd (o := .lst []) he
    have hE : At K (upd H6 e (.lst [])) (.ref e) ([] : List (List (List Nat))) := empty_at upd_same
    have hways7 := (hways.same new_same).same s7
    generalize hH7 : upd H6 e (.lst []) = H7 at s7 hE hways7
    have s47 := s6.trans s7
    have s07 := s04.trans s47
    refine ⟨_, _, ways_at hways7, hE, toD_shaped _, toD_shaped _, _, rfl, ?_⟩
    rw [PySem.W.Datum.eqv]
    rcases hcase with ⟨ml, lot, hfd, hml, hall, hsub, hlsrt, hmany, hML, k⟩ | ⟨d, hfd, hd, hall, hMin, k⟩
    · refine ite_t (decide_eq_true hall) ?_
      refine ⟨_, rfl, fd, _, ((0 : Nat) : Int), .str "many", rfl, rfl, SqT.of (s07 _ _ hfd), atN rfl, rfl, _, rfl, ?_⟩
      rw [decide_eq_true rfl]
      refine iteT ⟨_, rfl, _, rfl, fd, _, ((1 : Nat) : Int), .ref ml, rfl, rfl, SqT.of (s07 _ _ hfd), atN rfl, _, rfl, _, rfl, p3, _, rfl, .inl (SqL.of (s47 _ _ hr3)), ?_⟩
      rw [List.length_map, hlsrl]
      refine ⟨a, ml, q3, f, wd, n, c, R, lot, KP.srt rows, rfl, hparts.same s07, ok, s07 _ _ hml, s47 _ _ hrh, fun r h => KP.mem_srt.mpr (hsub r h), hsrlt, hlsrt, by omega, hmany, fun H8 s8 => ⟨_, rfl, iteT ?_⟩⟩
      have s08 := s07.trans s8
      refine ⟨_, rfl, _, rfl, _, _, ll_at (hM.same s08), ll_at (hL.same s08), toD_shaped _, toD_shaped _, ?_⟩
      rw [PySem.W.Datum.eqv, decide_eq_true hML]
      exact k _ s08
    · refine ite_f (decide_eq_false hall) ?_
      have eL : L[x]? = some (L.getD x []) := by rw [List.getD_eq_getElem?_getD, List.getElem?_eq_getElem hx]; rfl
      obtain ⟨lp, hlp, hlpr⟩ := paired_at' hls eL
      have hlotm : L.getD x [] ∈ L := KP.getD_lots hx
      obtain ⟨lot, hlot⟩ : ∃ lot, L.getD x [] = lot := ⟨_, rfl⟩
      rw [hlot] at hlpr hlotm hMin hrows hdis
      have hlotlt : ∀ r, r ∈ lot → r < n := fun r h => hlt r ((hrows r).mpr (.inr h))
      have hlsrt : lot.Pairwise (· < ·) := W.srt lot hlotm
      have hlnd : lot.Nodup := hlsrt.imp fun h => Nat.ne_of_lt h
      have hcount : rr.length + lot.length ≤ 5 := by
        have h1 : (rr ++ lot).Nodup := List.nodup_append.mpr ⟨hrnd, hlnd, fun a ha b hb q => hdis b hb (q ▸ ha)⟩
        have h2 := KP.nodup_le n (rr ++ lot) h1 fun r h => hlt r ((hrows r).mpr ((List.mem_append.mp h)))
        rw [List.length_append] at h2; omega
      refine ⟨_, rfl, _, rfl, b, _, _, .ref lp, rfl, rfl, SqL.of (s07 _ _ hb), atN (by rw [List.getElem?_map, hlp]; rfl), lp, rfl, ⟨_, SqL.of (s07 _ _ hlpr)⟩, ?_⟩
      have hst7 : IsWays H7 p4 [restOf L x] := ⟨[p3], s47 _ _ hst0, .cons (hrest4.same s47) .nil⟩
      have stage0 : Stage f R n c rr lot 0 rr [restOf L x] := ⟨hrnd, fun r h => hlt r ((hrows r).mpr (.inl h)), fun r => by simp, rfl, fun lots h => by rw [List.mem_singleton.mp h]; exact WR, Nat.le_refl 1⟩
      refine for_it (jo_list (SqL.of hlpr)) (fun i σ H' => ∃ (q : Addr) (v8 v9 v10 : Option V) (RW : List Nat), σ = [some (.ref a), some (.ref b), some (.int (x : Int)), some (.ref fd), some (.ref bh), some (.ref p3), some (.ref q3), some (.ref q), v8, v9, v10, none] ∧ Same H7 H' ∧ IsWays H' q ((lot.take i).foldl (KP.lessStep f R) [restOf L x]) ∧
          Stage f R n c rr lot i RW ((lot.take i).foldl (KP.lessStep f R) [restOf L x]))
        ⟨p4, _, _, _, rr, rfl, Same.refl _, hst7, stage0⟩ (fun i σ H' _ ⟨_, _, _, _, _, _, h, _⟩ => s07.trans h) ?_ ?_
      · rintro i v σ H8 H9 hi ⟨q, v8, v9, v10, RW, rfl, s8, hways8, hstg⟩ s89 hv
        obtain ⟨r, hr', rfl⟩ := at_map hv
        have hil : i < lot.length := (List.getElem?_eq_some_iff.mp hr').1
        have hrn := hlotlt r (List.mem_of_getElem? hr')
        have hrRW : r ∉ RW := fun h => by
          rcases (hstg.mem r).mp h with h | h
          · exact hdis r (List.mem_of_getElem? hr') h
          · exact nodup_take hlnd hr' h
        have hnext : (lot.take (i + 1)).foldl (KP.lessStep f R) [restOf L x] = KP.lessStep f R ((lot.take i).foldl (KP.lessStep f R) [restOf L x]) r := by rw [take_more hr', List.foldl_append]; rfl
        generalize hSTe : (lot.take i).foldl (KP.lessStep f R) [restOf L x] = ST at hways8 hstg hnext
        have hstg2 := hstg.next ok hc hr' hrn hrRW
        have s9 := s8.trans s89
        have s09 := s07.trans s9
        obtain ⟨ws, hws9, hwp9⟩ := hways8.same s89
        have hwsl : ws.length = ST.length := paired_len hwp9
        refine ⟨Nat.zero_le _, fun dl hdl => ?_⟩
        have s10 := Same.upd (o := .lst []) hdl
        have hdl10 : (upd H9 dl (.lst [])) dl = some (.lst (rV [])) := upd_same
        have hqdl : q ≠ dl := ne_of_none hws9 hdl
        have hws10 := s10 _ _ hws9
        generalize hH10 : upd H9 dl (.lst []) = H10 at s10 hdl10 hws10
        refine ⟨_, rfl, q, rfl, ⟨_, SqL.of hws10⟩, ?_⟩
        refine for_it (jo_list (SqL.of (sub_at (as := [q]) hws10 List.mem_cons_self))) (fun j σ H' => ∃ (v10 : Option V), σ = [some (.ref a), some (.ref b), some (.int (x : Int)), some (.ref fd), some (.ref bh), some (.ref p3), some (.ref q3), some (.ref q), some (.int (r : Int)), some (.ref dl), v10, none] ∧ SameBut [dl] H10 H' ∧
            WaysBut H' dl ((ST.take j).foldl (fun later lots => later ++ (KP.nextLots f R lots r).filter fun way => !later.contains way) []))
          ⟨_, rfl, SameBut.of (Same.refl _), ⟨[], hdl10, .nil⟩⟩ (fun j σ H' _ ⟨_, _, sb, _⟩ => sub_same fun a ha => by rw [List.mem_singleton.mp ha, hws10]; exact sb _ _ hws10 (by simpa using hqdl)) ?_ ?_
        · rintro j v σ H11 H12 hj ⟨v10, rfl, sb11, hw11⟩ s1112 hv
          obtain ⟨wj, hwj, rfl⟩ := at_map hv
          obtain ⟨lots, hlots, hll⟩ := paired_at hwp9 hwj
          have hlotsm : lots ∈ ST := List.mem_of_getElem? hlots
          have s9_12 : Same H9 H12 := (SameBut.freshL (as := [dl]) s10 (fun l hl => by rw [List.mem_singleton.mp hl]; exact hdl) sb11).trans s1112
          have sb12 := sb11.trans (SameBut.of s1112)
          have s0_12 := s09.trans s9_12
          have hstep : (ST.take (j + 1)).foldl (fun later lots => later ++ (KP.nextLots f R lots r).filter fun way => !later.contains way) [] = (ST.take j).foldl (fun later lots => later ++ (KP.nextLots f R lots r).filter fun way => !later.contains way) [] ++
              (KP.nextLots f R lots r).filter fun way => !((ST.take j).foldl (fun later lots => later ++ (KP.nextLots f R lots r).filter fun way => !later.contains way) []).contains way := by
            rw [take_more hlots, List.foldl_append]; rfl
          have hB : ∀ lots, lots ∈ ST → (KP.nextLots f R lots r).length ≤ 2 ^ (rr.length + i + 1) := fun lots hl => by
            have := next_len hc (hstg.ways lots hl) hstg.nd hrRW
            rw [hstg.len] at this; exact this
          have hBig : ST.length * 2 ^ (rr.length + i + 1) ≤ 32768 := Nat.le_trans (Nat.mul_le_mul_right _ hstg.cnt) (stB_le (r0 := rr.length) (i := i + 1) (by omega))
          have hlaterLen : ((ST.take j).foldl (fun later lots => later ++ (KP.nextLots f R lots r).filter fun way => !later.contains way) []).length ≤ 32768 := by
            have h1 := lessFold_len (f := f) (R := R) (r := r) (B := 2 ^ (rr.length + i + 1)) (ST.take j) [] fun lots hl => hB lots (List.mem_of_mem_take hl)
            rw [List.length_nil, Nat.zero_add, List.length_take] at h1
            have h2 : min j ST.length * 2 ^ (rr.length + i + 1) ≤ ST.length * 2 ^ (rr.length + i + 1) := Nat.mul_le_mul_right _ (Nat.min_le_right ..)
            omega
          have hNL : (KP.nextLots f R lots r).length ≤ 32768 := by
            have h1 : 1 * 2 ^ (rr.length + i + 1) ≤ ST.length * 2 ^ (rr.length + i + 1) := Nat.mul_le_mul_right _ (List.length_pos_of_mem hlotsm)
            have := hB lots hlotsm
            omega
          generalize hLT : (ST.take j).foldl (fun later lots => later ++ (KP.nextLots f R lots r).filter fun way => !later.contains way) [] = LT at hw11 hstep hlaterLen
          have hw12 := hw11.same s1112
          obtain ⟨wsl, hdl12, hpl12⟩ := id hw12
          refine ⟨_, rfl, .inl ⟨rfl, _, SqL.of hdl12⟩, _, rfl, _, rfl, _, rfl, a, wj, r, f, wd, n, c, R, lots, RW, rfl, hparts.same s0_12, ok, hll.same s9_12, hstg.ways lots hlotsm, hstg.nd, hstg.lt, hrn, hrRW, by omega, hn5, fun H13 q13 s13 hq13 hways13 => ?_⟩
          obtain ⟨wn, hwn, hwnp⟩ := hways13
          have hwn13 := new_same _ _ hwn
          have hwnl : wn.length = (KP.nextLots f R lots r).length := paired_len hwnp
          refine ⟨q13, rfl, ⟨_, SqL.of hwn13⟩, fun Dc hDc => ?_⟩
          refine lc_ex (jo_list (SqL.of hwn13)) (Same.refl _) (Same.refl _) hDc (fun z xs G => ∃ qs, xs = rV qs ∧ Paired (IsLL (newH H12 G)) qs (((KP.nextLots f R lots r).take z).filter fun way => !LT.contains way)) (fun z xs G G' sG ⟨qs, e1, e2⟩ => ⟨qs, e1, paired_mono (fun _ _ z => z.same (new_mono sG)) e2⟩) ⟨[], rfl, .nil⟩
            (fun z xs G hz ⟨qs, e1, e2⟩ => ?_) (fun z v xs H14 Nx Sk hz s14 hv hD14 hpv kN kS => ?_) fun H14 xs s14 d14 hpv => ?_
          · have h1 := List.length_filter_le (fun way => !LT.contains way) ((KP.nextLots f R lots r).take z)
            rw [List.length_take] at h1
            rw [e1, List.length_map, paired_len e2]; omega
          · obtain ⟨wz, hwz, rfl⟩ := at_map hv
            obtain ⟨way, hway, hwl⟩ := paired_at hwnp hwz
            obtain ⟨qs, rfl, hqs⟩ := hpv
            refine ⟨rfl, _, rfl, _, rfl, PySem.W.Datum.toD way, LT.map PySem.W.Datum.toD, ll_at ((hwl.same new_same).same s14), ways_at ((hw12.ways.same s13).same s14), toD_shaped way, toD_shaped LT, _, rfl, ?_⟩
            rw [any_toD]
            by_cases hin : way ∈ LT
            · refine ite_f (by simpa using hin) (kS _ (Same.refl _) ⟨qs, rfl, ?_⟩)
              rw [take_filter_more _ hway, if_neg (by simpa using hin)]
              exact hqs
            · refine ite_t (by simpa using hin) ⟨_, rfl, kN _ _ (Same.refl _) ⟨qs ++ [wz], by rw [rV_snoc], ?_⟩⟩
              rw [take_filter_more _ hway, if_pos (by simpa using hin)]
              exact Paired.snoc hqs (hwl.same (new_mono (but_none hDc s14)))
          · obtain ⟨qs, rfl, hqs⟩ := hpv
            rw [List.length_map, hwnl, List.take_length] at hqs
            have s1214 := s13.trans s14
            have hdl14 := s1214 _ _ hdl12
            refine ⟨dl, Dc, _, _, rfl, rfl, hdl14, d14, ?_, ?_⟩
            · have h1 := List.length_filter_le (fun way => !LT.contains way) (KP.nextLots f R lots r)
              refine sz ?_
              rw [List.length_map, List.length_map, paired_len hpl12, paired_len hqs]; omega
            · refine ⟨_, rfl, (sb12.trans (SameBut.of s1214)).upd (.inl List.mem_cons_self), wsl ++ qs, by rw [upd_same]; exact congrArg (fun z => some (HO.lst z)) (List.map_append ..).symm, ?_⟩
              rw [hstep, but_upd]
              exact paired_append (paired_mono (fun _ _ z => z.same (but_mono s1214)) hpl12) (paired_mono (fun _ _ z => z.same ((new_mono but_same).trans (new_but (by rw [hdl12]; simp)))) hqs)
        · rintro σ H11 ⟨v10, rfl, sb11, hw11⟩
          rw [List.length_map, hwsl, List.take_length] at hw11
          have hdlH7 : H7 dl = none := s9.free hdl
          have s11 : Same H7 H11 := SameBut.freshL (as := [dl]) (s9.trans s10) (fun l hl => by rw [List.mem_singleton.mp hl]; exact hdlH7) sb11
          refine ⟨_, rfl, dl, _, _, _, KP.srt (RW ++ [r]), rfl, s11, ?_, ?_⟩
          · rw [hnext]; exact hw11.ways
          · rw [hnext]; exact hstg2
      · rintro σ H8 ⟨q, v8, v9, v10, RW, rfl, s8, hways8, hstg⟩
        rw [List.length_map, List.take_length] at hways8 hstg
        have s08 := s07.trans s8
        have WM := hstg.ways M hMin
        refine ⟨_, rfl, fd, _, ((0 : Nat) : Int), .str "told", rfl, rfl, SqT.of (s08 _ _ hfd), atN rfl, rfl, _, rfl, ite_f (by rw [decide_eq_true rfl]; rfl) ?_⟩
        refine ⟨_, rfl, _, rfl, PySem.W.Datum.toD M, (lot.foldl (KP.lessStep f R) [restOf L x]).map PySem.W.Datum.toD, ll_at (hM.same s08), ways_at hways8, toD_shaped M, toD_shaped (lot.foldl (KP.lessStep f R) [restOf L x]), _, rfl, ?_⟩
        rw [any_toD]
        refine ite_f (by simpa using hMin) ?_
        refine ⟨_, rfl, fd, _, ((1 : Nat) : Int), .ref d, rfl, rfl, SqT.of (s08 _ _ hfd), atN rfl, d, _, rfl, s08 _ _ hd, fun H9 p9 ts s9 hp9 hts hpts h9 hpr => ?_⟩
        have s09 : Same H H9 := s08.trans s9
        have s49 := (s47.trans s8).trans s9
        have hRl := way_le WR hrnd
        have hMl := way_le WM hstg.nd
        have hMl2 := hstg.len
        refine ⟨_, rfl, _, rfl, p3, bh, restOf L x, M, rfl, hrest4.same s49, hM.same s09, KP.seats_nodup WR.nodup WR.dis, KP.seats_nodup WM.nodup WM.dis, by omega, by omega, fun H10 q10 s10 hq10 h10 => ⟨q10, _, rfl, h10, fun H11 p11 ts11 s11 _ _ _ h11 hpr11 => ?_⟩⟩
        have s911 : Same H9 H11 := s10.trans s11
        refine ⟨_, _, pairs_at (s911 _ _ h9) (paired_mono (fun _ _ e => s911 _ _ e) hpr), pairs_at h11 hpr11, toD_shaped _, toD_shaped _, ?_⟩
        rw [PySem.W.Datum.eqv, decide_eq_true rfl]
        exact k _ (s09.trans s911)
end
end KW
end
section
set_option Elab.async false
set_option linter.all false
set_option maxRecDepth 100000
set_option maxHeartbeats 8000000
set_option pp.maxSteps 300
/-! The law: tried. -/
namespace KW
open PySem PySem.Spec PyProof.Rows L2
/-- what tried answers to an error -/
def Caught (K : PySem.W.Frag) (Q : VK) : XK := fun cls d H =>
  (cls = .ref (He.ga K "NoRow") ∧ ∃ dd v z, d = some dd ∧ H dd = some (.xd [("row", v)]) ∧ ReprV H v z ∧ ∀ p, H p = none → Q (.ref p) (upd H p (.tup [.str "row", .str z]))) ∨
  (cls = .ref (He.ga K "BadCount") ∧ ∃ dd v z, d = some dd ∧ H dd = some (.xd [("count", v)]) ∧ ReprV H v z ∧ ∀ p, H p = none → Q (.ref p) (upd H p (.tup [.str "count", .str z]))) ∨
  (cls = .ref (He.ga K "TooMany") ∧ ∃ dd v, d = some dd ∧ H dd = some (.xd [("lot", v)]) ∧ ∀ p, H p = none → Q (.ref p) (upd H p (.tup [.str "many", v]))) ∨
  (cls = .ref (He.ga K "NoDeed") ∧ ∀ p, H p = none → Q (.ref p) (upd H p (.tup [.str "deed", .str ""])))
/-- what tried makes of a job -/
def TTried (K : PySem.W.Frag) : (XK → Hp → VK → Prop) → Hp → VK → Prop := fun tl H Q =>
  ∀ p0, H p0 = none → ∀ Q2 : VK, (∀ v H', (∀ p, H' p = none → Q (.ref p) (upd H' p (.tup [.str "told", v]))) → Q2 v H') → tl (Caught K Q) (upd H p0 (.tup [.str "none", .str ""])) Q2
theorem takes_len {X : Cx} {W : WX} (tk : Takes X W) : Takes X (fun cls d σ H => σ.length = X.N.length → W cls d σ H) := fun e s' x => by
  obtain ⟨a, B, sI, pins, σ, H, cls, d, h1, J, h2, h3, h4, h5, h6, h7, z⟩ := x
  exact tk _ _ ⟨a, B, sI, pins, σ, H, cls, d, h1, J, h2, h3, h4, h5, h6, h7, z J.len⟩
theorem set_at {σ : L2.St} {i : Nat} {v : Option V} (h : i < σ.length) : (σ.set i v)[i]? = some v := List.getElem?_set_self h
abbrev nmTried : List Str := ["_law_job", "_law_found", "e"]
theorem scTried : FnScope nmTried ["_law_job"] (defScope s_l_tried) := ⟨rfl, rfl, rfl, by decide +kernel, rfl, by decide +kernel, by decide +kernel⟩
theorem tried_gives {X : Cx} (T : Txt2 X.prog X.K X.mg) (hgd : X.A.guards = some []) (hu : X.A.units + 100 < cLine) {g : Addr} {cdg : Value} {q : Str} :
    LamX.GivesTo X nmTried "_law_tried" (defScope s_l_tried) g cdg (defBody s_l_tried) "_law_job" q (TTried X.K) := by
  intro f c' s H Q tl act hc h
  let Y : Cx := (cxOf C8.CX0 X.prog X.w X.K X.mg X.base nmTried "_law_tried" (defScope s_l_tried) g cdg X.A X.stack s H C8.E0).nox
  have hgY : Y.A.guards = some [] := hgd
  refine ⟨_, (pss_cons (ps_set (i := 1) scTried.nd rfl (Or.inl rfl) (pe_tup (pa_cons (pe_str) (pa_cons (pe_str) pa_nil)))) (pss_cons (ps_try_mix (X := Y) (Wout := fun _ _ _ _ => False) (tb := fun W D σ H => ∃ Ech : XK, (∀ cls d σ' H', Ech cls d H' → σ'.length = 3 → W cls d σ' H') ∧ tAsg (tTup (tCons (tC (.str "told")) (tCons (fun σZ HZ Q => σZ[0]? = some (some (.ref f)) ∧ HZ c' = some (LamX.CodeO c' q) ∧ tl Ech HZ Q) tNil))) (gName 1) D σ H)
        rfl rfl scTried.nd LamX.takes0 (fun W pn xe tk _ => ⟨fun pins s σ H D I h' => ?_⟩)
        (.as (i := 2) ⟨by rfl, by decide, .inl T.g_NoRow⟩ rfl rfl (fun a oe cls d pn hz hf => (pss_one (ps_set (i := 1) scTried.nd rfl (Or.inl rfl) (pe_tup (pa_cons (pe_str) (pa_cons (pe_callB (call_repr (X := Y.suite a ((a, oe) :: pn)) hgY ?_) (by rfl) T.f_repr boot_repr (pa_cons (pe_xf T.eRow.tx.xf T.eRow.no hz hf (pv 2)) pa_nil)) pa_nil))))))
          (.as (i := 2) ⟨by rfl, by decide, .inl T.g_BadCount⟩ rfl rfl (fun a oe cls d pn hz hf => (pss_one (ps_set (i := 1) scTried.nd rfl (Or.inl rfl) (pe_tup (pa_cons (pe_str) (pa_cons (pe_callB (call_repr (X := Y.suite a ((a, oe) :: pn)) hgY ?_) (by rfl) T.f_repr boot_repr (pa_cons (pe_xf T.eCount.tx.xf T.eCount.no hz hf (pv 2)) pa_nil)) pa_nil))))))
            (.as (i := 2) ⟨by rfl, by decide, .inl T.g_TooMany⟩ rfl rfl (fun a oe cls d pn hz hf => (pss_one (ps_set (i := 1) scTried.nd rfl (Or.inl rfl) (pe_tup (pa_cons (pe_str) (pa_cons (pe_xf T.eMany.tx.xf T.eMany.no hz hf (pv 2)) pa_nil))))))
              (.one ⟨by rfl, by decide, .inl T.g_NoDeed⟩ (fun a oe cls d pn hz hf => (pss_one (ps_set (i := 1) scTried.nd rfl (Or.inl rfl) (pe_tup (pa_cons (pe_str) (pa_cons (pe_str) pa_nil)))))) .nil))))) (pss_one (ps_ret (pv 1))))), ?_⟩
  · obtain ⟨Ech, hW, h2⟩ := h'
    exact (pss_one (ps_set (i := 1) scTried.nd rfl (Or.inl rfl) (pe_tup (pa_cons (pe_str) (pa_cons (act (fun cls d σ H => σ.length = 3 → W cls d σ H) pn xe Ech _ _ (takes_len tk) hW) pa_nil))))).run pins s σ H D I h2
  · show X.A.units + 3 + 65 < cLine
    omega
  · show X.A.units + 3 + 65 < cLine
    omega
  · refine ⟨sz (by simp), fun p0 hp0 => ?_⟩
    have hc0 : (upd H p0 (.tup [V.str "none", .str ""])) c' = some (LamX.CodeO c' q) := by rw [upd_ne (ne_of_none hc hp0)]; exact hc
    refine ⟨Caught X.K Q, fun cls d σ' H' hcg hl => ?_, rfl, hc0, h p0 hp0 _ fun v H' hq => ⟨sz (by simp), fun p hp => ⟨_, rfl, hq p hp⟩⟩⟩
    have l2 : ∀ v : Option V, ((σ'.set 2 v)).length = 3 := fun v => by rw [List.length_set]; exact hl
    have fin : ∀ (v u : Option V) (p : Addr), (((σ'.set 2 v).set 1 (some (.ref p))).set 2 u)[1]? = some (some (.ref p)) := fun v u p => by
      rw [List.getElem?_set_ne (by decide), set_at (by rw [l2]; decide)]
    rcases hcg with ⟨rfl, dd, v, z, rfl, hdd, hz, k⟩ | ⟨rfl, dd, v, z, rfl, hdd, hz, k⟩ | ⟨rfl, dd, v, rfl, hdd, k⟩ | ⟨rfl, k⟩
    · exact ⟨true, T.x_NoRow_NoRow, fun _ a ha => ⟨_, set_at (by omega), rfl, rfl, dd, _, v, rfl, hdd, rfl, v, z, rfl, hz, sz (by simp), fun p hp => ⟨_, fin _ _ _, k p hp⟩⟩, fun z => nomatch z⟩
    · exact ⟨false, T.x_BadCount_NoRow, fun z => (nomatch z), fun _ => ⟨true, T.x_BadCount_BadCount, fun _ a ha => ⟨_, set_at (by omega), rfl, rfl, dd, _, v, rfl, hdd, rfl, v, z, rfl, hz, sz (by simp), fun p hp => ⟨_, fin _ _ _, k p hp⟩⟩, fun z => nomatch z⟩⟩
    · exact ⟨false, T.x_TooMany_NoRow, fun z => (nomatch z), fun _ => ⟨false, T.x_TooMany_BadCount, fun z => (nomatch z), fun _ => ⟨true, T.x_TooMany_TooMany, fun _ a ha => ⟨_, set_at (by omega), rfl, rfl, dd, _, v, rfl, hdd, rfl, sz (by simp), fun p hp => ⟨_, fin _ _ _, k p hp⟩⟩, fun z => nomatch z⟩⟩⟩
    · exact ⟨false, T.x_NoDeed_NoRow, fun z => (nomatch z), fun _ => ⟨false, T.x_NoDeed_BadCount, fun z => (nomatch z), fun _ => ⟨false, T.x_NoDeed_TooMany, fun z => (nomatch z), fun _ => ⟨true, T.x_NoDeed_NoDeed, fun _ a ha => ⟨sz (by simp), fun p hp => ⟨_, set_at (by omega), k p hp⟩⟩, fun z => nomatch z⟩⟩⟩⟩
end KW
end
section
set_option Elab.async false
set_option linter.all false
set_option maxRecDepth 100000
set_option maxHeartbeats 4000000
set_option pp.maxSteps 300
/-! The keeper's moments as ways; what a deed makes of them. Plain Lean. -/
namespace KW
open PySem PySem.Spec PyProof.Rows L2
/-- lots of the keeper: a way to keep some rows -/
structure Good (f : Int) (R : List (List Int)) (n : Nat) (L : List (List Nat)) (rows : List Nat) : Prop where
  way : KP.IsWay f R rows L.length L
  nd : rows.Nodup
  lt : ∀ r, r ∈ rows → r < n
section
variable {f : Int} {R : List (List Int)} {wd n : Nat} {L : List (List Nat)} {rows : List Nat} {x : Nat}
theorem map_srt_id {M : List (List Nat)} (h : ∀ lot, lot ∈ M → lot.Pairwise (· < ·)) : M.map KP.srt = M :=
  (List.map_congr_left fun lot hl => KP.srt_id (h lot hl)).trans (List.map_id _)
theorem Good.srtId (g : Good f R n L rows) : L.map KP.srt = L := map_srt_id g.way.srt
theorem Good.kept (g : Good f R n L rows) : KP.Kept f wd n R rows L.length L := ⟨g.way.nodup, by rw [g.srtId]; exact g.way, g.lt⟩
theorem Good.memLot (g : Good f R n L rows) {lot : List Nat} (h : lot ∈ L) {r : Nat} (hr : r ∈ lot) : r ∈ rows := by
  obtain ⟨i, hi, e⟩ := List.getElem_of_mem h
  refine (g.way.rows_ r).mpr ⟨i, KP.memL_iff.mpr ?_⟩
  rw [List.getD_eq_getElem?_getD, List.getElem?_eq_getElem hi, e]; exact hr
theorem Good.lotsOk (g : Good f R n L rows) : LotsOk n L where
  nd := fun i => (g.kept (wd := 0)).lot_nd i
  lt := fun i r h => (g.kept (wd := 0)).lot_lt h
theorem Good.small (g : Good f R n L rows) {lot : List Nat} (h : lot ∈ L) : lot.length ≤ n := KP.nodup_le n lot (g.way.nodup lot h) fun r hr => g.lt r (g.memLot h hr)
theorem Good.keys (g : Good f R n L rows) : KP.srt ((KP.seats L).map (·.1)) = KP.srt rows := KP.way_rows_all g.way g.nd
theorem Good.mem (g : Good f R n L rows) (r : Nat) : r ∈ rows ↔ ∃ lot, lot ∈ L ∧ r ∈ lot := by
  constructor
  · intro h
    obtain ⟨i, hi⟩ := (g.way.rows_ r).mp h
    exact ⟨_, KP.getD_lots (KP.memL_lt hi), KP.memL_iff.mp hi⟩
  · rintro ⟨lot, hl, hr⟩
    exact g.memLot hl hr
/-- a row has come -/
theorem Good.came {pl : List (Nat × Nat)} (g : Good f R n L rows) (hxr : x ∉ rows) (hx : x < n) (C : KP.Came f wd n R rows L.length L x pl) : Good f R n ((KP.putLots L pl).map KP.srt) (KP.srt (rows ++ [x])) := by
  have h := C.kept.way
  have e := h.len
  exact ⟨by rw [e]; exact h, KP.srt_nodup (KP.snoc_nodup g.nd hxr), C.kept.lt⟩
theorem rank_nil : KP.rankOf f R [] = 0 := rfl
/-- a lot is opened -/
theorem Good.more (g : Good f R n L rows) : Good f R n (L ++ [[]]) rows := by
  have hm : ∀ i r, KP.memL (L ++ [[]]) i r = KP.memL L i r := fun i r => by
    unfold KP.memL
    rw [List.getD_eq_getElem?_getD, List.getD_eq_getElem?_getD]
    by_cases h : i < L.length
    · rw [List.getElem?_append_left h]
    · rw [List.getElem?_append_right (by omega), List.getElem?_eq_none (by omega : L.length ≤ i)]
      cases i - L.length <;> rfl
  refine ⟨⟨by simp, fun lot h => ?_, fun lot h => ?_, fun r => ?_, fun i j r h1 h2 => ?_⟩, g.nd, g.lt⟩
  · rcases List.mem_append.mp h with h | h
    · exact g.way.srt lot h
    · rw [List.mem_singleton.mp h]; exact .nil
  · rcases List.mem_append.mp h with h | h
    · exact g.way.free lot h
    · rw [List.mem_singleton.mp h]; exact rank_nil
  · rw [g.way.rows_]
    simp only [hm]
  · rw [hm] at h1 h2
    exact g.way.dis i j r h1 h2
theorem more_srt (g : Good f R n L rows) : (L ++ [[]]).map KP.srt = L ++ [[]] := g.more.srtId
/-- some of the rows -/
theorem sub_way (ok : PartsOk f wd n R) {c : Nat} {z : List (List Nat)} {less : List Nat} (W : KP.IsWay f R rows c z) (hl : ∀ r, r ∈ rows → r < n) (hs : ∀ r, r ∈ less → r ∈ rows) : KP.IsWay f R less c (z.map fun lot => lot.filter fun r => less.contains r) := by
  obtain ⟨D, hf0, _⟩ := ok.dom
  have PZ := W.parts D hf0 ok.len ok.wid hl
  have lm : ∀ i r, KP.memL (z.map fun lot => lot.filter fun r => less.contains r) i r = true ↔ KP.memL z i r = true ∧ r ∈ less := fun i r => by
    rw [KP.memL_map (g := fun lot => lot.filter fun r => less.contains r) rfl, KP.memL_iff, List.mem_filter, List.contains_iff_mem]
  have ll : (z.map fun lot => lot.filter fun r => less.contains r).length = c := (List.length_map ..).trans W.len
  have W' := KP.IsWay.of_parts (n := n) (w := wd) D hf0 ok.len ok.wid (rows := less) (lots := z.map fun lot => lot.filter fun r => less.contains r) (p := fun r => less.contains r) (fun r => List.contains_iff_mem) (fun lot hl => by
      obtain ⟨l0, h0, rfl⟩ := List.mem_map.mp hl
      exact (W.srt l0 h0).filter _) ⟨fun i hi => (PZ.free i (by rw [ll] at hi; exact hi)).sub fun r hr => ((lm i r).mp hr).1, fun i r h => by
      obtain ⟨h1, h2⟩ := (lm i r).mp h
      obtain ⟨h3, h4, _⟩ := PZ.inn i r h1
      exact ⟨by rw [ll]; exact h3, h4, List.contains_iff_mem.mpr h2⟩, fun r h => by
      have h' := List.contains_iff_mem.mp h
      obtain ⟨i, h1, h2⟩ := PZ.cov r (List.contains_iff_mem.mpr (hs r h'))
      exact ⟨i, by rw [ll]; exact h1, (lm i r).mpr ⟨h2, h'⟩⟩, fun i j r h h' => PZ.dis i j r ((lm i r).mp h).1 ((lm j r).mp h').1⟩
  rw [ll] at W'
  exact W'
theorem gone_eq (g : Good f R n L rows) : goneOf L x = L.map fun lot => lot.filter fun r => (rows.filter fun r => decide (r ≠ x)).contains r := by
  unfold goneOf
  refine List.map_congr_left fun lot hl => List.filter_congr fun r hr => ?_
  rw [Bool.eq_iff_iff, decide_eq_true_iff, List.contains_iff_mem, List.mem_filter, decide_eq_true_iff]
  exact ⟨fun h => ⟨g.memLot hl hr, h⟩, fun h => h.2⟩
/-- a row has gone -/
theorem Good.gone (ok : PartsOk f wd n R) (g : Good f R n L rows) : Good f R n (goneOf L x) (rows.filter fun r => decide (r ≠ x)) := by
  have W := sub_way ok g.way g.lt (less := rows.filter fun r => decide (r ≠ x)) fun r h => (List.mem_filter.mp h).1
  rw [← gone_eq g] at W
  refine ⟨by unfold goneOf at W ⊢; rw [List.length_map]; exact W, g.nd.filter _, fun r h => g.lt r (List.mem_filter.mp h).1⟩
/-- the lots without one -/
theorem memL_rest {i r : Nat} (hx : x < L.length) : KP.memL (restOf L x) i r = KP.memL L (if i < x then i else i + 1) r := by
  unfold KP.memL restOf
  rw [List.getD_eq_getElem?_getD, List.getD_eq_getElem?_getD]
  have hl : (L.take x).length = x := by rw [List.length_take]; omega
  by_cases h : i < x
  · rw [if_pos h, List.getElem?_append_left (by omega), List.getElem?_take_of_lt h]
  · rw [if_neg h, List.getElem?_append_right (by omega), hl, List.getElem?_drop]
    congr 3
    omega
theorem Good.rest (g : Good f R n L rows) (hx : x < L.length) : ∃ rr, Good f R n (restOf L x) rr ∧ (∀ r, r ∈ rows ↔ r ∈ rr ∨ r ∈ L.getD x []) ∧ (∀ r, r ∈ L.getD x [] → r ∉ rr) := by
  have hml : ∀ lot, lot ∈ restOf L x → lot ∈ L := fun lot h => by
    rcases List.mem_append.mp h with h | h
    · exact List.mem_of_mem_take h
    · exact List.mem_of_mem_drop h
  have hdis : KP.Dis (restOf L x) := fun i j r h1 h2 => by
    rw [memL_rest hx] at h1 h2
    have := g.way.dis _ _ r h1 h2
    split at this <;> split at this <;> omega
  have hrr : ∀ r, r ∈ (KP.seats (restOf L x)).map (·.1) ↔ ∃ i, KP.memL (restOf L x) i r = true := fun r => by
    constructor
    · intro h
      obtain ⟨z, hz, rfl⟩ := List.mem_map.mp h
      exact ⟨z.2, KP.mem_seats.mp (show (z.1, z.2) ∈ _ from hz)⟩
    · rintro ⟨i, h⟩
      exact List.mem_map.mpr ⟨_, KP.mem_seats.mpr h, rfl⟩
  have hnd : ((KP.seats (restOf L x)).map (·.1)).Nodup := KP.seats_nodup (fun lot h => g.way.nodup lot (hml lot h)) hdis
  refine ⟨(KP.seats (restOf L x)).map (·.1), ⟨⟨rfl, fun lot h => g.way.srt lot (hml lot h), fun lot h => g.way.free lot (hml lot h), hrr, hdis⟩, hnd, fun r h => ?_⟩, fun r => ?_, fun r h1 h2 => ?_⟩
  · obtain ⟨i, hi⟩ := (hrr r).mp h
    rw [memL_rest hx] at hi
    exact g.lt r ((g.way.rows_ r).mpr ⟨_, hi⟩)
  · rw [g.way.rows_, hrr]
    constructor
    · rintro ⟨i, hi⟩
      by_cases h : i = x
      · exact .inr (KP.memL_iff.mp (h ▸ hi))
      · refine .inl ⟨if i < x then i else i - 1, ?_⟩
        rw [memL_rest hx]
        have e : (if (if i < x then i else i - 1) < x then (if i < x then i else i - 1) else (if i < x then i else i - 1) + 1) = i := by
          by_cases h2 : i < x
          · rw [if_pos h2, if_pos h2]
          · rw [if_neg h2, if_neg (by omega)]; omega
        rw [e]; exact hi
    · rintro (⟨i, hi⟩ | h)
      · rw [memL_rest hx] at hi
        exact ⟨_, hi⟩
      · exact ⟨x, KP.memL_iff.mpr h⟩
  · obtain ⟨i, hi⟩ := (hrr r).mp h2
    rw [memL_rest hx] at hi
    have := g.way.dis _ _ r hi (KP.memL_iff.mpr h1)
    split at this <;> omega
end
end KW
end
section
set_option Elab.async false
set_option linter.all false
set_option maxRecDepth 100000
set_option maxHeartbeats 4000000
set_option pp.maxSteps 300
/-! What comes of a row that comes, of a lot that is closed. Plain Lean. -/
namespace KW
open PySem PySem.Spec PyProof.Rows L2
section
variable {f : Int} {R : List (List Int)} {wd n : Nat} {L : List (List Nat)} {rows : List Nat} {x : Nat}
/-- a lot that shows that there are too many rows -/
structure Shows (f : Int) (R : List (List Int)) (c : Nat) (rows lot : List Nat) : Prop where
  none_ : KP.allLots f R (KP.srt rows) c = []
  sub : ∀ r, r ∈ lot → r ∈ rows
  srt : lot.Pairwise (· < ·)
  many : c * KP.rankOf f R lot < lot.length
theorem srt_srt' (l : List Nat) : KP.srt (KP.srt l) = KP.srt l := srt_srt l
theorem Came.toldD_eq {c : Nat} {K : List (List Nat)} {pl : List (Nat × Nat)} (C : KP.Came f wd n R rows c K x pl) : toldD pl = movesD (KP.changed (K.map KP.srt) ((KP.putLots K pl).map KP.srt)) := by
  rw [C.told]
  unfold toldD movesD
  rw [List.map_map]; rfl
theorem Came.len {c : Nat} {K : List (List Nat)} {pl : List (Nat × Nat)} (C : KP.Came f wd n R rows c K x pl) : (KP.changed (K.map KP.srt) ((KP.putLots K pl).map KP.srt)).length = pl.length := by
  rw [C.told, List.length_map, (KP.srt_perm _).length_eq, List.length_map]
/-- a row comes -/
theorem come_cases (ok : PartsOk f wd n R) (g : Good f R n L rows) (hx : x < n) (hxr : x ∉ rows) :
    (∃ Rr, bfsOf f n (R.map (KP.mdl f)) L x = some (Rr, none) ∧ Shows f R L.length (KP.srt (rows ++ [x])) (KP.srt (KP.keysR Rr))) ∨
    ∃ Rr th i pl rest j M, bfsOf f n (R.map (KP.mdl f)) L x = some (Rr, some (th, i)) ∧ KP.Path Rr x pl j ∧ pl = (th, i) :: rest ∧ (pl.map (·.1)).Nodup ∧ (∀ z, z ∈ pl → z.2 < L.length ∧ z.1 < n) ∧ M = (KP.putLots L pl).map KP.srt ∧ Good f R n M (KP.srt (rows ++ [x])) ∧ M.length = L.length ∧
      toldD pl = movesD (KP.changed L M) ∧ ∀ way, way ∈ KP.allLots f R (KP.srt (rows ++ [x])) L.length → (KP.changed L M).length ≤ (KP.changed L way).length := by
  obtain ⟨D, hf0, hf13⟩ := ok.dom
  rcases KP.came_ok D hf0 hf13 ok.raw (g.kept (wd := wd)) g.nd hx hxr with ⟨Rr, th, i, j, pl, rest, h1, h2, h3, h4, C⟩ | ⟨Rr, h1, h2, h3, h4, h5⟩
  · refine .inr ⟨Rr, th, i, pl, rest, j, _, h1, h2, h3, C.nd, C.lt, rfl, g.came hxr hx C, C.kept.way.len, ?_, fun way hw => ?_⟩
    · have := Came.toldD_eq C
      rw [g.srtId] at this
      exact this
    · have e1 := Came.len C
      have e2 := C.least way hw
      rw [g.srtId] at e1 e2
      omega
  · refine .inl ⟨Rr, h1, by rw [srt_srt]; exact h3, fun r h => h4 r (KP.mem_srt.mp h), KP.srt_lt h2.nd, ?_⟩
    rw [(KP.srt_perm _).length_eq]
    unfold KP.keysR
    rw [List.length_map]
    exact h5
/-- a lot is closed: how far its rows come -/
structure LRun (f : Int) (R : List (List Int)) (wd n : Nat) (K0 : List (List Nat)) (rr lot : List Nat) (m : Nat) (Ks : Nat → List (List Nat)) (RW : Nat → List Nat) : Prop where
  k0 : Ks 0 = K0
  kept : ∀ i, i ≤ m → KP.Kept f wd n R (RW i) K0.length (Ks i)
  nd : ∀ i, i ≤ m → (RW i).Nodup
  mem : ∀ i, i ≤ m → ∀ r, r ∈ RW i ↔ r ∈ rr ∨ r ∈ lot.take i
  st : ∀ i, i ≤ m → (Ks i).map KP.srt ∈ (lot.take i).foldl (KP.lessStep f R) [K0]
  go : ∀ i r, i < m → lot[i]? = some r → Goes f n (R.map (KP.mdl f)) (Ks i) (Ks (i + 1)) r
def Fails (f : Int) (R : List (List Int)) (n : Nat) (K0 : List (List Nat)) (rr lot : List Nat) (m : Nat) (Ks : Nat → List (List Nat)) : Prop :=
  ∃ r Rr, lot[m]? = some r ∧ bfsOf f n (R.map (KP.mdl f)) (Ks m) r = some (Rr, none) ∧ ∀ rows : List Nat, rows.Nodup → (∀ r, r ∈ rows → r < n) → (∀ r, r ∈ rows ↔ r ∈ rr ∨ r ∈ lot) → Shows f R K0.length rows (KP.srt (KP.keysR Rr))
theorem lrun_step (ok : PartsOk f wd n R) {K0 : List (List Nat)} {rr lot : List Nat} {m : Nat} {Ks : Nat → List (List Nat)} {RW : Nat → List Nat} (h : LRun f R wd n K0 rr lot m Ks RW) {r : Nat} (hr : lot[m]? = some r) (hrn : r < n) (hrr : r ∉ rr) (hnd : lot.Nodup) :
    (∃ Ks' RW', LRun f R wd n K0 rr lot (m + 1) Ks' RW') ∨ Fails f R n K0 rr lot m Ks := by
  obtain ⟨D, hf0, hf13⟩ := ok.dom
  have hm := Nat.le_refl m
  have hrm : r ∉ RW m := fun z => by
    rcases (h.mem m hm r).mp z with z | z
    · exact hrr z
    · exact nodup_take hnd hr z
  have hk := h.kept m hm
  rcases KP.came_ok D hf0 hf13 ok.raw hk (h.nd m hm) hrn hrm with ⟨Rr, th, i, j, pl, rest, h1, h2, h3, h4, C⟩ | ⟨Rr, h1, h2, h3, h4, h5⟩
  · refine .inl ⟨fun z => if z ≤ m then Ks z else KP.putLots (Ks m) pl, fun z => if z ≤ m then RW z else KP.srt (RW m ++ [r]), ?_⟩
    have hb : ¬ (m + 1 ≤ m) := by omega
    constructor
    · simpa using h.k0
    · intro z hz
      by_cases hzm : z ≤ m
      · simp only [if_pos hzm]; exact h.kept z hzm
      · simp only [if_neg hzm]; exact C.kept
    · intro z hz
      by_cases hzm : z ≤ m
      · simp only [if_pos hzm]; exact h.nd z hzm
      · simp only [if_neg hzm]; exact KP.srt_nodup (KP.snoc_nodup (h.nd m hm) hrm)
    · intro z hz y
      by_cases hzm : z ≤ m
      · simp only [if_pos hzm]; exact h.mem z hzm y
      · have e : z = m + 1 := by omega
        subst e
        simp only [if_neg hzm]
        rw [KP.rows_in, h.mem m hm, take_more hr, List.mem_append, List.mem_singleton, or_assoc]
    · intro z hz
      by_cases hzm : z ≤ m
      · simp only [if_pos hzm]; exact h.st z hzm
      · have e : z = m + 1 := by omega
        subst e
        simp only [if_neg hzm]
        rw [take_more hr, List.foldl_append]
        exact KP.mem_lessStep.mpr ⟨_, h.st m hm, KP.came_next D hf0 ok.raw hk (h.nd m hm) hrn hrm C⟩
    · intro z y hz hy
      by_cases hzm : z < m
      · have h1' : z ≤ m := by omega
        have h2' : z + 1 ≤ m := by omega
        simp only [if_pos h1', if_pos h2']
        exact h.go z y hzm hy
      · have e : z = m := by omega
        subst e
        rw [hr] at hy
        obtain rfl := Option.some.inj hy
        simp only [if_pos hm, if_neg hb]
        exact ⟨Rr, th, i, pl, rest, j, h1, h2, h3, C.nd, fun z hz => ⟨by rw [hk.len]; exact (C.lt z hz).1, (C.lt z hz).2⟩, rfl⟩
  · refine .inr ⟨r, Rr, hr, h1, fun rows hrn2 hlt hmem => ?_⟩
    have hsub : ∀ y, y ∈ KP.srt (RW m ++ [r]) → y ∈ rows := fun y hy => by
      rcases (KP.rows_in y).mp hy with hy | rfl
      · rcases (h.mem m hm y).mp hy with hy | hy
        · exact (hmem y).mpr (.inl hy)
        · exact (hmem y).mpr (.inr (List.mem_of_mem_take hy))
      · exact (hmem y).mpr (.inr (List.mem_of_getElem? hr))
    refine ⟨KP.no_more D hf0 ok.raw (KP.srt_nodup (KP.snoc_nodup (h.nd m hm) hrm)) (KP.srt_nodup hrn2) (fun y hy => hlt y (KP.mem_srt.mp hy)) (fun y hy => KP.mem_srt.mpr (hsub y hy)) h3, fun y hy => hsub y (h4 y (KP.mem_srt.mp hy)), KP.srt_lt h2.nd, ?_⟩
    rw [(KP.srt_perm _).length_eq]
    unfold KP.keysR
    rw [List.length_map]
    exact h5
theorem lrun_all (ok : PartsOk f wd n R) {K0 : List (List Nat)} {rr lot : List Nat} (h0 : KP.Kept f wd n R rr K0.length K0) (hs : K0.map KP.srt = K0) (hrnd : rr.Nodup) (hlt : ∀ r, r ∈ lot → r < n) (hdis : ∀ r, r ∈ lot → r ∉ rr) (hnd : lot.Nodup) : ∀ k, k ≤ lot.length →
    (∃ m Ks RW, m < lot.length ∧ LRun f R wd n K0 rr lot m Ks RW ∧ Fails f R n K0 rr lot m Ks) ∨ ∃ Ks RW, LRun f R wd n K0 rr lot k Ks RW
  | 0, _ => .inr ⟨fun _ => K0, fun _ => rr, rfl, fun _ _ => h0, fun _ _ => hrnd, fun i hi r => by
      have : i = 0 := by omega
      subst this
      simp, fun i hi => by
      have : i = 0 := by omega
      subst this
      rw [hs]
      exact List.mem_singleton.mpr rfl, fun i r hi => absurd hi (Nat.not_lt_zero _)⟩
  | k + 1, hk => by
    rcases lrun_all ok h0 hs hrnd hlt hdis hnd k (by omega) with h | ⟨Ks, RW, h⟩
    · exact .inl h
    · have hr : lot[k]? = some lot[k] := List.getElem?_eq_getElem (by omega)
      have hm := List.mem_of_getElem? hr
      rcases lrun_step ok h hr (hlt _ hm) (hdis _ hm) hnd with h' | h'
      · exact .inr h'
      · exact .inl ⟨k, Ks, RW, by omega, h, h'⟩
/-- a lot is closed -/
theorem less_cases (ok : PartsOk f wd n R) (g : Good f R n L rows) (hx : x < L.length) : ∃ rr, Good f R n (restOf L x) rr ∧ (∀ r, r ∈ rows ↔ r ∈ rr ∨ r ∈ L.getD x []) ∧ (∀ r, r ∈ L.getD x [] → r ∉ rr) ∧
    ∃ (m : Nat) (Ks : Nat → List (List Nat)), m ≤ (L.getD x []).length ∧ Ks 0 = restOf L x ∧ KP.Dis (Ks 0) ∧ (∀ i, i ≤ m → LotsOk n (Ks i) ∧ KP.Dis (Ks i) ∧ (Ks i).length = (Ks 0).length) ∧ (∀ i r, i < m → (L.getD x [])[i]? = some r → r < n ∧ Goes f n (R.map (KP.mdl f)) (Ks i) (Ks (i + 1)) r) ∧
      ((∃ r Rr, (L.getD x [])[m]? = some r ∧ r < n ∧ bfsOf f n (R.map (KP.mdl f)) (Ks m) r = some (Rr, none) ∧ Shows f R (restOf L x).length rows (KP.srt (KP.keysR Rr))) ∨
       ∃ M rows2, m = (L.getD x []).length ∧ M = (Ks m).map KP.srt ∧ Good f R n M rows2 ∧ M.length = (restOf L x).length ∧ KP.allLots f R (KP.srt rows) (restOf L x).length ≠ [] ∧ M ∈ (L.getD x []).foldl (KP.lessStep f R) [restOf L x]) := by
  obtain ⟨D, hf0, hf13⟩ := ok.dom
  obtain ⟨rr, gr, hmem, hdis⟩ := g.rest hx
  refine ⟨rr, gr, hmem, hdis, ?_⟩
  have hlm : L.getD x [] ∈ L := KP.getD_lots hx
  have hlt : ∀ r, r ∈ L.getD x [] → r < n := fun r h => g.lt r (g.memLot hlm h)
  have hnd : (L.getD x []).Nodup := g.way.nodup _ hlm
  have fin : ∀ {m Ks RW}, LRun f R wd n (restOf L x) rr (L.getD x []) m Ks RW → KP.Dis (Ks 0) ∧ (∀ i, i ≤ m → LotsOk n (Ks i) ∧ KP.Dis (Ks i) ∧ (Ks i).length = (Ks 0).length) ∧ (∀ i r, i < m → (L.getD x [])[i]? = some r → r < n ∧ Goes f n (R.map (KP.mdl f)) (Ks i) (Ks (i + 1)) r) := fun {m Ks RW} h =>
    ⟨(h.kept 0 (Nat.zero_le _)).dis, fun i hi => ⟨⟨fun z => (h.kept i hi).lot_nd z, fun z r => (h.kept i hi).lot_lt⟩, (h.kept i hi).dis, by rw [(h.kept i hi).len, (h.kept 0 (Nat.zero_le _)).len]⟩, fun i r hi hr => ⟨hlt r (List.mem_of_getElem? hr), h.go i r hi hr⟩⟩
  rcases lrun_all ok (gr.kept (wd := wd)) gr.srtId gr.nd hlt hdis hnd _ (Nat.le_refl _) with ⟨m, Ks, RW, hm, h, r, Rr, hr, hb, hsh⟩ | ⟨Ks, RW, h⟩
  · obtain ⟨a, b, c⟩ := fin h
    exact ⟨m, Ks, by omega, h.k0, a, b, c, .inl ⟨r, Rr, hr, hlt r (List.mem_of_getElem? hr), hb, hsh rows g.nd g.lt hmem⟩⟩
  · obtain ⟨a, b, c⟩ := fin h
    have hk := h.kept _ (Nat.le_refl _)
    have hmm := h.mem _ (Nat.le_refl _)
    have hnn := h.nd _ (Nat.le_refl _)
    have hst := h.st _ (Nat.le_refl _)
    rw [List.take_length] at hmm hst
    have hl : ((Ks (L.getD x []).length).map KP.srt).length = (restOf L x).length := hk.way.len
    have hin : (Ks (L.getD x []).length).map KP.srt ∈ KP.allLots f R (KP.srt rows) (restOf L x).length := by
      refine (KP.allLots_iff D hf0 ok.len ok.wid (KP.srt_nodup g.nd) fun r h => g.lt r (KP.mem_srt.mp h)).mpr ?_
      have W := hk.way
      exact ⟨W.len, W.srt, W.free, fun r => by rw [KP.mem_srt, hmem, ← hmm, W.rows_], W.dis⟩
    refine ⟨_, Ks, Nat.le_refl _, h.k0, a, b, c, .inr ⟨_, RW (L.getD x []).length, rfl, rfl, ⟨by rw [hl]; exact hk.way, hnn, hk.lt⟩, hl, fun z => (by rw [z] at hin; cases hin), hst⟩⟩
end
end KW
end
section
set_option Elab.async false
set_option linter.all false
set_option maxRecDepth 100000
set_option maxHeartbeats 8000000
set_option pp.maxSteps 300
/-! Defs that make lambdas; what the law holds between the deeds. -/
namespace KW
open PySem PySem.Spec PyProof.Rows L2
/-! ### defs that make lambdas -/
/-- a def that is called where nothing is being told by repr -/
structure CalG (P : Program) (w : World) (K : PySem.W.Frag) (mg : Str → Option Value) (base : Heap) (k : Nat) (x : Str) (sp : Sp) : Prop where
  ex : ∃ (f : Addr) (fd : FuncData) (ps : List Str), mg x = some (.ref f) ∧ PySem.W.keepIn K (.ref f) = true ∧ Binds K fd ps [] ∧ (∀ vs H Q E, sp vs H Q E → vs.length = ps.length) ∧
    ∀ (A : Around) (outer : List Env) (s : Shared) (H : Hp) (args : Args) (us : List Value) (vs : List V) (Q : VK), A.guards = some [] → Room k A → Env0 P w K mg base A outer s H → BindsTo s fd args (ps.zip us) → Vals vs us → sp vs H Q C8.E0 →
      codeAny (model P w) A (.call (.ref f) args) (CR C8.CX0 outer P w H s Q C8.E0) s
section
variable {P : Program} {w : World} {K : PySem.W.Frag} {mg : Str → Option Value} {base : Heap}
theorem dfl_none {dV : Value} (h : DflV K dV []) : dV = .none := by
  rcases h with ⟨_, h⟩ | ⟨h, _⟩
  · exact h
  · exact absurd rfl h
/-- .. by its body; its code object is told -/
theorem mkCalG {x : Str} {st : Stmt} {fd : FuncData} {N ps : List Str} {k : Nat} {sp : Sp} (F : FunD K x x (defArgs st) (defBody st) (defScope st) [] [] (He.fAd K (x, none)) fd) (g : mg x = some (.ref (He.ga K x)))
    (hb : ∀ (kV doc pm : Value) (an : Option Addr) (cdv ct : Value) (us : List Value), us.length = ps.length → bindArgs (PySem.W.fnOf x x (defArgs st) (defBody st) (defScope st) .none kV doc pm an cdv ct) ⟨us, []⟩ = pure (ps.zip us))
    (S : FnScope N ps (defScope st)) (len : ∀ vs H Q E, sp vs H Q E → vs.length = ps.length)
    (hbody : ∀ (cdv : Value) (A : Around) (outer : List Env) (s : Shared) (H : Hp) (vs : List V) (Q : VK), cdv = .ref (He.codeOf K (x, none)) → A.guards = some [] → Room k (A.deeper (envOfC x (defScope st) s.heap.objs.size (He.fAd K (x, none)) cdv)) → sp vs H Q C8.E0 →
      ∃ t, PSs (cxOf C8.CX0 P w K mg base N x (defScope st) (He.fAd K (x, none)) cdv A outer s H C8.E0).nox (defBody st) t ∧ t { nx := fun _ H' => Q .non H', rt := Q } (start N vs) H) : CalG P w K mg base (k + 1) x sp := by
  refine ⟨He.fAd K (x, none), fd, ps, g, F.kp, F.bindsN hb, len, fun A outer s H args us vs Q hgd hr e0 hbt rv hsp => ?_⟩
  obtain ⟨oc, od, dV, kV, doc, pm, an, cdv, ct, osl, efd, lk, hcd, hD, hK⟩ := F.ex
  subst efd
  have ecd : cdv = .ref (He.codeOf K (x, none)) := by
    obtain ⟨c, rfl⟩ := He.codeIn_ref hcd
    rw [He.codeOf_eq (p := (x, none)) lk rfl]
  refine LamX.run_ofS lk hcd S hr e0 hbt rv (len _ _ _ _ hsp) fun hr' => ?_
  obtain ⟨t, a, b⟩ := hbody cdv A outer s H vs Q ecd hgd hr' hsp
  exact ⟨t, a.nox, b⟩
end
section
variable {X : Cx} {k j : Nat} {x : Str} {sp : Sp} {p pos : Pos} {e : Expr} {es : List Expr} {t : TA}
theorem pe_cG (c : CalG X.prog X.w X.K X.mg X.base k x sp) (hgd : X.A.guards = some []) (hr : Room j X.A) (hk : k ≤ j) (hg : Gl X x) (ha : PA X (e :: es) t)
    (hdb : (x == ("__debug__" : Str)) = false := by decide) (he : starEach (e :: es) X.env = (false, eval e X.env) :: starEach es X.env := by rfl) (hpl : (backTo pos (starEach es X.env)).any (·.1) = false := by rfl) :
    PE X (.Call (.Name x p) (e :: es) [] pos) (tCall sp [] C8.E0 t) := by
  obtain ⟨f, fd, ps, hm, kp, b, len, run⟩ := c.ex
  refine ⟨fun pins s σ H Q I h => wpAny_Call_Name_kw (ld_glob I hg hm ?_ hdb)⟩
  refine PySem.W.callWith_K (h₀ := X.base) I.ok.mod.kin kp (thn (ha.run pos pins s σ H _ I h) fun us s1 ⟨vs, H1, I1, r, q⟩ => ⟨I1.kIn, ?_⟩) he hpl
  have q : sp (vs ++ []) H1 Q C8.E0 := q
  rw [List.append_nil] at q
  have hl : us.length = ps.length := by rw [← r.length]; exact len _ _ _ _ q
  have bt := b s1 us I1.kIn (by rw [List.append_nil]; exact hl)
  
  rw [List.append_nil] at bt
  show wpAny _ _ (call (.ref f) us) _ _ _
  refine wpAny_call (codeAny_mono (run X.A X.stack s1 H1 ⟨us, []⟩ us vs Q hgd (hr.mono hk) I1.env0 bt r q) fun res s' hq => ?_)
  cases res with
  | error er => exact (show False from hq).elim
  | ok fl =>
    cases fl with
    | ret u => exact I1.after hq
    | next => exact False.elim hq
    | brk => exact False.elim hq
    | cont => exact False.elim hq
/-- tried(lambda: body) -/
theorem pe_tried {Tb : List (Addr × Str)} {c Pt : Addr} {k : Nat} {params : Arguments} {body : Expr} {scope : Scope} {t : XK → TE} {lpos : Pos} (T : Txt2 X.prog X.K X.mg) (hgd : X.A.guards = some []) (hr : Room (k + 2) X.A) (hg : Gl X "_law_tried")
    (TB : LamX.TabB X.base X.mg c Pt) (hcode : X.env.code = .ref c) (hmT : (Pt, X.env.qual ++ "<lambda>") ∈ Tb) (hu : ∀ p ∈ Tb, p.1 = Pt → p.2 = X.env.qual ++ "<lambda>") (L : LamX.LamS X.env.scope scope) (hdef : defaultsOf params X.env = ([], []))
    (hbind : ∀ (q : Str) (cl : List (Str × Addr)) (pm cv ctv : Value), bindArgs (PySem.W.kla_fn "<lambda>" q params body scope cl pm cv ctv) ⟨[], []⟩ = pure [])
    (hbody : ∀ (A : Around) (outer : List Env) (s : Shared) (H : Hp) (E : XK) (f c' : Addr), Room k (A.deeper (LamX.lamEnv X scope s.heap.objs.size f c')) → PE (LamX.lamCx X A outer s H E scope f c') body (t E)) :
    PE X (.Call (.Name "_law_tried" p) [.Lambda params body scope lpos] [] pos) (LamX.tLam Tb (TTried X.K) t) := by
  obtain ⟨fd, F⟩ := T.fn_l_tried
  have hB := F.bindsN (ps := ["_law_job"]) (fun _ _ _ _ _ _ us hl => match us, hl with | [_], _ => rfl)
  obtain ⟨oc, od, dV, kV, doc, pm, an, cdv, ct, osl, efd, lk, hcd, hD, hK⟩ := F.ex
  subst efd
  exact LamX.pe_lamcall hg T.g_l_tried F.kp lk hcd hB scTried rfl (.inl rfl) (tried_gives T hgd (by have := hr.un; omega)) TB hcode hmT hu hr L hdef hbind hbody
/-- a method that may raise, in the lambda -/
theorem pe_mtX {A : Around} {outer : List Env} {s : Shared} {H : Hp} {E : XK} {scope : Scope} {g0 c' : Addr} {C : Addr} {m : Str} {o : Expr} {ta : TE} {apos : Pos} {pl : Sem Bool} (c : MetX X.prog X.w X.K X.mg X.base k C m sp) (hr : Room j (LamX.lamCx X A outer s H E scope g0 c').A) (hk : k ≤ j) (he : PE (LamX.lamCx X A outer s H E scope g0 c') o ta) (ha : PA (LamX.lamCx X A outer s H E scope g0 c') (e :: es) t)
    (hst : starEach (e :: es) (LamX.lamCx X A outer s H E scope g0 c').env = (false, eval e (LamX.lamCx X A outer s H E scope g0 c').env) :: starEach es (LamX.lamCx X A outer s H E scope g0 c').env := by rfl) (hpl : (backTo pos (starEach es (LamX.lamCx X A outer s H E scope g0 c').env)).any (·.1) = false := by rfl)
    (ht : eval (.Call (.Attribute o m apos) (e :: es) [] pos) (LamX.lamCx X A outer s H E scope g0 c').env = (do
      let ov ← eval o (LamX.lamCx X A outer s H E scope g0 c').env
      standAt apos.atName
      let (f, first) ← holding [ov] (getMethod ov m pl)
      callWith pos f first (backTo pos (starEach (e :: es) (LamX.lamCx X A outer s H E scope g0 c').env)) (backToKw pos (keywordEach [] (LamX.lamCx X A outer s H E scope g0 c').env))) := by rfl) :
    PE (LamX.lamCx X A outer s H E scope g0 c') (.Call (.Attribute o m apos) (e :: es) [] pos) (tMeth C m sp [] E ta t) := by
  obtain ⟨g, fd, ps, hc, hm, F, b⟩ := c.ex
  have tk := takes_of (X := LamX.lamCx X A outer s H E scope g0 c') (E := E) rfl rfl rfl rfl
  exact pe_meth (pl := pl) he hc hm F (hr.mono hk) b .nil (passes_call tk fun _ _ _ _ h => h) ha hst hpl ht
theorem pe_mtX0 {A : Around} {outer : List Env} {s : Shared} {H : Hp} {E : XK} {scope : Scope} {g0 c' : Addr} {C : Addr} {m : Str} {o : Expr} {ta : TE} {apos : Pos} {pl : Sem Bool} (c : MetX X.prog X.w X.K X.mg X.base k C m sp) (hr : Room j (LamX.lamCx X A outer s H E scope g0 c').A) (hk : k ≤ j) (he : PE (LamX.lamCx X A outer s H E scope g0 c') o ta)
    (ht : eval (.Call (.Attribute o m apos) [] [] pos) (LamX.lamCx X A outer s H E scope g0 c').env = (do
      let ov ← eval o (LamX.lamCx X A outer s H E scope g0 c').env
      standAt apos.atName
      let (f, first) ← holding [ov] (getMethod ov m pl)
      callWith pos f first (backTo pos (starEach [] (LamX.lamCx X A outer s H E scope g0 c').env)) (backToKw pos (keywordEach [] (LamX.lamCx X A outer s H E scope g0 c').env))) := by rfl) :
    PE (LamX.lamCx X A outer s H E scope g0 c') (.Call (.Attribute o m apos) [] [] pos) (tMeth C m sp [] E ta tNil) := by
  obtain ⟨g, fd, ps, hc, hm, F, b⟩ := c.ex
  have tk := takes_of (X := LamX.lamCx X A outer s H E scope g0 c') (E := E) rfl rfl rfl rfl
  exact pe_meth0 (pl := pl) he hc hm F (hr.mono hk) b .nil (passes_call tk fun _ _ _ _ h => h) ht
end
/-! ### what the law holds -/
/-- a heap without the things at some places, and without tables -/
def core (as : List Addr) (H : Hp) : Hp := fun b => if b ∈ as then none else match H b with
  | some (.tbl _) => none
  | o => o
theorem core_same {as : List Addr} {H : Hp} : Same (core as H) H := fun b o e => by
  unfold core at e
  split at e
  · cases e
  · split at e
    · cases e
    · exact e
theorem core_at {as : List Addr} {H : Hp} {b : Addr} {o : HO} (h : H b = some o) (hb : b ∉ as) (ho : ∀ ps, o ≠ .tbl ps) : core as H b = some o := by
  unfold core
  rw [if_neg hb, h]
  cases o <;> first | rfl | exact absurd rfl (ho _)
theorem core_not {as : List Addr} {H : Hp} {b : Addr} {o : HO} (e : core as H b = some o) : b ∉ as ∧ H b = some o ∧ ∀ ps, o ≠ .tbl ps := by
  refine ⟨fun hb => ?_, core_same _ _ e, fun ps z => ?_⟩
  · unfold core at e
    rw [if_pos hb] at e; cases e
  · have h := core_same _ _ e
    subst z
    unfold core at e
    split at e
    · cases e
    · rw [h] at e; cases e
theorem core_mono {as bs : List Addr} {H H' : Hp} (h : ∀ a, a ∈ bs → a ∈ as) (s : SameBut bs H H') : Same (core as H) (core as H') := fun b o e => by
  obtain ⟨h1, h2, h3⟩ := core_not e
  exact core_at (s _ _ h2 fun z => h1 (h b z)) h1 h3
theorem core_up {as : List Addr} {H H' : Hp} (s : Same H H') : Same (core as H) (core as H') := core_mono (bs := []) (fun _ h => absurd h List.not_mem_nil) fun b o e _ => s b o e
theorem core_ext {as : List Addr} {H H' : Hp} (s : LamX.ExtN H H') : Same (core as H) (core as H') := fun b o e => by
  obtain ⟨h1, h2, h3⟩ := core_not e
  exact core_at (s _ _ h2 h3) h1 h3
theorem core_sub {as bs : List Addr} {H : Hp} (h : ∀ a, a ∈ as → a ∈ bs) : Same (core bs H) (core as H) := fun b o e => by
  obtain ⟨h1, h2, h3⟩ := core_not e
  exact core_at h2 (fun z => h1 (h b z)) h3
section
variable {K : PySem.W.Frag}
theorem keep_core {H : Hp} {a kp t : Addr} {at_ : Nat} {ms : List (List (List Nat))} (h : IsKeep K (but a H) kp t at_ ms) : IsKeep K (core [a] H) kp t at_ ms := by
  have s : ∀ b o, but a H b = some o → (∀ ps, o ≠ .tbl ps) → core [a] H b = some o := fun b o e ho => core_at (but_same _ _ e) (by
    unfold but at e
    split at e
    · cases e
    · rename_i h; simpa using h) ho
  obtain ⟨dx, am, mas, x, y, z⟩ := h
  exact ⟨dx, am, mas, s _ _ x (fun _ => by simp), s _ _ y (fun _ => by simp), paired_mono (fun _ _ ⟨ls, u, v⟩ => ⟨ls, s _ _ u (fun _ => by simp), paired_mono (fun _ _ e => s _ _ e (fun _ => by simp)) v⟩) z⟩
theorem keep_but {H : Hp} {a kp t : Addr} {at_ : Nat} {ms : List (List (List Nat))} (h : IsKeep K (core [a] H) kp t at_ ms) : IsKeep K (but a H) kp t at_ ms := h.same fun b o e => by
  obtain ⟨h1, h2, _⟩ := core_not e
  exact but_at h2 (by simpa using h1)
theorem tabs_but {Tb : List (Addr × Str)} {H H' : Hp} {a : Addr} {o : HO} (h : LamX.Tabs Tb H) (ha : H a = some o) (h1 : ∀ ps, o ≠ .tbl ps) (h2 : ∀ c q, o ≠ LamX.CodeO c q) (s : SameBut [a] H H') : LamX.Tabs Tb H' := fun p hp => by
  obtain ⟨ps, e1, e2, e3⟩ := h p hp
  refine ⟨ps, s _ _ e1 (by simpa using fun z => by rw [z, ha] at e1; exact h1 _ (Option.some.inj e1)), e2, fun pos cv hc => ?_⟩
  obtain ⟨c, rfl, hc2⟩ := e3 pos cv hc
  exact ⟨c, rfl, s _ _ hc2 (by simpa using fun z => by rw [z, ha] at hc2; exact h2 _ _ (Option.some.inj hc2))⟩
/-- what stands between the deeds -/
structure Stt (K : PySem.W.Frag) (Tb : List (Addr × Str)) (f : Int) (wd n : Nat) (R : List (List Int)) (a kp t pa : Addr) (B at_ : Nat) (ms : List (List (List Nat))) (H : Hp) : Prop where
  src : IsSrc H a B
  keep : IsKeep K (core [a] H) kp t at_ ms
  rows : IsRows K (core [a, kp] H) t f wd (R.map (KP.mdl f))
  parts : IsParts (core [a, kp] H) pa f R
  tabs : LamX.Tabs Tb H
variable {Tb : List (Addr × Str)} {f : Int} {wd n : Nat} {R : List (List Int)} {a kp t pa : Addr} {B at_ : Nat} {ms : List (List (List Nat))} {H H' : Hp}
theorem Stt.same (S : Stt K Tb f wd n R a kp t pa B at_ ms H) (s : Same H H') : Stt K Tb f wd n R a kp t pa B at_ ms H' :=
  ⟨S.src.same s, S.keep.same (core_up s), S.rows.same (core_up s), S.parts.same (core_up s), S.tabs.ext s⟩
theorem Stt.ext (S : Stt K Tb f wd n R a kp t pa B at_ ms H) (s : LamX.ExtN H H') (ht : LamX.Tabs Tb H') : Stt K Tb f wd n R a kp t pa B at_ ms H' := by
  obtain ⟨g, s', c, x, y⟩ := S.src
  exact ⟨⟨g, s', c, s _ _ x (fun _ => by simp), y⟩, S.keep.same (core_ext s), S.rows.same (core_ext s), S.parts.same (core_ext s), ht⟩
theorem Stt.draw {B' : Nat} (S : Stt K Tb f wd n R a kp t pa B at_ ms H) (s : SameBut [a] H H') (h : IsSrc H' a B') : Stt K Tb f wd n R a kp t pa B' at_ ms H' := by
  obtain ⟨g, s', c, x, y⟩ := S.src
  exact ⟨h, S.keep.same (core_mono (fun _ h => h) s), S.rows.same (core_mono (fun _ h => by simp at h; simp [h]) s), S.parts.same (core_mono (fun _ h => by simp at h; simp [h]) s), tabs_but S.tabs x (fun _ => by simp) (fun c q z => by unfold LamX.CodeO at z; cases z) s⟩
theorem Stt.kne (S : Stt K Tb f wd n R a kp t pa B at_ ms H) : a ≠ kp := by
  obtain ⟨dx, am, mas, x, _⟩ := S.keep
  have := (core_not x).1
  exact fun z => this (by simp [z])
theorem Stt.keepAt (S : Stt K Tb f wd n R a kp t pa B at_ ms H) : IsKeep K H kp t at_ ms := S.keep.same core_same
theorem Stt.deed {at2 : Nat} {ms2 : List (List (List Nat))} (S : Stt K Tb f wd n R a kp t pa B at_ ms H) (s : SameBut [kp] H H') (h : KeepTo K H H' kp t at_ ms at2 ms2) : Stt K Tb f wd n R a kp t pa B at2 ms2 H' := by
  obtain ⟨g, s', c, x, y⟩ := S.src
  obtain ⟨dx, am, mas, z, _⟩ := S.keepAt
  exact ⟨⟨g, s', c, s _ _ x (by simpa using S.kne), y⟩, keep_core (h.2 a S.kne (by rw [x]; simp) (keep_but S.keep)), S.rows.same (core_mono (fun _ h => by simp at h; simp [h]) s), S.parts.same (core_mono (fun _ h => by simp at h; simp [h]) s), tabs_but S.tabs z (fun _ => by simp) (fun c q z => by unfold LamX.CodeO at z; cases z) s⟩
theorem Stt.rowsAt (S : Stt K Tb f wd n R a kp t pa B at_ ms H) : IsRows K H t f wd (R.map (KP.mdl f)) := S.rows.same core_same
theorem Stt.partsAt (S : Stt K Tb f wd n R a kp t pa B at_ ms H) : IsParts H pa f R := S.parts.same core_same
end
end KW
end
section
set_option Elab.async false
set_option linter.all false
set_option maxRecDepth 100000
set_option maxHeartbeats 8000000
set_option pp.maxSteps 300
/-! The law: helpers for a deed. -/
namespace KW
open PySem PySem.Spec PyProof.Rows L2
open PySem.W (Datum)
section
variable {K : PySem.W.Frag}
theorem eqV_str (x : Str) : eqV (.str x) (.str x) = true := by simp [eqV]
theorem eqV_int (x : Int) : eqV (.int x) (.int x) = true := by simp [eqV]
theorem tup2 {H : Hp} {p q : Addr} {x y : V} (h : H p = some (.tup [x, y])) (h' : H q = some (.tup [x, y])) (fx : flatV x = true) (fy : flatV y = true) (ex : eqV x x = true) (ey : eqV y y = true) : DTup K DFlat (.ref p) (.ref q) H :=
  ⟨p, q, _, _, rfl, rfl, SqT.of h, SqT.of h', .cons ⟨fx, fx, ex⟩ (.cons ⟨fy, fy, ey⟩ .nil)⟩
theorem PartsOk.tabC {f : Int} {wd n : Nat} {R : List (List Int)} (ok : PartsOk f wd n R) : TabC f wd n (R.map (KP.mdl f)) := ⟨ok.dom.1, ok.fld, ok.raw.tab ok.dom.2.1 ok.dom.2.2, ok.wd3, ok.n20⟩
theorem rgV_nV (n : Nat) : rgV 0 (n : Int) = nV (List.range n) := by
  unfold rgV nV
  have : ((n : Int) - 0).toNat = n := by omega
  rw [this]
  exact List.map_congr_left fun i _ => by rw [Int.zero_add]
/-- what is handed in is not among some rows -/
theorem row_out {H : Hp} {v : V} (h : RowV H v) (hb : isB v = false) (lot : List Nat) (hno : ∀ x : Nat, v = .int (x : Int) → x ∉ lot) : ∃ d, SeqAt.shaped d = true ∧ (∀ H', Same H H' → Dp K H' v d) ∧ ((lot.map Datum.toD).any fun z => PyData.eqv z d) = false := by
  have all_ : ∀ d : PyData, (∀ k : Nat, PyData.eqv (.int (k : Int)) d = false) → ((lot.map Datum.toD).any fun z => PyData.eqv z d) = false := fun d hd => by
    rw [List.any_eq_false]
    intro z hz
    obtain ⟨k, _, rfl⟩ := List.mem_map.mp hz
    show ¬ PyData.eqv (.int (k : Int)) d = true
    rw [hd k]; simp
  rcases h with rfl | ⟨b, rfl⟩ | ⟨i, rfl⟩ | rfl | ⟨a, rfl, h2⟩
  · exact ⟨.none, rfl, fun _ _ => .non, all_ _ fun k => by simp only [PyData.eqv]⟩
  · cases hb
  · refine ⟨.int i, rfl, fun _ _ => .int i, ?_⟩
    by_cases hi : 0 ≤ i
    · have e : i = ((i.toNat : Nat) : Int) := by omega
      rw [e]
      have := any_toD lot i.toNat
      have hn := hno i.toNat (by rw [← e])
      exact this.trans (by simpa using hn)
    · refine all_ _ fun k => ?_
      simp only [PyData.eqv]
      simp; omega
  · exact ⟨.str "0", by decide +kernel, fun _ _ => .str _, all_ _ fun k => by simp only [PyData.eqv]⟩
  · exact ⟨.list [.int 0], by decide +kernel, fun H' s => .lst (SqL.of (s _ _ h2)) (.cons (.int 0) .nil), all_ _ fun k => by simp only [PyData.eqv]⟩
theorem row_in (x : Nat) (lot : List Nat) (h : x ∈ lot) : SeqAt.shaped (.int (x : Int)) = true ∧ ((lot.map Datum.toD).any fun z => PyData.eqv z (.int (x : Int))) = true :=
  ⟨rfl, (any_toD lot x).trans (by simpa using h)⟩
theorem RowV.repr {H : Hp} {v : V} (h : RowV H v) (hs : ∀ i, v = .int i → i.natAbs ≤ 1000) : ∃ z, ReprV H v z := by
  rcases h with rfl | ⟨b, rfl⟩ | ⟨i, rfl⟩ | rfl | ⟨a, rfl, h2⟩
  · exact ⟨_, .non⟩
  · exact ⟨_, .bl b⟩
  · refine ⟨_, .int i ?_⟩
    have h1 := hs i rfl
    have h2 : i.natAbs < 2 ^ 10 := by omega
    by_cases h0 : i.natAbs = 0
    · rw [h0]; decide
    · have := (Nat.log2_lt h0).mpr h2
      omega
  · exact ⟨_, .str _ (by decide +kernel)⟩
  · exact ⟨_, .lst h2⟩
theorem core_fresh {as : List Addr} {H H1 H2 H3 : Hp} {q : Addr} (s1 : Same (core as H) (core as H1)) (hq : H1 q = none) (s2 : Same (core as H) (core as H2)) (sb : SameBut [q] H2 H3) : Same (core as H) (core as H3) := fun b o e => by
  obtain ⟨h1, h2, h3⟩ := core_not (s2 _ _ e)
  have hbq : b ≠ q := ne_of_none (core_same _ _ (s1 _ _ e)) hq
  exact core_at (sb _ _ h2 (by simpa using hbq)) h1 h3
variable {Tb : List (Addr × Str)} {f : Int} {wd n : Nat} {R : List (List Int)} {a kp t pa : Addr} {B at_ : Nat} {ms : List (List (List Nat))} {H H' : Hp}
theorem Stt.mono {C : Nat} (S : Stt K Tb f wd n R a kp t pa B at_ ms H) (h : B ≤ C) : Stt K Tb f wd n R a kp t pa C at_ ms H := ⟨S.src.mono h, S.keep, S.rows, S.parts, S.tabs⟩
/-- a dict is changed -/
theorem Stt.dict {q : Addr} {kvs : List (Key × V)} (S : Stt K Tb f wd n R a kp t pa B at_ ms H) (hq : H q = some (.dK kvs)) (sb : SameBut [q] H H') : Stt K Tb f wd n R a kp t pa B at_ ms H' := by
  have s : ∀ (as : List Addr) (b : Addr) (o : HO), core as H b = some o → (∀ z, o ≠ .dK z) → core as H' b = some o := fun as b o e ho => by
    obtain ⟨h1, h2, h3⟩ := core_not e
    exact core_at (sb _ _ h2 (by simpa using fun z => by rw [z, hq] at h2; exact ho _ (Option.some.inj h2).symm)) h1 h3
  refine ⟨?_, ?_, ?_, ?_, tabs_but S.tabs hq (fun _ => by simp) (fun c q z => by unfold LamX.CodeO at z; cases z) sb⟩
  · obtain ⟨g, s', c, x, y⟩ := S.src
    exact ⟨g, s', c, sb _ _ x (by simpa using fun z => by rw [z, hq] at x; cases x), y⟩
  · obtain ⟨dx, am, mas, x, y, z⟩ := S.keep
    exact ⟨dx, am, mas, s _ _ _ x (fun _ => by simp), s _ _ _ y (fun _ => by simp), paired_mono (fun _ _ ⟨ls, u, v⟩ => ⟨ls, s _ _ _ u (fun _ => by simp), paired_mono (fun _ _ e => s _ _ _ e (fun _ => by simp)) v⟩) z⟩
  · obtain ⟨dx, r, rs, x, y, z⟩ := S.rows
    exact ⟨dx, r, rs, s _ _ _ x (fun _ => by simp), s _ _ _ y (fun _ => by simp), paired_mono (fun _ _ e => s _ _ _ e (fun _ => by simp)) z⟩
  · obtain ⟨ar, x, rs, y, z⟩ := S.parts
    exact ⟨ar, s _ _ _ x (fun _ => by simp), rs, s _ _ _ y (fun _ => by simp), paired_mono (fun _ _ e => s _ _ _ e (fun _ => by simp)) z⟩
/-- the keeper's lots are told, as they stand -/
theorem Stt.lots (S : Stt K Tb f wd n R a kp t pa B at_ ms H) (hat : at_ < ms.length) (h100 : (ms.getD at_ []).length ≤ 100) {Q : VK} {L : List (List Nat)} (hL : ms.getD at_ [] = L) (k : ∀ H' q, Same H H' → IsLL H' q L → Q (.ref q) H') {σ : L2.St} {i : Nat} (hi : σ[i]? = some (some (.ref kp))) :
    tMeth (He.ga K "Keeper") "lots" (spLots K) [] C8.E0 (tVar i) tNil σ H Q := by
  obtain ⟨dx, am, mas, x, y⟩ := S.keepAt
  refine ⟨_, hi, kp, _, _, rfl, x, rfl, kp, t, at_, ms, rfl, ⟨dx, am, mas, x, y⟩, hat, h100, fun H' q qs nl => k H' q nl.sm ?_⟩
  rw [hL] at nl
  exact ⟨qs, nl.at_, nl.lots⟩
/-- .. told by new lists -/
theorem Stt.lotsN (S : Stt K Tb f wd n R a kp t pa B at_ ms H) (hat : at_ < ms.length) (h100 : (ms.getD at_ []).length ≤ 100) {Q : VK} {L : List (List Nat)} (hL : ms.getD at_ [] = L) (k : ∀ H' q, Same H H' → IsLL (core [a, kp] H') q L → Q (.ref q) H') {σ : L2.St} {i : Nat} (hi : σ[i]? = some (some (.ref kp))) :
    tMeth (He.ga K "Keeper") "lots" (spLots K) [] C8.E0 (tVar i) tNil σ H Q := by
  obtain ⟨dx, am, mas, x, y⟩ := S.keepAt
  refine ⟨_, hi, kp, _, _, rfl, x, rfl, kp, t, at_, ms, rfl, ⟨dx, am, mas, x, y⟩, hat, h100, fun H' q qs nl => k H' q nl.sm ?_⟩
  rw [hL] at nl
  have nw : ∀ b o, H' b = some o → H b = none → (∀ ps, o ≠ .tbl ps) → core [a, kp] H' b = some o := fun b o e h0 ho => core_at e (by
    obtain ⟨g, s', c, u, v⟩ := S.src
    simp only [List.mem_cons, List.not_mem_nil, or_false]
    rintro (z | z)
    · rw [← z, h0] at u; cases u
    · rw [← z, h0] at x; cases x) ho
  refine ⟨qs, nw _ _ nl.at_ nl.new (fun _ => by simp), ?_⟩
  refine paired_of (paired_len nl.lots) fun j l lot h1 h2 => ?_
  obtain ⟨lot', h2', e⟩ := paired_at nl.lots h1
  rw [h2] at h2'; cases h2'
  exact nw _ _ e (nl.news l (List.mem_of_getElem? h1)) (fun _ => by simp)
/-- what is answered where nothing could be done -/
theorem bad_read (S : Stt K Tb f wd n R a kp t pa B at_ ms H) (hat : at_ < ms.length) (h100 : (ms.getD at_ []).length ≤ 100) {Q : VK} {σ : L2.St} {i j : Nat} {p bf : Addr} {v : V} {nm z : Str} (h1 : σ[1]? = some (some (.ref kp))) (h3 : σ[3]? = some (some (.ref bf))) (hi : σ[i]? = some (some (.ref p))) (hj : σ[j]? = some (some v))
    (hp : H p = some (.tup [.str nm, .str z])) (hz : ReprV H v z) (hbf : IsLL H bf (ms.getD at_ [])) (k : ∀ H' q, Same H H' → H' q = some (.tup [.bl true, .bl false]) → Q (.ref q) H') :
    tTup (tCons (tAndV (tOp (rEqG (DTup K DFlat)) (tVar i) (tTup (tCons (tC (.str nm)) (tCons (tCB rRepr (tCons (tVar j) tNil)) tNil)))) (tOp (rEqD K) (tMeth (He.ga K "Keeper") "lots" (spLots K) [] C8.E0 (tVar 1) tNil) (tVar 3))) (tCons (tC (.bl false)) tNil)) σ H Q := by
  refine ⟨_, hi, _, hj, v, z, rfl, hz, sz (by simp), fun p2 hp2 => ?_⟩
  have s1 := Same.upd (o := .tup [.str nm, .str z]) hp2
  refine ⟨tup2 (s1 _ _ hp) upd_same rfl rfl (eqV_str _) (eqV_str _), fun H0 (e0 : Same _ H0) => ⟨_, rfl, ?_⟩⟩
  have s0 := s1.trans e0
  refine iteT ((S.same s0).lots hat h100 rfl (fun H2 q s2 hq => ?_) h1)
  refine ⟨_, h3, _, _, ll_at hq, ll_at ((hbf.same s0).same s2), toD_shaped _, toD_shaped _, ?_⟩
  rw [PySem.W.Datum.eqv, decide_eq_true rfl]
  exact ⟨sz (by simp), fun p3 hp3 => k _ p3 ((s0.trans s2).upd' hp3) upd_same⟩
end
end KW
end
section
set_option Elab.async false
set_option linter.all false
set_option maxRecDepth 100000
set_option maxHeartbeats 16000000
set_option pp.maxSteps 300
/-! The law: a deed. -/
namespace KW
open PySem PySem.Spec PyProof.Rows L2
section
variable {P : Program} {w : World} {K : PySem.W.Frag} {mg : Str → Option Value} {base : Heap}
theorem skip_if {c : Bool} {A X : Prop} (h : c = true → X → A) (x : X) : if c = true then A else X := by
  cases c with
  | true => exact h rfl x
  | false => exact x
def s_body : Stmt → List Stmt
  | .If _ b _ _ => b
  | _ => []
abbrev nmDeed : List Str := ["_law_source_here", "_law_keeper", "_law_parts", "_law_before", "_law_way", "_law_many", "_law_there", "_law_row", "_law_k", "_law_found", "_law_other", "_law_lot", "_law_due", "_law_place"]
theorem scDeed : FnScope nmDeed ["_law_source_here", "_law_keeper", "_law_parts", "_law_before", "_law_way"] (defScope s_l_deed) := ⟨rfl, rfl, rfl, by decide +kernel, rfl, by decide +kernel, by decide +kernel⟩
abbrev qDeed : Str := (envOfC "_law_deed" (defScope s_l_deed) 0 0 .none).qual ++ "<lambda>"
def spDeed (K : PySem.W.Frag) (Tb : List (Addr × Str)) : Sp := fun vs H Q _ => ∃ (a kp t pa bf : Addr) (way B at_ : Nat) (ms : List (List (List Nat))) (f : Int) (wd n : Nat) (R : List (List Int)) (rows : List Nat), vs = [.ref a, .ref kp, .ref pa, .ref bf, .int (way : Int)] ∧
  Stt K Tb f wd n R a kp t pa B at_ ms H ∧ IsLL (core [a, kp] H) bf (ms.getD at_ []) ∧ PartsOk f wd n R ∧ n ≤ 5 ∧ at_ < ms.length ∧ ms.length ≤ 100 ∧ Good f R n (ms.getD at_ []) rows ∧ (ms.getD at_ []).length ≤ 3 ∧ B ≤ 20000 ∧ way < 8 ∧
  ∀ (H' : Hp) (p : Addr) (done : Bool) (at2 : Nat) (ms2 : List (List (List Nat))), H' p = some (.tup [.bl true, .bl done]) → Same (core [a, kp] H) (core [a, kp] H') → Stt K Tb f wd n R a kp t pa (B + 1) at2 ms2 H' →
    (done = false → at2 = at_ ∧ ms2 = ms) → (done = true → at2 = at_ + 1 ∧ ∃ M rows2, ms2 = ms.take (at_ + 1) ++ [M] ∧ Good f R n M rows2 ∧ M.length ≤ 3) → Q (.ref p) H'
theorem c_deed (T : Txt2 P K mg) {Tb : List (Addr × Str)} (TB : LamX.TabB base mg (He.cT K ("_law_deed", none)).1 (He.cT K ("_law_deed", none)).2) (hmT : ((He.cT K ("_law_deed", none)).2, qDeed) ∈ Tb) (hTu : ∀ p ∈ Tb, p.1 = (He.cT K ("_law_deed", none)).2 → p.2 = qDeed) :
    CalG P w K mg base 13 "_law_deed" (spDeed K Tb) := by
  obtain ⟨fd, F⟩ := T.fn_l_deed
  refine mkCalG F T.g_l_deed (fun _ _ _ _ _ _ us hl => match us, hl with | [_, _, _, _, _], _ => rfl) scDeed (fun vs H Q E h => ?_) fun cdv A outer s H vs Q hcdv hgd hr h => ?_
  · obtain ⟨a, kp, t, pa, bf, way, B, at_, ms, f, wd, n, R, rows, rfl, _⟩ := h
    rfl
  · obtain ⟨a, kp, t, pa, bf, way, B, at_, ms, f, wd, n, R, rows, rfl, S, hbf, ok, hn5, hat, hm100, hgood, h3, hB, hway, k⟩ := h
    have hu := hr.units
    have hu65 := units65 hr
    refine ⟨_, (pss_cons (ps_set (i := 5) scDeed.nd rfl (Or.inl rfl) (pe_callB call_len_seq (by rfl) T.f_len boot_len (pa_cons (pe_ix ix_list (pv 2) pe_int (fun _ _ => rfl)) pa_nil))) (pss_cons (ps_set (i := 6) scDeed.nd rfl (Or.inr rfl) (pe_callB (call_sortedDI rfl) (by rfl) T.f_sorted boot_sorted (pa_cons (C8.pe_c (c_seats T) hr (by decide) (by rfl) (pa_cons (pv 3) pa_nil)) pa_nil))) (pss_cons (ps_if (pt_cmpR op_lt (pv 4) pe_int (nomark _))
          (pss_cons (ps_set (i := 7) scDeed.nd rfl (Or.inr rfl) (C8.pe_c (c_pick T) hr (by decide) (by rfl) (pa_cons (pv 0) (pa_cons (pe_op op_cat (pe_op op_cat (pe_op op_rep (pe_lc (own := [("_law_k", 8)]) (g := gName 8) (tt := tTest (tOp (rIn K true) (tVar 8) (tVar 6))) rfl scDeed.nd (pi_range1 (by rfl) T.f_range (pa_cons (pv 5) pa_nil)) (blkOk_by (N := nmDeed) (sc := defScope s_l_deed) (by decide +kernel)) (fun _ _ _ _ _ => pg_name (i := 8) scDeed.nd rfl (Or.inl rfl)) (fun _ _ _ _ _ => pts_one (pt_cmpR op_notIn_seq (pv 8) (pv 6) (by rfl))) (fun _ _ _ _ _ => pv 8)) pe_int) (pv 6)) (pe_lst (pa_cons (pv 5) (pa_cons (pe_un un_neg pe_int) (pa_cons (pe_non) (pa_cons (pe_bl) (pa_cons (pe_str) pa_nil))))))) pa_nil)))) (pss_cons (ps_set (i := 9) scDeed.nd rfl (Or.inl rfl) (pe_tried (Tb := Tb) (k := 10) T hgd hr (by rfl) TB hcdv hmT hTu (LamX.lamS_by (by show LamX.lamSB (defScope s_l_deed) _ = true; decide +kernel)) rfl (fun _ _ _ _ _ => rfl) (fun A' outer' s' H' E' f' c' hr' => pe_mtX (m_come T) hr' (by decide) (pv 1) (pa_cons (pv 7) pa_nil)))) (pss_cons (ps_if (PW.pt (pw_or (pt_val (pe_callB call_isi (by rfl) T.f_isinstance boot_isinstance (pa_cons (pv 7) (pa_cons (pe_bltn (v := .ty "bool") (by rfl) T.f_bool (boot_T "bool") rfl) pa_nil)))) (pw_or1 (pt_cmpR (op_notInD hu65) (pv 7) (pe_lc (own := [("_law_k", 8)]) (g := gName 8) (tt := tTest (tOp (rIn K true) (tVar 8) (tVar 6))) rfl scDeed.nd (pi_range1 (by rfl) T.f_range (pa_cons (pv 5) pa_nil)) (blkOk_by (N := nmDeed) (sc := defScope s_l_deed) (by decide +kernel)) (fun _ _ _ _ _ => pg_name (i := 8) scDeed.nd rfl (Or.inl rfl)) (fun _ _ _ _ _ => pts_one (pt_cmpR op_notIn_seq (pv 8) (pv 6) (by rfl))) (fun _ _ _ _ _ => pv 8)) (by rfl)))))
                (pss_one (ps_ret (pe_tup (pa_cons (pe_and (pe_cmpR (op_eqG (rcG_tup mon_flat eqG_flat) (hr.mono (by decide))) (pv 9) (pe_tup (pa_cons (pe_str) (pa_cons (pe_callB (call_repr hgd hu65) (by rfl) T.f_repr boot_repr (pa_cons (pv 7) pa_nil)) pa_nil))) (nomark _)) (pe_one (pe_cmpR (op_eqD hu) (C8.pe_mt0 (m_lots T) hr (by decide) (pv 1)) (pv 3) (nomark _)))) (pa_cons (pe_bl) pa_nil))))) pss_nil) (pss_one (ps_ret (pe_tup (pa_cons (C8.pe_c (c_comeRight T) hr (by decide) (by rfl) (pa_cons (pv 2) (pa_cons (pv 3) (pa_cons (pv 7) (pa_cons (pv 9) (pa_cons (C8.pe_mt0 (m_lots T) hr (by decide) (pv 1)) pa_nil)))))) (pa_cons (pe_cmpR op_eq (pe_ix ix_tup (pv 9) pe_int (fun _ _ => rfl)) pe_str (nomark _)) pa_nil)))))))) pss_nil) (pss_cons (ps_if (pt_cmpR op_eq (pv 4) pe_int (nomark _))
          (pss_cons (ps_set (i := 7) scDeed.nd rfl (Or.inr rfl) (C8.pe_c (c_pick T) hr (by decide) (by rfl) (pa_cons (pv 0) (pa_cons (pe_op op_cat (pe_op op_rep (pv 6) pe_int) (pe_lst (pa_cons (pv 5) (pa_cons (pe_un un_neg pe_int) (pa_cons (pe_non) (pa_cons (pe_bl) (pa_cons (pe_str) (pa_cons (pe_lst (pa_cons (pe_int) pa_nil)) pa_nil)))))))) pa_nil)))) (pss_cons (ps_set (i := 9) scDeed.nd rfl (Or.inl rfl) (pe_tried (Tb := Tb) (k := 10) T hgd hr (by rfl) TB hcdv hmT hTu (LamX.lamS_by (by show LamX.lamSB (defScope s_l_deed) _ = true; decide +kernel)) rfl (fun _ _ _ _ _ => rfl) (fun A' outer' s' H' E' f' c' hr' => pe_mtX (m_go T) hr' (by decide) (pv 1) (pa_cons (pv 7) pa_nil)))) (pss_cons (ps_if (PW.pt (pw_or (pt_val (pe_callB call_isi (by rfl) T.f_isinstance boot_isinstance (pa_cons (pv 7) (pa_cons (pe_bltn (v := .ty "bool") (by rfl) T.f_bool (boot_T "bool") rfl) pa_nil)))) (pw_or1 (pt_cmpR (op_notInD hu65) (pv 7) (pv 6) (by rfl)))))
                (pss_one (ps_ret (pe_tup (pa_cons (pe_and (pe_cmpR (op_eqG (rcG_tup mon_flat eqG_flat) (hr.mono (by decide))) (pv 9) (pe_tup (pa_cons (pe_str) (pa_cons (pe_callB (call_repr hgd hu65) (by rfl) T.f_repr boot_repr (pa_cons (pv 7) pa_nil)) pa_nil))) (nomark _)) (pe_one (pe_cmpR (op_eqD hu) (C8.pe_mt0 (m_lots T) hr (by decide) (pv 1)) (pv 3) (nomark _)))) (pa_cons (pe_bl) pa_nil))))) pss_nil) (pss_cons (ps_setLc (i := 12) (te := tLc (iList K (tVar 11)) (gName 10) (tTest (tOp rNe (tVar 10) (tVar 7))) (tVar 10) [10]) (own := [("_law_lot", 11)]) (g := gName 11) (tt := tYes) rfl scDeed.nd rfl rfl rfl (pi_list (pv 3)) (blkOk_by (N := nmDeed) (sc := defScope s_l_deed) (by decide +kernel)) (fun _ _ _ _ _ => pg_name (i := 11) scDeed.nd rfl (Or.inl rfl)) (fun _ _ _ _ _ => pts_nil)
                (fun _ _ _ _ _ => pe_lc (own := [("_law_other", 10)]) (g := gName 10) rfl scDeed.nd (pi_list (pv 11)) (blkOk_by (N := nmDeed) (sc := relabS (e_scope (s_val (s_at (s_body (s_at (defBody s_l_deed) 3)) 3))) (defScope s_l_deed)) (by decide +kernel)) (fun _ _ _ _ _ => pg_name (i := 10) scDeed.nd rfl (Or.inl rfl)) (fun _ _ _ _ _ => pts_one (pt_cmpR op_ne (pv 10) (pv 7) (nomark _))) (fun _ _ _ _ _ => pv 10))) (pss_one (ps_ret (pe_tup (pa_cons (pe_and (pe_cmpR (op_eqG (rcG_tup mon_flat eqG_flat) (hr.mono (by decide))) (pv 9) (pe_tup (pa_cons (pe_str) (pa_cons (pe_dget (hu_of hr) (C8.pe_c (c_seats T) hr (by decide) (by rfl) (pa_cons (pv 3) pa_nil)) (pv 7) (fun _ _ => rfl)) pa_nil))) (nomark _)) (pe_one (pe_cmpR (op_eqD hu) (C8.pe_mt0 (m_lots T) hr (by decide) (pv 1)) (pv 12) (nomark _)))) (pa_cons (pe_bl) pa_nil))))))))) pss_nil) (pss_cons (ps_if (PW.pt (pw_and (pt_cmpR op_eq (pv 4) pe_int (nomark _)) (pw_and1 (pt_cmpR op_lt (pe_callB call_len_seq (by rfl) T.f_len boot_len (pa_cons (pv 3) pa_nil)) pe_int (nomark _)))))
          (pss_one (ps_ret (pe_tup (pa_cons (pe_and (pe_cmpR (op_eqG (rcG_tup mon_flat eqG_flat) (hr.mono (by decide))) (pe_tried (Tb := Tb) (k := 10) T hgd hr (by rfl) TB hcdv hmT hTu (LamX.lamS_by (by show LamX.lamSB (defScope s_l_deed) _ = true; decide +kernel)) rfl (fun _ _ _ _ _ => rfl) (fun A' outer' s' H' E' f' c' hr' => C8.pe_mt0 (m_more T) hr' (by decide) (pv 1))) (pe_tup (pa_cons (pe_str) (pa_cons (pe_callB call_len_seq (by rfl) T.f_len boot_len (pa_cons (pv 3) pa_nil)) pa_nil))) (nomark _))
              (pe_one (pe_cmpR (op_eqD hu) (C8.pe_mt0 (m_lots T) hr (by decide) (pv 1)) (pe_op op_cat (pv 3) (pe_lst (pa_cons (pe_lst pa_nil) pa_nil))) (nomark _)))) (pa_cons (pe_bl) pa_nil))))) pss_nil) (pss_cons (ps_set (i := 13) scDeed.nd rfl (Or.inr rfl) (C8.pe_c (c_pick T) hr (by decide) (by rfl) (pa_cons (pv 0) (pa_cons (pe_op op_cat (pe_op op_rep (pe_listRg rfl (by rfl) T.f_list (prg_1 (by rfl) T.f_range (pe_callB call_len_seq (by rfl) T.f_len boot_len (pa_cons (pv 3) pa_nil)))) pe_int) (pe_lst (pa_cons (pe_callB call_len_seq (by rfl) T.f_len boot_len (pa_cons (pv 3) pa_nil)) (pa_cons (pe_un un_neg pe_int) (pa_cons (pe_non) (pa_cons (pe_bl) (pa_cons (pe_str) pa_nil))))))) pa_nil)))) (pss_cons (ps_set (i := 9) scDeed.nd rfl (Or.inl rfl) (pe_tried (Tb := Tb) (k := 10) T hgd hr (by rfl) TB hcdv hmT hTu (LamX.lamS_by (by show LamX.lamSB (defScope s_l_deed) _ = true; decide +kernel)) rfl (fun _ _ _ _ _ => rfl) (fun A' outer' s' H' E' f' c' hr' => pe_mtX (m_less T) hr' (by decide) (pv 1) (pa_cons (pv 13) pa_nil)))) (pss_cons (ps_if (PW.pt (pw_or (pt_val (pe_callB call_isi (by rfl) T.f_isinstance boot_isinstance (pa_cons (pv 13) (pa_cons (pe_bltn (v := .ty "bool") (by rfl) T.f_bool (boot_T "bool") rfl) pa_nil)))) (pw_or1 (pt_cmpR (op_notInD hu65) (pv 13) (pe_listRg rfl (by rfl) T.f_list (prg_1 (by rfl) T.f_range (pe_callB call_len_seq (by rfl) T.f_len boot_len (pa_cons (pv 3) pa_nil)))) (by rfl)))))
          (pss_one (ps_ret (pe_tup (pa_cons (pe_and (pe_cmpR (op_eqG (rcG_tup mon_flat eqG_flat) (hr.mono (by decide))) (pv 9) (pe_tup (pa_cons (pe_str) (pa_cons (pe_callB (call_repr hgd hu65) (by rfl) T.f_repr boot_repr (pa_cons (pv 13) pa_nil)) pa_nil))) (nomark _)) (pe_one (pe_cmpR (op_eqD hu) (C8.pe_mt0 (m_lots T) hr (by decide) (pv 1)) (pv 3) (nomark _)))) (pa_cons (pe_bl) pa_nil))))) pss_nil) (pss_one (ps_ret (pe_tup (pa_cons (C8.pe_c (c_lessRight T) hr (by decide) (by rfl) (pa_cons (pv 2) (pa_cons (pv 3) (pa_cons (pv 13) (pa_cons (pv 9) (pa_cons (C8.pe_mt0 (m_lots T) hr (by decide) (pv 1)) pa_nil)))))) (pa_cons (pe_cmpR op_eq (pe_ix ix_tup (pv 9) pe_int (fun _ _ => rfl)) pe_str (nomark _)) pa_nil))))))))))))), ?_⟩
    obtain ⟨ar, hpa, rs, har, hrs⟩ := id S.partsAt
    have hrsl : rs.length = n := by rw [paired_len hrs, ok.len]
    have hbfH := hbf.same core_same
    generalize hLe : ms.getD at_ [] = L at hbf hbfH hgood h3
    have h100 : (ms.getD at_ []).length ≤ 100 := by rw [hLe]; omega
    obtain ⟨bls, hb, hbls⟩ := id hbfH
    have hbl : bls.length = L.length := paired_len hbls
    have hndL := KP.seats_nodup hgood.way.nodup hgood.way.dis
    have hsl : (KP.seats L).length ≤ rows.length := way_le hgood.way hgood.nd
    have hrl5 : rows.length ≤ 5 := Nat.le_trans (KP.nodup_le n rows hgood.nd hgood.lt) hn5
    have hTl : (KP.srt rows).length = rows.length := (KP.srt_perm _).length_eq
    have no : ∀ (H' : Hp) (p : Addr), H' p = some (.tup [.bl true, .bl false]) → Same (core [a, kp] H) (core [a, kp] H') → Stt K Tb f wd n R a kp t pa (B + 1) at_ ms H' → Q (.ref p) H' := fun H' p hp c S' => k H' p false at_ ms hp c S' (fun _ => ⟨rfl, rfl⟩) (fun z => nomatch z)
    have yes : ∀ (H' : Hp) (p : Addr) (M : List (List Nat)) (rows2 : List Nat), H' p = some (.tup [.bl true, .bl true]) → Same (core [a, kp] H) (core [a, kp] H') → Stt K Tb f wd n R a kp t pa (B + 1) (at_ + 1) (ms.take (at_ + 1) ++ [M]) H' → Good f R n M rows2 → M.length ≤ 3 → Q (.ref p) H' :=
      fun H' p M rows2 hp c S' hG hM => k H' p true (at_ + 1) _ hp c S' (fun z => nomatch z) fun _ => ⟨rfl, M, rows2, rfl, hG, hM⟩
    have getM : ∀ M : List (List Nat), (ms.take (at_ + 1) ++ [M]).getD (at_ + 1) [] = M ∧ at_ + 1 < (ms.take (at_ + 1) ++ [M]).length := fun M => by
      have hl : (ms.take (at_ + 1)).length = at_ + 1 := by rw [List.length_take]; omega
      refine ⟨?_, by rw [List.length_append, hl]; simp⟩
      rw [List.getD_eq_getElem?_getD, List.getElem?_append_right (by omega), hl, Nat.sub_self]; rfl
    refine ⟨_, rfl, pa, _, 0, .ref ar, rfl, rfl, SqL.of hpa, at0, ar, _, rfl, .inl (SqL.of har), ?_⟩
    rw [List.length_map, hrsl]
    refine ⟨_, rfl, bf, L, rfl, hbfH, hndL, by omega, fun H1 q1 s1 hq1 h1 => ?_⟩
    refine ⟨q1, _, ((KP.seats L).map (·.1)).map fun (r : Nat) => (r : Int), rfl, .inl h1, movesD_keys2 _, by rw [List.length_map, List.length_map]; omega, fun ys q3 hperm hs hq3 => ?_⟩
    rw [nats_le hperm hs, hgood.keys]
    have e5 : (((KP.srt rows).map fun (r : Nat) => (r : Int)).map V.int) = nV (KP.srt rows) := by rw [nV_iV]
    rw [e5]
    have s03 := s1.trans (Same.upd (o := .lst (nV (KP.srt rows))) hq3)
    have hth : (upd H1 q3 (.lst (nV (KP.srt rows)))) q3 = some (.lst (nV (KP.srt rows))) := upd_same
    generalize hH3 : upd H1 q3 (.lst (nV (KP.srt rows))) = H3 at s03 hth
    have S3 := S.same s03
    have c3 : Same (core [a, kp] H) (core [a, kp] H3) := core_up s03
    have ha3 : ∀ {H5 : Hp}, Same H3 H5 → ∀ p, H5 p = none → p ≠ a := fun s5 p hp z => by
      obtain ⟨g, s', c, x, y⟩ := (S3.same s5).src
      rw [z, x] at hp; cases hp
    have q3a : q3 ≠ a := fun z => by
      obtain ⟨g, s', c, x, y⟩ := S.src
      rw [← z, (s1.free hq3)] at x; cases x
    have q3k : q3 ≠ kp := fun z => by
      obtain ⟨dx, am, mas, x, y⟩ := S.keepAt
      rw [← z, (s1.free hq3)] at x; cases x
    have hthc : core [a, kp] H3 q3 = some (.lst (nV (KP.srt rows))) := core_at hth (by simp [q3a, q3k]) (fun _ => by simp)
    have hnn : ((n : Nat) : Int).toNat = n := by simp
    -- the rows that are not there
    have lcFree : ∀ {H5 : Hp}, H5 q3 = some (.lst (nV (KP.srt rows))) → ∀ {Qd : Hp → Prop} {σ : L2.St} {D : Addr}, H5 D = none → σ[6]? = some (some (.ref q3)) → 8 < σ.length → (∀ H', Same H5 H' → H' D = some (.lst (nV ((List.range n).filter fun k => decide (k ∉ KP.srt rows)))) → Qd H') →
        ∃ W : Nat → Nat → Hp → Prop, (∃ m, W 0 m (upd H5 D (.lst []))) ∧ ∀ i m H, W i m H → ((Itr 0 n).stop i H ∧ Qd H) ∨ ((Itr 0 n).go i H ∧ ∃ Nx : Hp → Prop, (∀ H', Nx H' → ∃ m', m' < m ∧ W (i + 1) m' H') ∧ ∀ x H', (Itr 0 n).yld i H x H' → gName 8 x (wipe σ [8]) H' fun σ2 H2 => wipe σ2 [8] = wipe σ [8] ∧ (tTest (tOp (rIn K true) (tVar 8) (tVar 6))) σ2 H2 fun b H3 =>
          if b = true then (tVar 8) σ2 H3 fun y H4 => ∃ acc, H4 D = some (.lst acc) ∧ acc.length < sizeLine ∧ Nx (upd H4 D (.lst (acc ++ [y]))) else Nx H3) := fun {H5} h5 {Qd σ D} hD h6 h8 hd => by
      refine lc_it (H0 := fun _ => none) (jo_range 0 n) (fun _ _ e => by cases e) (Same.refl _) hD (fun i => nV ((List.range i).filter fun k => decide (k ∉ KP.srt rows))) rfl (fun i hi => ?_) (fun i v H6 Nx Sk hi s6 hv kN kS => ?_) hd
      · rw [nV_len]
        have := List.length_filter_le (fun k => decide (k ∉ KP.srt rows)) (List.range i)
        rw [List.length_range] at this
        omega
      · obtain rfl := hv
        rw [Int.zero_add]
        have hw : (wipe σ [8]).length = σ.length := by simp [wipe]
        have g8 : ((wipe σ [8]).set 8 (some (.int (i : Int))))[8]? = some (some (.int (i : Int))) := set_at (by rw [hw]; exact h8)
        have g6 : ((wipe σ [8]).set 8 (some (.int (i : Int))))[6]? = some (some (.ref q3)) := by
          rw [List.getElem?_set_ne (by decide)]
          have : (wipe σ [8])[6]? = σ[6]? := by simp [wipe]
          rw [this, h6]
        refine ⟨by simp [wipe], _, g8, _, g6, q3, _, rfl, .inl (SqL.of (s6 _ _ h5)), rfl, flat_nats _, _, rfl, ?_⟩
        show if (!(inV (.int (i : Int)) (nV (KP.srt rows)))) = true then _ else _
        rw [inV_nats]
        by_cases hin : i ∈ KP.srt rows
        · refine ite_f (by simpa using hin) (kS _ (Same.refl _) ?_)
          rw [range_more, if_neg (by simpa using hin)]
        · refine ite_t (by simpa using hin) ⟨_, g8, kN _ _ (Same.refl _) ?_⟩
          rw [range_more, if_pos (by simpa using hin)]
          exact nV_snoc _ _
    refine ⟨_, rfl, _, _, rfl, rfl, _, rfl, ?_⟩
    by_cases hw5 : way < 5
    · refine ite_t (decide_eq_true (by omega)) ?_
      obtain ⟨fr, hfr⟩ : ∃ fr, (List.range n).filter (fun k => decide (k ∉ KP.srt rows)) = fr := ⟨_, rfl⟩
      rw [hfr] at lcFree
      have hfrn : ∀ x, x ∈ fr ↔ x < n ∧ x ∉ rows := fun x => by rw [← hfr, List.mem_filter, List.mem_range, decide_eq_true_iff, KP.mem_srt]
      have hfrl : fr.length ≤ 5 := by
        have := List.length_filter_le (fun k => decide (k ∉ KP.srt rows)) (List.range n)
        rw [hfr, List.length_range] at this; omega
      refine ⟨_, rfl, _, rfl, _, rfl, by omega, by omega, fun D hD => ?_⟩
      rw [hnn]
      refine lcFree hth hD rfl (by show 8 < 14; decide) fun H4 s4 d4 => ?_
      have h3' : (3 : Int).toNat = 3 := rfl
      refine ⟨D, 3, _, rfl, rfl, d4, by decide, by decide, sz (by rw [nV_len, h3']; omega), fun p5 hp5 => ?_⟩
      rw [h3']
      have hfl : ((List.replicate 3 (nV fr)).flatten).length ≤ 15 := by simp; omega
      refine ⟨_, rfl, p5, q3, _, _, rfl, rfl, upd_same, Same.upd hp5 _ _ (s4 _ _ hth), sz (by rw [nV_len]; omega), fun p6 hp6 => ?_⟩
      refine ⟨_, rfl, _, rfl, sz (by simp), fun p7 hp7 => ?_⟩
      refine ⟨p6, p7, _, _, rfl, rfl, Same.upd hp7 _ _ upd_same, upd_same, sz (by rw [List.length_append, nV_len]; simp at hfl ⊢; omega), fun p8 hp8 => ?_⟩
      have s38 := (((s4.upd' (o := .lst (List.replicate 3 (nV fr)).flatten) hp5).upd' (o := .lst ((List.replicate 3 (nV fr)).flatten ++ nV (KP.srt rows))) hp6).upd' (o := .lst [V.int (n : Int), .int (-1), .non, .bl true, .str "0"]) hp7).upd' (o := .lst ((List.replicate 3 (nV fr)).flatten ++ nV (KP.srt rows) ++ [V.int (n : Int), .int (-1), .non, .bl true, .str "0"])) hp8
      have hp8a : p8 ≠ a := ha3 (((s4.upd' hp5).upd' hp6).upd' hp7) p8 hp8
      refine ⟨a, p8, B, _, rfl, upd_same, hp8a, by simp, by rw [List.length_append, List.length_append, nV_len]; simp at hfl ⊢; omega, (S3.same s38).src, by omega, fun H9 i9 v9 sb9 hs9 hv9 => ?_⟩
      have hvm := List.mem_of_getElem? hv9
      have hrowc : RowV H9 v9 ∧ ∀ i, v9 = .int i → i.natAbs ≤ 1000 := by
        rcases List.mem_append.mp hvm with hm | hm
        · rcases List.mem_append.mp hm with hm | hm
          · obtain ⟨l, hl, hm⟩ := List.mem_flatten.mp hm
            rw [List.eq_of_mem_replicate hl] at hm
            obtain ⟨z, hz, rfl⟩ := List.mem_map.mp hm
            have := (hfrn z).mp hz
            exact ⟨.inr (.inr (.inl ⟨_, rfl⟩)), fun i e => by have := V.int.inj e; omega⟩
          · obtain ⟨z, hz, rfl⟩ := List.mem_map.mp hm
            have := hgood.lt z (KP.mem_srt.mp hz)
            exact ⟨.inr (.inr (.inl ⟨_, rfl⟩)), fun i e => by have := V.int.inj e; omega⟩
        · simp only [List.mem_cons, List.not_mem_nil, or_false] at hm
          rcases hm with rfl | rfl | rfl | rfl | rfl
          · exact ⟨.inr (.inr (.inl ⟨_, rfl⟩)), fun i e => by have := V.int.inj e; omega⟩
          · exact ⟨.inr (.inr (.inl ⟨_, rfl⟩)), fun i e => by have := V.int.inj e; omega⟩
          · exact ⟨.inl rfl, fun i e => nomatch e⟩
          · exact ⟨.inr (.inl ⟨_, rfl⟩), fun i e => nomatch e⟩
          · exact ⟨.inr (.inr (.inr (.inl rfl))), fun i e => nomatch e⟩
      obtain ⟨hrow9, hsmall⟩ := hrowc
      have S9 := (S3.same s38).draw sb9 hs9
      have cc9 : Same (core [a, kp] H3) (core [a, kp] H9) := (core_up s38).trans (core_mono (fun _ h => by simp at h; simp [h]) sb9)
      clear hvm hv9
      refine ⟨S9.tabs, fun H10 e10 t10 p0 hp0 Q2 hQ2 => ?_⟩
      have S11 := (S9.ext e10 t10).same (Same.upd (o := .tup [.str "none", .str ""]) hp0)
      have cc11 := (cc9.trans (core_ext e10)).trans (core_up (Same.upd (o := .tup [.str "none", .str ""]) hp0))
      have hrow11 : RowV (upd H10 p0 (.tup [.str "none", .str ""])) v9 := by
        rcases hrow9 with h | h | h | h | ⟨z, h1, h2⟩
        · exact .inl h
        · exact .inr (.inl h)
        · exact .inr (.inr (.inl h))
        · exact .inr (.inr (.inr (.inl h)))
        · exact .inr (.inr (.inr (.inr ⟨z, h1, Same.upd hp0 _ _ (e10 _ _ h2 (fun _ => by simp))⟩)))
      generalize hH11 : upd H10 p0 (.tup [.str "none", .str ""]) = H11 at S11 cc11 hrow11
      have c11 := c3.trans cc11
      have th11 : H11 q3 = some (.lst (nV (KP.srt rows))) := core_same _ _ (cc11 _ _ hthc)
      have hbf11 : IsLL H11 bf L := (hbf.same c11).same core_same
      obtain ⟨dx, am, mas, hk11, hkrest⟩ := id S11.keepAt
      refine ⟨_, rfl, kp, _, _, rfl, hk11, rfl, _, rfl, kp, t, v9, at_, ms, f, wd, n, _, rfl, S11.keepAt, S11.rowsAt, ok.tabC, hat, h100, by rw [hLe]; exact hgood.lotsOk, by omega, hrow11, ?_⟩
      rw [hLe]
      by_cases hval : ∃ x : Nat, v9 = .int (x : Int) ∧ x < n ∧ x ∉ rows
      · obtain ⟨x, rfl, hx, hxr⟩ := hval
        have hxfr : x ∈ fr := (hfrn x).mpr ⟨hx, hxr⟩
        refine .inr ⟨x, rfl, hx, fun lot hl hxl => hxr (hgood.memLot hl hxl), ?_⟩
        rcases come_cases ok hgood hx hxr with ⟨Rr, hbfs, hsh⟩ | ⟨Rr, th, i, pl, rest, j, M, hbfs, hpath, hpl, hnd, hbd, hMe, hGM, hMl, htold, hleast⟩
        · refine .inl ⟨Rr, hbfs, fun H12 d12 q12 s12 hd12 hq12 hxd hlot => .inr (.inr (.inl ⟨rfl, d12, .ref q12, rfl, hxd, fun p13 hp13 => ?_⟩))⟩
          have s13 := s12.upd' (o := .tup [.str "many", .ref q12]) hp13
          have hfd13 : (upd H12 p13 (.tup [.str "many", .ref q12])) p13 = some (.tup [.str "many", .ref q12]) := upd_same
          have hlot13 := Same.upd (o := .tup [.str "many", .ref q12]) hp13 _ _ hlot
          generalize hH13 : upd H12 p13 (.tup [.str "many", .ref q12]) = H13 at s13 hfd13 hlot13
          obtain ⟨ty, hty, k1, k2⟩ := thing_ty (K := K) (H := H13) (x := .int (x : Int)) (.inr (.inr (.inl ⟨_, rfl⟩)))
          refine ⟨_, rfl, _, _, _, _, _, rfl, .ty _, hty, k2, _, rfl, ite_f rfl ?_⟩
          refine ⟨_, rfl, _, rfl, _, rfl, by omega, by omega, fun D2 hD2 => ?_⟩
          rw [hnn]
          refine lcFree (s13 _ _ th11) hD2 rfl (by show 8 < 14; decide) fun H14 s14 d14 => ?_
          refine ⟨.int (x : Int), fr.map PySem.W.Datum.toD, .int _, at_nats (SqL.of d14), (row_in x fr hxfr).1, toD_shaped fr, _, rfl, ?_⟩
          rw [(row_in x fr hxfr).2]
          refine ite_f rfl ?_
          have s1114 := s13.trans s14
          refine ⟨_, rfl, _, rfl, _, rfl, _, rfl, (S11.same s1114).lots hat h100 hLe (fun H15 q15 s15 hq15 => ?_) rfl⟩
          have s1115 := s1114.trans s15
          refine ⟨pa, bf, p13, q15, x, f, wd, n, L.length, R, L, L, rows, rfl, (S11.same s1115).partsAt, ok, hbf11.same s1115, hq15, hgood.way, hgood.nd, hgood.lt, hx, hxr, by omega, hn5, .inl ⟨q12, KP.srt (KP.keysR Rr), (s14.trans s15) _ _ hfd13, (s14.trans s15) _ _ hlot13, ?_, hsh.sub, hsh.srt, hsh.many, rfl, fun H16 s16 => ?_⟩⟩
          · have := hsh.none_
            rw [srt_srt] at this
            exact this
          · have s1116 := s1115.trans s16
            refine ⟨_, rfl, p13, _, ((0 : Nat) : Int), .str "many", rfl, rfl, SqT.of (((s14.trans s15).trans s16) _ _ hfd13), atN rfl, rfl, sz (by simp), fun p17 hp17 => ?_⟩
            have ed : decide (V.str "many" = V.str "told") = false := by decide +kernel
            exact no _ p17 (by rw [upd_same, ed]) (c11.trans (core_up (s1116.upd' hp17))) (S11.same (s1116.upd' hp17))
        · refine .inr ⟨Rr, th, i, pl, rest, j, hbfs, hpath, hpl, hnd, hbd, fun H12 q12 sb12 hk12 hq12 hqd => hQ2 _ _ fun p13 hp13 => ?_⟩
          rw [← hMe] at hk12
          rw [htold] at hqd
          have S12 := S11.deed sb12 hk12
          have c12 : Same (core [a, kp] H) (core [a, kp] H12) := c11.trans (core_mono (fun _ h => by simp at h; simp [h]) sb12)
          have cc12 : Same (core [a, kp] H3) (core [a, kp] H12) := cc11.trans (core_mono (fun _ h => by simp at h; simp [h]) sb12)
          have s13 := Same.upd (o := .tup [.str "told", .ref q12]) hp13
          have hfd13 : (upd H12 p13 (.tup [.str "told", .ref q12])) p13 = some (.tup [.str "told", .ref q12]) := upd_same
          have hqd13 := s13 _ _ hqd
          generalize hH13 : upd H12 p13 (.tup [.str "told", .ref q12]) = H13 at s13 hfd13 hqd13
          have th13 : H13 q3 = some (.lst (nV (KP.srt rows))) := s13 _ _ (core_same _ _ (cc12 _ _ hthc))
          obtain ⟨ty, hty, k1, k2⟩ := thing_ty (K := K) (H := H13) (x := .int (x : Int)) (.inr (.inr (.inl ⟨_, rfl⟩)))
          refine ⟨_, rfl, _, _, _, _, _, rfl, .ty _, hty, k2, _, rfl, ite_f rfl ?_⟩
          refine ⟨_, rfl, _, rfl, _, rfl, by omega, by omega, fun D2 hD2 => ?_⟩
          rw [hnn]
          refine lcFree th13 hD2 rfl (by show 8 < 14; decide) fun H14 s14 d14 => ?_
          refine ⟨.int (x : Int), fr.map PySem.W.Datum.toD, .int _, at_nats (SqL.of d14), (row_in x fr hxfr).1, toD_shaped fr, _, rfl, ?_⟩
          rw [(row_in x fr hxfr).2]
          refine ite_f rfl ?_
          have s1214 := s13.trans s14
          refine ⟨_, rfl, _, rfl, _, rfl, _, rfl, (S12.same s1214).lots (getM M).2 (by rw [(getM M).1]; omega) (getM M).1 (fun H15 q15 s15 hq15 => ?_) rfl⟩
          have s1215 := s1214.trans s15
          have hbf15 : IsLL H15 bf L := ((hbf.same c12).same core_same).same s1215
          refine ⟨pa, bf, p13, q15, x, f, wd, n, L.length, R, L, M, rows, rfl, (S12.same s1215).partsAt, ok, hbf15, hq15, hgood.way, hgood.nd, hgood.lt, hx, hxr, by omega, hn5, .inr ⟨q12, (s14.trans s15) _ _ hfd13, (s14.trans s15) _ _ hqd13, hMl ▸ hGM.way, hleast, fun H16 sb16 => ?_⟩⟩
          have hqd15 := (s14.trans s15) _ _ hqd13
          have hfd15 := (s14.trans s15) _ _ hfd13
          have S16 := (S12.same s1215).dict hqd15 sb16
          have c16 := core_fresh c11 hq12 (c12.trans (core_up s1215)) sb16
          have hp13q : p13 ≠ q12 := fun z => by rw [z, hqd15] at hfd15; cases hfd15
          refine ⟨_, rfl, p13, _, ((0 : Nat) : Int), .str "told", rfl, rfl, SqT.of (sb16 _ _ hfd15 (by simpa using hp13q)), atN rfl, rfl, sz (by simp), fun p17 hp17 => ?_⟩
          have ed : decide (V.str "told" = V.str "told") = true := decide_eq_true rfl
          exact yes _ p17 M _ (by rw [upd_same, ed]) (c16.trans (core_up (Same.upd hp17))) (S16.same (Same.upd hp17)) hGM (by omega)
      · refine .inl ⟨fun x e hx => ?_, fun H12 d12 s12 hd12 hxd => ?_⟩
        · have hxrows : x ∈ rows := Decidable.byContradiction fun hn => hval ⟨x, e, hx, hn⟩
          exact (hgood.mem x).mp hxrows
        · obtain ⟨z, hz⟩ := (hrow11.same s12).repr hsmall
          refine .inl ⟨rfl, d12, v9, z, rfl, hxd, hz, fun p13 hp13 => ?_⟩
          have s13 := s12.upd' (o := .tup [.str "row", .str z]) hp13
          have hfd13 : (upd H12 p13 (.tup [.str "row", .str z])) p13 = some (.tup [.str "row", .str z]) := upd_same
          have hz13 := hz.same (Same.upd (o := .tup [.str "row", .str z]) hp13)
          generalize hH13 : upd H12 p13 (.tup [.str "row", .str z]) = H13 at s13 hfd13 hz13
          have hrow13 := hrow11.same s13
          obtain ⟨ty, hty, k1, k2⟩ := thing_ty (K := K) hrow13.thing
          refine ⟨_, rfl, _, _, _, _, _, rfl, .ty _, hty, k2, _, rfl, ?_⟩
          have ret : ∀ H14, Same H13 H14 → ∀ {D : V → Hp → Prop}, (∀ H' q, Same H14 H' → H' q = some (.tup [.bl true, .bl false]) → D (.ref q) H') → tTup (tCons (tAndV (tOp (rEqG (DTup K DFlat)) (tVar 9) (tTup (tCons (tC (.str "row")) (tCons (tCB rRepr (tCons (tVar 7) tNil)) tNil)))) (tOp (rEqD K) (tMeth (He.ga K "Keeper") "lots" (spLots K) [] C8.E0 (tVar 1) tNil) (tVar 3))) (tCons (tC (.bl false)) tNil)) [some (.ref a), some (.ref kp), some (.ref pa), some (.ref bf), some (.int (way : Int)), some (.int (n : Int)), some (.ref q3), some v9, none, some (.ref p13), none, none, none, none] H14 D := fun H14 s14 D hk =>
            bad_read (S11.same (s13.trans s14)) hat h100 rfl rfl rfl rfl (s14 _ _ hfd13) (hz13.same s14) (by rw [hLe]; exact hbf11.same (s13.trans s14)) hk
          have fin : ∀ H14, Same H13 H14 → ∀ H' q, Same H14 H' → H' q = some (.tup [.bl true, .bl false]) → Q (.ref q) H' := fun H14 s14 H' q s' hq => no H' q hq (c11.trans (core_up ((s13.trans s14).trans s'))) (S11.same ((s13.trans s14).trans s'))
          cases hbv : isB v9 with
          | true => exact ite_t rfl (ret H13 (Same.refl _) (fin H13 (Same.refl _)))
          | false =>
            refine ite_f rfl ?_
            refine ⟨_, rfl, _, rfl, _, rfl, by omega, by omega, fun D2 hD2 => ?_⟩
            rw [hnn]
            refine lcFree (s13 _ _ th11) hD2 rfl (by show 8 < 14; decide) fun H14 s14 d14 => ?_
            obtain ⟨dv, hdv1, hdv2, hdv3⟩ := row_out hrow13 hbv fr fun x e hxf => by
              obtain ⟨h1, h2⟩ := (hfrn x).mp hxf
              exact hval ⟨x, e, h1, h2⟩
            refine ⟨dv, fr.map PySem.W.Datum.toD, hdv2 _ s14, at_nats (SqL.of d14), hdv1, toD_shaped fr, _, rfl, ?_⟩
            rw [hdv3]
            exact ite_t rfl (ret H14 s14 (fin H14 s14))
    · refine ite_f (decide_eq_false (by omega)) ?_
      refine ⟨_, rfl, rfl, _, rfl, ?_⟩
      by_cases hw5' : way = 5
      · refine ite_t (by rw [hw5']; exact decide_eq_true rfl) ?_
        have h3' : (3 : Int).toNat = 3 := rfl
        refine ⟨_, rfl, _, rfl, q3, 3, _, rfl, rfl, hth, by decide, by decide, sz (by rw [nV_len, h3']; omega), fun p5 hp5 => ?_⟩
        rw [h3']
        have hfl : ((List.replicate 3 (nV (KP.srt rows))).flatten).length ≤ 15 := by simp; omega
        refine ⟨_, rfl, _, rfl, sz (by simp), fun p6 hp6 => ⟨sz (by simp), fun p7 hp7 => ?_⟩⟩
        refine ⟨p5, p7, _, _, rfl, rfl, ((Same.upd hp6).upd' hp7) _ _ upd_same, upd_same, sz (by simp at hfl ⊢; omega), fun p8 hp8 => ?_⟩
        have s35 := Same.upd (o := .lst (List.replicate 3 (nV (KP.srt rows))).flatten) hp5
        have s36 := s35.upd' (o := .lst [V.int 0]) hp6
        have s37 := s36.upd' (o := .lst [V.int (n : Int), .int (-1), .non, .bl true, .str "0", .ref p6]) hp7
        have s38 := s37.upd' (o := .lst ((List.replicate 3 (nV (KP.srt rows))).flatten ++ [V.int (n : Int), .int (-1), .non, .bl true, .str "0", .ref p6])) hp8
        have hp8a : p8 ≠ a := ha3 s37 p8 hp8
        have hp6a : p6 ≠ a := ha3 s35 p6 hp6
        have h68 := ((Same.upd (o := .lst [V.int (n : Int), .int (-1), .non, .bl true, .str "0", .ref p6]) hp7).upd' (o := .lst ((List.replicate 3 (nV (KP.srt rows))).flatten ++ [V.int (n : Int), .int (-1), .non, .bl true, .str "0", .ref p6])) hp8) p6 (.lst [V.int 0]) upd_same
        refine ⟨a, p8, B, _, rfl, upd_same, hp8a, by simp, by rw [List.length_append]; simp at hfl ⊢; omega, (S3.same s38).src, by omega, fun H9 i9 v9 sb9 hs9 hv9 => ?_⟩
        have hvm := List.mem_of_getElem? hv9
        have hrowc : RowV H9 v9 ∧ ∀ i, v9 = .int i → i.natAbs ≤ 1000 := by
          rcases List.mem_append.mp hvm with hm | hm
          · obtain ⟨l, hl, hm⟩ := List.mem_flatten.mp hm
            rw [List.eq_of_mem_replicate hl] at hm
            obtain ⟨z, hz, rfl⟩ := List.mem_map.mp hm
            have := hgood.lt z (KP.mem_srt.mp hz)
            exact ⟨.inr (.inr (.inl ⟨_, rfl⟩)), fun i e => by have := V.int.inj e; omega⟩
          · simp only [List.mem_cons, List.not_mem_nil, or_false] at hm
            rcases hm with rfl | rfl | rfl | rfl | rfl | rfl
            · exact ⟨.inr (.inr (.inl ⟨_, rfl⟩)), fun i e => by have := V.int.inj e; omega⟩
            · exact ⟨.inr (.inr (.inl ⟨_, rfl⟩)), fun i e => by have := V.int.inj e; omega⟩
            · exact ⟨.inl rfl, fun i e => nomatch e⟩
            · exact ⟨.inr (.inl ⟨_, rfl⟩), fun i e => nomatch e⟩
            · exact ⟨.inr (.inr (.inr (.inl rfl))), fun i e => nomatch e⟩
            · exact ⟨.inr (.inr (.inr (.inr ⟨p6, rfl, sb9 _ _ h68 (by simpa using hp6a)⟩))), fun i e => nomatch e⟩
        obtain ⟨hrow9, hsmall⟩ := hrowc
        have S9 := (S3.same s38).draw sb9 hs9
        have cc9 : Same (core [a, kp] H3) (core [a, kp] H9) := (core_up s38).trans (core_mono (fun _ h => by simp at h; simp [h]) sb9)
        clear hvm hv9
        refine ⟨S9.tabs, fun H10 e10 t10 p0 hp0 Q2 hQ2 => ?_⟩
        have S11 := (S9.ext e10 t10).same (Same.upd (o := .tup [.str "none", .str ""]) hp0)
        have cc11 := (cc9.trans (core_ext e10)).trans (core_up (Same.upd (o := .tup [.str "none", .str ""]) hp0))
        have hrow11 : RowV (upd H10 p0 (.tup [.str "none", .str ""])) v9 := by
          rcases hrow9 with h | h | h | h | ⟨z, h1, h2⟩
          · exact .inl h
          · exact .inr (.inl h)
          · exact .inr (.inr (.inl h))
          · exact .inr (.inr (.inr (.inl h)))
          · exact .inr (.inr (.inr (.inr ⟨z, h1, Same.upd hp0 _ _ (e10 _ _ h2 (fun _ => by simp))⟩)))
        generalize hH11 : upd H10 p0 (.tup [.str "none", .str ""]) = H11 at S11 cc11 hrow11
        have c11 := c3.trans cc11
        have th11 : H11 q3 = some (.lst (nV (KP.srt rows))) := core_same _ _ (cc11 _ _ hthc)
        have hbf11 : IsLL H11 bf L := (hbf.same c11).same core_same
        obtain ⟨dx, am, mas, hk11, hkrest⟩ := id S11.keepAt
        refine ⟨_, rfl, kp, _, _, rfl, hk11, rfl, _, rfl, kp, t, v9, at_, ms, f, wd, n, _, rfl, S11.keepAt, S11.rowsAt, by rw [List.length_map]; exact ok.len, by omega, hat, h100, by rw [hLe]; exact fun lot hl => by have := hgood.small hl; omega, by omega, hrow11, ?_⟩
        rw [hLe]
        by_cases hval : ∃ x : Nat, v9 = .int (x : Int) ∧ x ∈ rows
        · obtain ⟨x, rfl, hx⟩ := hval
          obtain ⟨i, hi⟩ := (hgood.way.rows_ x).mp hx
          have hil := KP.memL_lt hi
          have hseat : KP.seat L x = some i := (KP.seat_iff hgood.way.dis).mpr hi
          have hGM : Good f R n (goneOf L x) (rows.filter fun r => decide (r ≠ x)) := hgood.gone ok
          have hMl : (goneOf L x).length = L.length := List.length_map ..
          have hxT : x ∈ KP.srt rows := KP.mem_srt.mpr hx
          refine .inr ⟨x, i, rfl, hgood.lt x hx, hil, KP.memL_iff.mp hi, fun j hj hxj => ?_, fun H12 sb12 hk12 => hQ2 _ _ fun p13 hp13 => ?_⟩
          · have := hgood.way.dis j i x (KP.memL_iff.mpr hxj) hi
            omega
          · rw [hGM.srtId] at hk12
            have S12 := S11.deed sb12 hk12
            have c12 : Same (core [a, kp] H) (core [a, kp] H12) := c11.trans (core_mono (fun _ h => by simp at h; simp [h]) sb12)
            have cc12 : Same (core [a, kp] H3) (core [a, kp] H12) := cc11.trans (core_mono (fun _ h => by simp at h; simp [h]) sb12)
            have s13 := Same.upd (o := .tup [.str "told", .int (i : Int)]) hp13
            have hfd13 : (upd H12 p13 (.tup [.str "told", .int (i : Int)])) p13 = some (.tup [.str "told", .int (i : Int)]) := upd_same
            generalize hH13 : upd H12 p13 (.tup [.str "told", .int (i : Int)]) = H13 at s13 hfd13
            have th13 : H13 q3 = some (.lst (nV (KP.srt rows))) := s13 _ _ (core_same _ _ (cc12 _ _ hthc))
            have hbf13 : IsLL H13 bf L := ((hbf.same c12).same core_same).same s13
            obtain ⟨ty, hty, k1, k2⟩ := thing_ty (K := K) (H := H13) (x := .int (x : Int)) (.inr (.inr (.inl ⟨_, rfl⟩)))
            refine ⟨_, rfl, _, _, _, _, _, rfl, .ty _, hty, k2, _, rfl, ite_f rfl ?_⟩
            refine ⟨_, rfl, _, rfl, .int (x : Int), (KP.srt rows).map PySem.W.Datum.toD, .int _, at_nats (SqL.of th13), (row_in x _ hxT).1, toD_shaped (KP.srt rows), _, rfl, ?_⟩
            rw [(row_in x _ hxT).2]
            refine ite_f rfl ?_
            obtain ⟨bl13, hb13, hbl13⟩ := id hbf13
            have hb13l : bl13.length = L.length := paired_len hbl13
            refine ⟨_, rfl, bf, rfl, ⟨_, SqL.of hb13⟩, fun D2 hD2 => ?_⟩
            refine lc_ex (jo_list (SqL.of hb13)) (Same.refl _) (Same.refl _) hD2 (fun i xs G => ∃ ps, xs = rV ps ∧ IsLots G ps (goneOf (L.take i) x)) (fun i xs G G' sG ⟨ps, e1, e2⟩ => ⟨ps, e1, e2.same sG⟩) ⟨[], rfl, .nil⟩
              (fun i xs G hi ⟨ps, e1, e2⟩ => by rw [e1, List.length_map, paired_len e2]; unfold goneOf; rw [List.length_map, List.length_take]; omega) (fun i1 v1 xs H14 Nx Sk hi1 s14 hv1 hD14 hpv kN _ => ?_) fun H14 xs s14 d14 hpv => ?_
            · obtain ⟨l, hl, rfl⟩ := at_map hv1
              obtain ⟨lot, hlot, hll⟩ := paired_at hbl13 hl
              obtain ⟨ps, rfl, hps⟩ := hpv
              have hll4 := s14 _ _ hll
              have hlen := hgood.small (List.mem_of_getElem? hlot)
              refine ⟨rfl, _, rfl, l, rfl, ⟨_, SqL.of hll4⟩, fun D3 hD3 => ?_⟩
              refine lc_it (jo_list (SqL.of hll4)) (Same.refl _) (Same.refl _) hD3 (fun i => nV ((lot.take i).filter fun r => decide (r ≠ x))) rfl (fun i _ => ?_) (fun i2 v2 H15 Nx2 Sk2 hi2 s15 hv2 k1 k0 => ?_) fun H15 s15 h15 => ?_
              · have := List.length_filter_le (fun r => decide (r ≠ x)) (lot.take i)
                rw [List.length_take] at this
                rw [List.length_map]; omega
              · obtain ⟨z, hz, rfl⟩ := at_map hv2
                refine ⟨rfl, _, rfl, _, rfl, rfl, _, rfl, ?_⟩
                by_cases h0 : z = x
                · exact ite_f (nd_eq h0) (k0 _ (Same.refl _) (by rw [take_filter_more _ hz, if_neg (by simp [h0])]))
                · exact ite_t (nd_ne h0) ⟨_, rfl, k1 _ _ (Same.refl _) (by rw [take_filter_more _ hz, if_pos (by simp [h0])]; exact nV_snoc _ _)⟩
              · rw [List.length_map, List.take_length] at h15
                refine kN _ _ s15 ⟨ps ++ [D3], by rw [rV_snoc], ?_⟩
                have e : goneOf (L.take (i1 + 1)) x = goneOf (L.take i1) x ++ [lot.filter fun r => decide (r ≠ x)] := take_map_more _ hlot
                rw [e]
                exact Paired.snoc (hps.same (but_mono s15)) (but_at h15 (ne_of_none hD14 hD3).symm)
            · obtain ⟨ps, rfl, hps⟩ := hpv
              rw [List.length_map, hb13l, List.take_length] at hps
              have hdue : IsLL H14 D2 (goneOf L x) := ⟨ps, d14, hps.same but_same⟩
              have s1214 := s13.trans s14
              have hbf14 := hbf13.same s14
              refine ⟨_, rfl, _, rfl, bf, L, rfl, hbf14, hndL, by omega, fun H15 q15 s15 hq15 h15 => ?_⟩
              have hg : DGet H15 q15 (.int (x : Int)) ((KP.seat L x).map fun i => V.int (i : Int)) := (movesD_val (KP.seats L) x) ▸ DGet.k (k := .inl (x : Int)) h15
              rw [hseat] at hg
              refine ⟨_, rfl, q15, _, rfl, hg, sz (by simp), fun p16 hp16 => ?_⟩
              have s1416 := s15.upd' (o := .tup [.str "told", .int (i : Int)]) hp16
              refine ⟨tup2 ((s14.trans s1416) _ _ hfd13) upd_same rfl rfl (eqV_str _) (eqV_int _), fun H17 (e17 : Same _ H17) => ⟨_, rfl, ?_⟩⟩
              have s1417 := s1416.trans e17
              have s1217 := s1214.trans s1417
              refine iteT ((S12.same s1217).lots (getM _).2 (by rw [(getM _).1]; omega) (getM _).1 (fun H18 q18 s18 hq18 => ?_) rfl)
              refine ⟨_, rfl, _, _, ll_at hq18, ll_at (hdue.same (s1417.trans s18)), toD_shaped _, toD_shaped _, ?_⟩
              rw [PySem.W.Datum.eqv, decide_eq_true rfl]
              refine ⟨sz (by simp), fun p19 hp19 => ?_⟩
              have s1219 := (s1217.trans s18).upd' (o := .tup [.bl true, .bl true]) hp19
              exact yes _ p19 _ _ upd_same (c12.trans (core_up s1219)) (S12.same s1219) hGM (by omega)
        · refine .inl ⟨fun x e hx lot hl hxl => hval ⟨x, e, hgood.memLot hl hxl⟩, fun H12 d12 s12 hd12 hxd => ?_⟩
          obtain ⟨z, hz⟩ := (hrow11.same s12).repr hsmall
          refine .inl ⟨rfl, d12, v9, z, rfl, hxd, hz, fun p13 hp13 => ?_⟩
          have s13 := s12.upd' (o := .tup [.str "row", .str z]) hp13
          have hfd13 : (upd H12 p13 (.tup [.str "row", .str z])) p13 = some (.tup [.str "row", .str z]) := upd_same
          have hz13 := hz.same (Same.upd (o := .tup [.str "row", .str z]) hp13)
          generalize hH13 : upd H12 p13 (.tup [.str "row", .str z]) = H13 at s13 hfd13 hz13
          have hrow13 := hrow11.same s13
          obtain ⟨ty, hty, k1, k2⟩ := thing_ty (K := K) hrow13.thing
          refine ⟨_, rfl, _, _, _, _, _, rfl, .ty _, hty, k2, _, rfl, ?_⟩
          have fin : ∀ H' q, Same H13 H' → H' q = some (.tup [.bl true, .bl false]) → Q (.ref q) H' := fun H' q s' hq => no H' q hq (c11.trans (core_up (s13.trans s'))) (S11.same (s13.trans s'))
          cases hbv : isB v9 with
          | true => exact ite_t rfl (bad_read (S11.same s13) hat h100 rfl rfl rfl rfl hfd13 hz13 (by rw [hLe]; exact hbf11.same s13) fin)
          | false =>
            refine ite_f rfl ?_
            obtain ⟨dv, hdv1, hdv2, hdv3⟩ := row_out hrow13 hbv (KP.srt rows) fun x e hxf => hval ⟨x, e, KP.mem_srt.mp hxf⟩
            refine ⟨_, rfl, _, rfl, dv, (KP.srt rows).map PySem.W.Datum.toD, hdv2 _ (Same.refl _), at_nats (SqL.of (s13 _ _ th11)), hdv1, toD_shaped (KP.srt rows), _, rfl, ?_⟩
            rw [hdv3]
            exact ite_t rfl (bad_read (S11.same s13) hat h100 rfl rfl rfl rfl hfd13 hz13 (by rw [hLe]; exact hbf11.same s13) fin)
      · refine ite_f (decide_eq_false fun z => hw5' (by have := V.int.inj z; omega)) ?_
        refine ⟨_, rfl, rfl, _, rfl, ?_⟩
        have hb3 := s03 _ _ hb
        by_cases hmore : way = 6 ∧ L.length < 3
        · obtain ⟨hw6, hL3⟩ := hmore
          refine ite_t (by rw [hw6]; exact decide_eq_true rfl) ?_
          refine ⟨_, rfl, bf, _, rfl, .inl (SqL.of hb3), _, _, rfl, rfl, _, rfl, ?_⟩
          rw [List.length_map, hbl]
          refine ite_t (decide_eq_true (by omega)) ?_
          refine ⟨S3.tabs, fun H10 e10 t10 p0 hp0 Q2 hQ2 => ?_⟩
          have S11 := (S3.ext e10 t10).same (Same.upd (o := .tup [.str "none", .str ""]) hp0)
          have cc11 := (core_ext (as := [a, kp]) e10).trans (core_up (Same.upd (o := .tup [.str "none", .str ""]) hp0))
          generalize hH11 : upd H10 p0 (.tup [.str "none", .str ""]) = H11 at S11 cc11
          have c11 := c3.trans cc11
          obtain ⟨dx, am, mas, hk11, hkrest⟩ := id S11.keepAt
          refine ⟨_, rfl, kp, _, _, rfl, hk11, rfl, kp, t, at_, ms, rfl, S11.keepAt, hat, by rw [hLe]; omega, by rw [hLe]; exact fun lot hl => by have := hgood.small hl; omega, by omega, fun H12 sb12 hk12 => ?_⟩
          rw [hLe] at hk12 ⊢
          have hGM := hgood.more
          rw [hGM.srtId] at hk12
          refine hQ2 _ _ fun p13 hp13 => ?_
          have S12 := (S11.deed sb12 hk12)
          have c12 : Same (core [a, kp] H) (core [a, kp] H12) := c11.trans (core_mono (fun _ h => by simp at h; simp [h]) sb12)
          have s13 := Same.upd (o := .tup [.str "told", .int ((L.length : Nat) : Int)]) hp13
          have hfd13 : (upd H12 p13 (.tup [.str "told", .int ((L.length : Nat) : Int)])) p13 = some (.tup [.str "told", .int ((L.length : Nat) : Int)]) := upd_same
          generalize hH13 : upd H12 p13 (.tup [.str "told", .int ((L.length : Nat) : Int)]) = H13 at s13 hfd13
          have hbf13 : IsLL H13 bf L := ((hbf.same c12).same core_same).same s13
          obtain ⟨bl13, hb13, hbl13⟩ := id hbf13
          have hb13l : bl13.length = L.length := paired_len hbl13
          refine ⟨_, rfl, bf, _, rfl, .inl (SqL.of hb13), ?_⟩
          rw [List.length_map, hb13l]
          refine ⟨sz (by simp), fun p14 hp14 => ?_⟩
          have s14 := Same.upd (o := .tup [.str "told", .int ((L.length : Nat) : Int)]) hp14
          refine ⟨tup2 (s14 _ _ hfd13) upd_same rfl rfl (eqV_str _) (eqV_int _), fun H15 (e15 : Same _ H15) => ⟨_, rfl, ?_⟩⟩
          have s1315 := s14.trans e15
          have s1215 := s13.trans s1315
          have hMl : (L ++ [[]]).length = L.length + 1 := by simp
          refine iteT (((S12.same s1215)).lots (getM _).2 (by rw [(getM _).1]; omega) (getM _).1 (fun H16 q16 s16 hq16 => ?_) rfl)
          have s1316 := s1315.trans s16
          refine ⟨_, rfl, sz (by simp), fun p17 hp17 => ⟨sz (by simp), fun p18 hp18 => ?_⟩⟩
          have s1618 := (Same.upd (o := .lst []) hp17).upd' (o := .lst [V.ref p17]) hp18
          refine ⟨bf, p18, _, _, rfl, rfl, s1618 _ _ (s1316 _ _ hb13), upd_same, sz (by rw [List.length_map, hb13l]; simp; omega), fun p19 hp19 => ?_⟩
          have e0 : rV bl13 ++ [V.ref p17] = rV (bl13 ++ [p17]) := (rV_snoc _ _).symm
          rw [e0]
          have s1619 := s1618.upd' (o := .lst (rV (bl13 ++ [p17]))) hp19
          have hdue : IsLL (upd (upd (upd H16 p17 (.lst [])) p18 (.lst [V.ref p17])) p19 (.lst (rV (bl13 ++ [p17])))) p19 (L ++ [[]]) := ⟨_, upd_same, Paired.snoc (hbl13.same (s1316.trans s1619)) (((Same.upd hp18).upd' hp19) _ _ upd_same)⟩
          refine ⟨_, _, ll_at (hq16.same s1619), ll_at hdue, toD_shaped _, toD_shaped _, ?_⟩
          rw [PySem.W.Datum.eqv, decide_eq_true rfl]
          refine ⟨sz (by simp), fun p20 hp20 => ?_⟩
          have s1220 := ((s1215.trans s16).trans s1619).upd' (o := .tup [.bl true, .bl true]) hp20
          exact yes _ p20 _ _ upd_same (c12.trans (core_up s1220)) ((S12.same s1220).mono (Nat.le_succ _)) hGM (by omega)
        refine skip_if (fun hc hX => ⟨_, rfl, bf, _, rfl, .inl (SqL.of hb3), _, _, rfl, rfl, _, rfl, ite_f (decide_eq_false fun hlt => ?_) hX⟩) ?_
        · rw [List.length_map, hbl] at hlt
          have h6 := V.int.inj (of_decide_eq_true hc)
          exact hmore ⟨by omega, by omega⟩
        have h3' : (3 : Int).toNat = 3 := rfl
        refine ⟨_, rfl, _, rfl, bf, _, rfl, .inl (SqL.of hb3), ?_⟩
        rw [List.length_map, hbl]
        refine ⟨_, rfl, RgOk.of_le (by omega) (by omega) (by omega) (by omega), fun p4 hp4 => ?_⟩
        rw [rgV_nV]
        refine ⟨p4, 3, _, rfl, rfl, upd_same, by decide, by decide, sz (by rw [nV_len, h3', List.length_range]; omega), fun p5 hp5 => ?_⟩
        rw [h3']
        have hfl : ((List.replicate 3 (nV (List.range L.length))).flatten).length ≤ 15 := by simp; omega
        have s34 := Same.upd (o := .lst (nV (List.range L.length))) hp4
        have s35 := s34.upd' (o := .lst (List.replicate 3 (nV (List.range L.length))).flatten) hp5
        refine ⟨_, rfl, bf, _, rfl, .inl (SqL.of (s35 _ _ hb3)), ?_⟩
        rw [List.length_map, hbl]
        refine ⟨_, rfl, sz (by simp), fun p7 hp7 => ?_⟩
        refine ⟨p5, p7, _, _, rfl, rfl, Same.upd hp7 _ _ upd_same, upd_same, sz (by simp at hfl ⊢; omega), fun p8 hp8 => ?_⟩
        have s37 := s35.upd' (o := .lst [V.int ((L.length : Nat) : Int), .int (-1), .non, .bl true, .str "0"]) hp7
        have s38 := s37.upd' (o := .lst ((List.replicate 3 (nV (List.range L.length))).flatten ++ [V.int ((L.length : Nat) : Int), .int (-1), .non, .bl true, .str "0"])) hp8
        have hp8a : p8 ≠ a := ha3 s37 p8 hp8
        refine ⟨a, p8, B, _, rfl, upd_same, hp8a, by simp, by rw [List.length_append]; simp at hfl ⊢; omega, (S3.same s38).src, by omega, fun H9 i9 v9 sb9 hs9 hv9 => ?_⟩
        have hvm := List.mem_of_getElem? hv9
        have hrowc : RowV H9 v9 ∧ ∀ i, v9 = .int i → i.natAbs ≤ 1000 := by
          rcases List.mem_append.mp hvm with hm | hm
          · obtain ⟨l, hl, hm⟩ := List.mem_flatten.mp hm
            rw [List.eq_of_mem_replicate hl] at hm
            obtain ⟨z, hz, rfl⟩ := List.mem_map.mp hm
            have := List.mem_range.mp hz
            exact ⟨.inr (.inr (.inl ⟨_, rfl⟩)), fun i e => by have := V.int.inj e; omega⟩
          · simp only [List.mem_cons, List.not_mem_nil, or_false] at hm
            rcases hm with rfl | rfl | rfl | rfl | rfl
            · exact ⟨.inr (.inr (.inl ⟨_, rfl⟩)), fun i e => by have := V.int.inj e; omega⟩
            · exact ⟨.inr (.inr (.inl ⟨_, rfl⟩)), fun i e => by have := V.int.inj e; omega⟩
            · exact ⟨.inl rfl, fun i e => nomatch e⟩
            · exact ⟨.inr (.inl ⟨_, rfl⟩), fun i e => nomatch e⟩
            · exact ⟨.inr (.inr (.inr (.inl rfl))), fun i e => nomatch e⟩
        obtain ⟨hrow9, hsmall⟩ := hrowc
        have S9 := (S3.same s38).draw sb9 hs9
        have cc9 : Same (core [a, kp] H3) (core [a, kp] H9) := (core_up s38).trans (core_mono (fun _ h => by simp at h; simp [h]) sb9)
        clear hvm hv9
        refine ⟨S9.tabs, fun H10 e10 t10 p0 hp0 Q2 hQ2 => ?_⟩
        have S11 := (S9.ext e10 t10).same (Same.upd (o := .tup [.str "none", .str ""]) hp0)
        have cc11 := (cc9.trans (core_ext e10)).trans (core_up (Same.upd (o := .tup [.str "none", .str ""]) hp0))
        have hrow11 : RowV (upd H10 p0 (.tup [.str "none", .str ""])) v9 := by
          rcases hrow9 with h | h | h | h | ⟨z, h1, h2⟩
          · exact .inl h
          · exact .inr (.inl h)
          · exact .inr (.inr (.inl h))
          · exact .inr (.inr (.inr (.inl h)))
          · exact .inr (.inr (.inr (.inr ⟨z, h1, Same.upd hp0 _ _ (e10 _ _ h2 (fun _ => by simp))⟩)))
        generalize hH11 : upd H10 p0 (.tup [.str "none", .str ""]) = H11 at S11 cc11 hrow11
        have c11 := c3.trans cc11
        have hbf11 : IsLL H11 bf L := (hbf.same c11).same core_same
        obtain ⟨dx, am, mas, hk11, hkrest⟩ := id S11.keepAt
        refine ⟨_, rfl, kp, _, _, rfl, hk11, rfl, _, rfl, kp, t, v9, at_, ms, f, wd, n, _, rfl, S11.keepAt, S11.rowsAt, ok.tabC, hat, h100, by rw [hLe]; exact hgood.lotsOk, by omega, hrow11, ?_⟩
        rw [hLe]
        by_cases hval : ∃ x : Nat, v9 = .int (x : Int) ∧ x < L.length
        · obtain ⟨x, rfl, hx⟩ := hval
          obtain ⟨rr, gr, hmem, hdis, m, Ks, hm, hK0, hD0, hKs, hgo, hfin⟩ := less_cases ok hgood hx
          have hxr : x ∈ List.range L.length := List.mem_range.mpr hx
          have hrl : (restOf L x).length + 1 = L.length := by rw [List.length_append, List.length_take, List.length_drop]; omega
          refine .inr ⟨x, m, Ks, rfl, hx, hm, hK0, hD0, hKs, hgo, ?_⟩
          rcases hfin with ⟨r, Rr, hr0, hrn, hbfs, hsh⟩ | ⟨M, rows2, hme, hMe, hGM, hMl, hall, hin⟩
          · refine .inl ⟨r, Rr, hr0, hrn, hbfs, fun H12 d12 q12 s12 hd12 hq12 hxd hlot => .inr (.inr (.inl ⟨rfl, d12, .ref q12, rfl, hxd, fun p13 hp13 => ?_⟩))⟩
            have s13 := s12.upd' (o := .tup [.str "many", .ref q12]) hp13
            have hfd13 : (upd H12 p13 (.tup [.str "many", .ref q12])) p13 = some (.tup [.str "many", .ref q12]) := upd_same
            have hlot13 := Same.upd (o := .tup [.str "many", .ref q12]) hp13 _ _ hlot
            generalize hH13 : upd H12 p13 (.tup [.str "many", .ref q12]) = H13 at s13 hfd13 hlot13
            obtain ⟨ty, hty, k1, k2⟩ := thing_ty (K := K) (H := H13) (x := .int (x : Int)) (.inr (.inr (.inl ⟨_, rfl⟩)))
            refine ⟨_, rfl, _, _, _, _, _, rfl, .ty _, hty, k2, _, rfl, ite_f rfl ?_⟩
            obtain ⟨bl13, hb13, hbl13⟩ := hbf11.same s13
            have hb13l : bl13.length = L.length := paired_len hbl13
            refine ⟨_, rfl, _, rfl, bf, _, rfl, .inl (SqL.of hb13), ?_⟩
            rw [List.length_map, hb13l]
            refine ⟨_, rfl, RgOk.of_le (by omega) (by omega) (by omega) (by omega), fun p14 hp14 => ?_⟩
            rw [rgV_nV]
            have s14 := Same.upd (o := .lst (nV (List.range L.length))) hp14
            refine ⟨.int (x : Int), (List.range L.length).map PySem.W.Datum.toD, .int _, at_nats (SqL.of upd_same), (row_in x _ hxr).1, toD_shaped (List.range L.length), _, rfl, ?_⟩
            rw [(row_in x _ hxr).2]
            refine ite_f rfl ?_
            have s1114 := s13.trans s14
            refine ⟨_, rfl, _, rfl, _, rfl, _, rfl, (S11.same s1114).lots hat h100 hLe (fun H15 q15 s15 hq15 => ?_) rfl⟩
            have s1115 := s1114.trans s15
            refine ⟨pa, bf, p13, q15, x, f, wd, n, (restOf L x).length, R, L, L, rows, rr, rfl, (S11.same s1115).partsAt, ok, hbf11.same s1115, hq15, by rw [hrl]; exact hgood.way, hgood.nd, hgood.lt, hx, by omega, hn5, gr.way, gr.nd, hmem, hdis, .inl ⟨q12, KP.srt (KP.keysR Rr), (s14.trans s15) _ _ hfd13, (s14.trans s15) _ _ hlot13, hsh.none_, hsh.sub, hsh.srt, hsh.many, rfl, fun H16 s16 => ?_⟩⟩
            have s1116 := s1115.trans s16
            refine ⟨_, rfl, p13, _, ((0 : Nat) : Int), .str "many", rfl, rfl, SqT.of (((s14.trans s15).trans s16) _ _ hfd13), atN rfl, rfl, sz (by simp), fun p17 hp17 => ?_⟩
            have ed : decide (V.str "many" = V.str "told") = false := by decide +kernel
            exact no _ p17 (by rw [upd_same, ed]) (c11.trans (core_up (s1116.upd' hp17))) (S11.same (s1116.upd' hp17))
          · refine .inr ⟨hme, fun H12 q12 sb12 hk12 hq12 hqd => hQ2 _ _ fun p13 hp13 => ?_⟩
            rw [← hMe] at hk12 hqd
            rw [hK0] at hqd
            have S12 := S11.deed sb12 hk12
            have c12 : Same (core [a, kp] H) (core [a, kp] H12) := c11.trans (core_mono (fun _ h => by simp at h; simp [h]) sb12)
            have s13 := Same.upd (o := .tup [.str "told", .ref q12]) hp13
            have hfd13 : (upd H12 p13 (.tup [.str "told", .ref q12])) p13 = some (.tup [.str "told", .ref q12]) := upd_same
            have hqd13 := s13 _ _ hqd
            generalize hH13 : upd H12 p13 (.tup [.str "told", .ref q12]) = H13 at s13 hfd13 hqd13
            have hbf13 : IsLL H13 bf L := ((hbf.same c12).same core_same).same s13
            obtain ⟨ty, hty, k1, k2⟩ := thing_ty (K := K) (H := H13) (x := .int (x : Int)) (.inr (.inr (.inl ⟨_, rfl⟩)))
            refine ⟨_, rfl, _, _, _, _, _, rfl, .ty _, hty, k2, _, rfl, ite_f rfl ?_⟩
            obtain ⟨bl13, hb13, hbl13⟩ := id hbf13
            have hb13l : bl13.length = L.length := paired_len hbl13
            refine ⟨_, rfl, _, rfl, bf, _, rfl, .inl (SqL.of hb13), ?_⟩
            rw [List.length_map, hb13l]
            refine ⟨_, rfl, RgOk.of_le (by omega) (by omega) (by omega) (by omega), fun p14 hp14 => ?_⟩
            rw [rgV_nV]
            have s14 := Same.upd (o := .lst (nV (List.range L.length))) hp14
            refine ⟨.int (x : Int), (List.range L.length).map PySem.W.Datum.toD, .int _, at_nats (SqL.of upd_same), (row_in x _ hxr).1, toD_shaped (List.range L.length), _, rfl, ?_⟩
            rw [(row_in x _ hxr).2]
            refine ite_f rfl ?_
            have s1214 := s13.trans s14
            refine ⟨_, rfl, _, rfl, _, rfl, _, rfl, (S12.same s1214).lots (getM M).2 (by rw [(getM M).1]; omega) (getM M).1 (fun H15 q15 s15 hq15 => ?_) rfl⟩
            have s1215 := s1214.trans s15
            refine ⟨pa, bf, p13, q15, x, f, wd, n, (restOf L x).length, R, L, M, rows, rr, rfl, (S12.same s1215).partsAt, ok, hbf13.same (s14.trans s15), hq15, by rw [hrl]; exact hgood.way, hgood.nd, hgood.lt, hx, by omega, hn5, gr.way, gr.nd, hmem, hdis, .inr ⟨q12, (s14.trans s15) _ _ hfd13, (s14.trans s15) _ _ hqd13, hall, hin, fun H16 s16 => ?_⟩⟩
            have s1216 := s1215.trans s16
            refine ⟨_, rfl, p13, _, ((0 : Nat) : Int), .str "told", rfl, rfl, SqT.of (((s14.trans s15).trans s16) _ _ hfd13), atN rfl, rfl, sz (by simp), fun p17 hp17 => ?_⟩
            have ed : decide (V.str "told" = V.str "told") = true := decide_eq_true rfl
            exact yes _ p17 M _ (by rw [upd_same, ed]) (c12.trans (core_up (s1216.upd' hp17))) (S12.same (s1216.upd' hp17)) hGM (by omega)
        · refine .inl ⟨fun x e hx => hval ⟨x, e, hx⟩, fun H12 d12 s12 hd12 hxd => ?_⟩
          obtain ⟨z, hz⟩ := (hrow11.same s12).repr hsmall
          refine .inr (.inl ⟨rfl, d12, v9, z, rfl, hxd, hz, fun p13 hp13 => ?_⟩)
          have s13 := s12.upd' (o := .tup [.str "count", .str z]) hp13
          have hfd13 : (upd H12 p13 (.tup [.str "count", .str z])) p13 = some (.tup [.str "count", .str z]) := upd_same
          have hz13 := hz.same (Same.upd (o := .tup [.str "count", .str z]) hp13)
          generalize hH13 : upd H12 p13 (.tup [.str "count", .str z]) = H13 at s13 hfd13 hz13
          have hrow13 := hrow11.same s13
          obtain ⟨ty, hty, k1, k2⟩ := thing_ty (K := K) hrow13.thing
          refine ⟨_, rfl, _, _, _, _, _, rfl, .ty _, hty, k2, _, rfl, ?_⟩
          have fin : ∀ H14, Same H13 H14 → ∀ H' q, Same H14 H' → H' q = some (.tup [.bl true, .bl false]) → Q (.ref q) H' := fun H14 s14 H' q s' hq => no H' q hq (c11.trans (core_up ((s13.trans s14).trans s'))) (S11.same ((s13.trans s14).trans s'))
          cases hbv : isB v9 with
          | true => exact ite_t rfl (bad_read (S11.same s13) hat h100 rfl rfl rfl rfl hfd13 hz13 (by rw [hLe]; exact hbf11.same s13) (fin H13 (Same.refl _)))
          | false =>
            refine ite_f rfl ?_
            obtain ⟨bl13, hb13, hbl13⟩ := hbf11.same s13
            have hb13l : bl13.length = L.length := paired_len hbl13
            refine ⟨_, rfl, _, rfl, bf, _, rfl, .inl (SqL.of hb13), ?_⟩
            rw [List.length_map, hb13l]
            refine ⟨_, rfl, RgOk.of_le (by omega) (by omega) (by omega) (by omega), fun p14 hp14 => ?_⟩
            rw [rgV_nV]
            have s14 := Same.upd (o := .lst (nV (List.range L.length))) hp14
            obtain ⟨dv, hdv1, hdv2, hdv3⟩ := row_out hrow13 hbv (List.range L.length) fun x e hxf => hval ⟨x, e, List.mem_range.mp hxf⟩
            refine ⟨dv, (List.range L.length).map PySem.W.Datum.toD, hdv2 _ s14, at_nats (SqL.of upd_same), hdv1, toD_shaped (List.range L.length), _, rfl, ?_⟩
            rw [hdv3]
            exact ite_t rfl (bad_read (S11.same (s13.trans s14)) hat h100 rfl rfl rfl rfl (s14 _ _ hfd13) (hz13.same s14) (by rw [hLe]; exact hbf11.same (s13.trans s14)) (fin _ s14))
end
end KW
end
section
set_option Elab.async false
set_option linter.all false
set_option maxRecDepth 100000
set_option maxHeartbeats 16000000
set_option pp.maxSteps 300
/-! The law. -/
namespace KW
open PySem PySem.Spec PyProof.Rows L2
section
variable {P : Program} {w : World} {K : PySem.W.Frag} {mg : Str → Option Value} {base : Heap}
theorem sig14 {x0 x1 x2 x3 x4 x6 x7 x8 x9 x10 x11 x12 x13 : Option V} {a b : Int} (h : a = b) : [x0, x1, x2, x3, x4, some (.int a), x6, x7, x8, x9, x10, x11, x12, x13] = [x0, x1, x2, x3, x4, some (.int b), x6, x7, x8, x9, x10, x11, x12, x13] := by rw [h]
theorem op_neRows {X : Cx} {j : Nat} (T : Txt2 X.prog X.K X.mg) (hr : Room j X.A) (hj : 2 ≤ j) : OpR X (compareOp .NotEq) (rNeG (DIns (He.ga X.K "Rows") (eqRows X.K))) := by
  obtain ⟨f, fd, ps, ds, hc, hm, F, b, d⟩ := (m_eq (P := X.prog) (w := X.w) (base := X.base) T).ex
  cases d
  exact op_neO (E := C8.E0) F hm.1 T.neR T.insR.hm hm.2 b C8.pass0 (hr.mono hj)
theorem scTable : FnScope ["self"] ["self"] (defScope s_Keeper_table) := ⟨rfl, rfl, rfl, by decide +kernel, rfl, by decide +kernel, by decide +kernel⟩
abbrev nmLaw : List Str := ["_law_script", "_law_source_here", "_law_parts", "_law_keeper", "_law_stands", "_law_at", "_law_turn", "_law_way", "_law_back", "_law_can", "_law_found", "_law_good", "_law_done", "_law_lot"]
theorem scLaw : FnScope nmLaw ["_law_script"] (defScope s_law) := ⟨rfl, rfl, rfl, by decide +kernel, rfl, by decide +kernel, by decide +kernel⟩
abbrev qLaw : Str := (envOfC "law" (defScope s_law) 0 0 .none).qual ++ "<lambda>"
def spLaw (K : PySem.W.Frag) (Tb : List (Addr × Str)) : Sp := fun vs H Q _ => ∃ (sc : Addr) (ns : List Int), vs = [.ref sc] ∧ SqL K H sc (iV ns) ∧ LamX.Tabs Tb H ∧ ∀ H', Q (.bl true) H'
/-- what stands behind i turns -/
def LInv (K : PySem.W.Frag) (Tb : List (Addr × Str)) (f : Int) (wd n : Nat) (R : List (List Int)) (a kp t pa sc : Addr) (i : Nat) (σ : L2.St) (H : Hp) : Prop := ∃ (q : Addr) (at_ : Nat) (ms : List (List (List Nat))) (v6 v7 v8 v9 v10 v11 v12 v13 : Option V),
  σ = [some (.ref sc), some (.ref a), some (.ref pa), some (.ref kp), some (.ref q), some (.int (at_ : Int)), v6, v7, v8, v9, v10, v11, v12, v13] ∧ Stt K Tb f wd n R a kp t pa (60 + 3 * i) at_ ms H ∧ IsWays (core [a, kp] H) q ms ∧ at_ < ms.length ∧ ms.length ≤ i + 1 ∧ ∀ L, L ∈ ms → L.length ≤ 3 ∧ ∃ rows, Good f R n L rows
theorem c_law (T : Txt2 P K mg) {Tb : List (Addr × Str)} (TB : LamX.TabB base mg (He.cT K ("_law_deed", none)).1 (He.cT K ("_law_deed", none)).2) (hmT : ((He.cT K ("_law_deed", none)).2, qDeed) ∈ Tb) (hTu : ∀ p ∈ Tb, p.1 = (He.cT K ("_law_deed", none)).2 → p.2 = qDeed)
    (TB2 : LamX.TabB base mg (He.cT K ("law", none)).1 (He.cT K ("law", none)).2) (hmT2 : ((He.cT K ("law", none)).2, qLaw) ∈ Tb) (hTu2 : ∀ p ∈ Tb, p.1 = (He.cT K ("law", none)).2 → p.2 = qLaw) :
    CalG P w K mg base 14 "law" (spLaw K Tb) := by
  obtain ⟨fd, F⟩ := T.fn_law
  obtain ⟨pT, gT, fT, hpT, FT⟩ := T.pTable
  refine mkCalG F T.g_law (fun _ _ _ _ _ _ us hl => match us, hl with | [_], _ => rfl) scLaw (fun vs H Q E h => ?_) fun cdv A outer s H vs Q hcdv hgd hr h => ?_
  · obtain ⟨sc, ns, rfl, _⟩ := h
    rfl
  · obtain ⟨sc, ns, rfl, hsc, htab, k⟩ := h
    have hu := hr.units
    have hu65 := units65 hr
    refine ⟨_, (pss_cons (ps_set (i := 1) scLaw.nd rfl (Or.inl rfl) (C8.pe_c (c_source T) hr (by decide) (by rfl) (pa_cons (pv 0) pa_nil))) (pss_cons (ps_set (i := 2) scLaw.nd rfl (Or.inl rfl) (pe_lst (pa_cons (C8.pe_c (c_rowsL T) hr (by decide) (by rfl) (pa_cons (pv 1) (pa_cons (pe_op op_add pe_int (C8.pe_c (c_draw T) hr (by decide) (by rfl) (pa_cons (pv 1) (pa_cons (pe_int) pa_nil)))) (pa_cons (pe_op op_add pe_int (C8.pe_c (c_draw T) hr (by decide) (by rfl) (pa_cons (pv 1) (pa_cons (pe_int) pa_nil)))) pa_nil)))) (pa_cons (C8.pe_c (c_field T) hr (by decide) (by rfl) (pa_cons (pv 1) pa_nil)) pa_nil)))) (pss_cons (ps_set (i := 3) scLaw.nd rfl (Or.inr rfl) (C8.pe_mk (mk_Keeper T) hr (by decide) (by rfl) (pa_cons (C8.pe_c (c_made T) hr (by decide) (by rfl) (pa_cons (pv 2) pa_nil)) (pa_cons (C8.pe_c (c_draw T) hr (by decide) (by rfl) (pa_cons (pv 1) (pa_cons (pe_int) pa_nil))) pa_nil)))) (pss_cons (ps_par (i := 4) (j := 5) rfl scLaw.nd rfl rfl (by decide) rfl rfl (pa_cons (pe_lst (pa_cons (C8.pe_mt0 (m_lots T) hr (by decide) (pv 3)) pa_nil)) (pa_cons (pe_int) pa_nil)) (by kernel_rfl)) (pss_cons (ps_for PassesOwn.never rfl (pi_range1 (by rfl) T.f_range (pa_cons (pe_op op_add pe_int (C8.pe_c (c_draw T) hr (by decide) (by rfl) (pa_cons (pv 1) (pa_cons (pe_int) pa_nil)))) pa_nil)) (pg_name (i := 6) scLaw.nd rfl (Or.inl rfl))
        (pss_cons (ps_set (i := 7) scLaw.nd rfl (Or.inl rfl) (C8.pe_c (c_draw T) hr (by decide) (by rfl) (pa_cons (pv 1) (pa_cons (pe_int) pa_nil))))
          (C8.pss_cut (ps_if (pt_cmpR op_gt (pv 7) pe_int (nomark _))
              (pss_cons (ps_set (i := 8) scLaw.nd rfl (Or.inr rfl) (pe_cmpR op_ne (pv 7) pe_int (nomark _))) (pss_cons (ps_set (i := 9) scLaw.nd rfl (Or.inl rfl) (pe_ifExp (pt_val (pv 8)) (pe_cmpR op_gt (pv 5) pe_int (nomark _)) (pe_cmpR op_lt (pe_op op_add (pv 5) pe_int) (pe_callB call_len_seq (by rfl) T.f_len boot_len (pa_cons (pv 4) pa_nil)) (nomark _)))) (pss_cons (ps_set (i := 10) scLaw.nd rfl (Or.inl rfl) (pe_tried (Tb := Tb) (k := 10) T hgd (hr.mono (by decide)) (by rfl) TB2 hcdv hmT2 hTu2 (LamX.lamS_by (by show LamX.lamSB (defScope s_law) _ = true; decide +kernel)) rfl (fun _ _ _ _ _ => rfl) (fun A' outer' s' H' E' f' c' hr' => pe_ifExp (pt_val (pv 8)) (pe_mtX0 (m_undo T) hr' (by decide) (pv 3)) (pe_mtX0 (m_again T) hr' (by decide) (pv 3))))) (pss_cons (ps_set (i := 5) scLaw.nd rfl (Or.inl rfl) (pe_op op_add (pv 5) (pe_op op_mul (pe_callTy call_int1 (by rfl) T.f_int (boot_T "int") (pa_cons (pv 9) pa_nil)) (pe_op op_sub pe_int (pe_op op_mul pe_int (pe_callTy call_int1 (by rfl) T.f_int (boot_T "int") (pa_cons (pv 8) pa_nil))))))) (pss_one (ps_if (pt_cmpR (op_neD hu) (pv 10) (pe_ifExp (pt_val (pv 9)) (pe_tup (pa_cons (pe_str) (pa_cons (pe_non) pa_nil))) (pe_tup (pa_cons (pe_str) (pa_cons (pe_str) pa_nil)))) (nomark _)) (pss_one (ps_ret pe_bl)) pss_nil))))))
              (pss_cons (ps_asg (pe_cG (c_deed T TB hmT hTu) hgd hr (by decide) (by rfl) (pa_cons (pv 1) (pa_cons (pv 3) (pa_cons (pv 2) (pa_cons (pe_ix ix_list (pv 4) (pv 5) (fun _ _ => rfl)) (pa_cons (pv 7) pa_nil)))))) (pg_tup rfl (pgs_cons (pg_name (i := 11) scLaw.nd rfl (Or.inl rfl)) (pgs_cons (pg_name (i := 12) scLaw.nd rfl (Or.inl rfl)) pgs_nil)))) (pss_cons (ps_if (pt_not (pt_val (pv 11))) (pss_one (ps_ret pe_bl)) pss_nil) (pss_one (ps_if (pt_val (pv 12)) (pss_one (ps_par (i := 4) (j := 5) rfl scLaw.nd rfl rfl (by decide) rfl rfl (pa_cons (pe_op op_cat (pe_slice sl_list (pv 4) po_none (po_some (pe_op op_add (pv 5) pe_int))) (pe_lst (pa_cons (C8.pe_mt0 (m_lots T) hr (by decide) (pv 3)) pa_nil))) (pa_cons (pe_op op_add (pv 5) pe_int) pa_nil)) (by kernel_rfl))) pss_nil)))))
          (pss_cons (ps_for PassesOwn.never rfl (pi_list (C8.pe_mt0 (m_lots T) hr (by decide) (pv 3))) (pg_name (i := 13) scLaw.nd rfl (Or.inl rfl)) (pss_one (ps_expr (pe_bm PySem.F.plainAttrs_list PySem.F.slot_list_append PySem.F.type_list_append mt_append (pv 13) (pa_cons (pe_str) pa_nil))))) (pss_one (ps_if (PW.pt (pw_or (pt_cmpR (op_neD hu) (C8.pe_mt0 (m_lots T) hr (by decide) (pv 3)) (pe_ix ix_list (pv 4) (pv 5) (fun _ _ => rfl)) (nomark _)) (pw_or1 (pt_cmpR (op_neRows T hr (by decide)) (pe_get T.c_Keeper T.n_Keeper_own_table hpT FT hr (by decide) (pv 3) ⟨_, _, _, rfl⟩ scTable (fun _ _ _ _ _ _ us hl => match us, hl with | [_], _ => rfl)) (C8.pe_c (c_made T) hr (by decide) (by rfl) (pa_cons (pv 2) pa_nil)) (nomark _))))) (pss_one (ps_ret pe_bl)) pss_nil)))))) (pss_one (ps_ret pe_bl))))))), ?_⟩
    refine ⟨_, rfl, sc, ns, rfl, hsc, fun H1 a s1 ha0 hsrc1 => ?_⟩
    have tab1 := htab.ext s1
    obtain ⟨g1, s1', c1', hav1, _⟩ := id hsrc1
    have tabB : ∀ {G : Hp}, SameBut [a] H1 G → LamX.Tabs Tb G := fun sb => tabs_but tab1 hav1 (fun _ => by simp) (fun c q z => by unfold LamX.CodeO at z; cases z) sb
    refine ⟨_, rfl, _, rfl, a, 3, 0, rfl, by decide, by decide, hsrc1, by decide, fun H2 d2 sb2 hs2 hd2 => ⟨_, _, rfl, rfl, _, rfl, a, 5, 1, rfl, by decide, by decide, hs2, by decide, fun H3 d3 sb3 hs3 hd3 => ⟨_, _, rfl, rfl, ?_⟩⟩⟩
    have ew : (1 : Int) + (d2 : Int) = ((1 + d2 : Nat) : Int) := by omega
    have em : (1 : Int) + (d3 : Int) = ((1 + d3 : Nat) : Int) := by omega
    refine ⟨a, 1 + d2, 1 + d3, 2, by rw [← ew, ← em]; rfl, by omega, by omega, hs3, by decide, fun H4 qr R sb4 hqr hs4 hraw hRl hRw hRb => ?_⟩
    refine ⟨_, rfl, a, 52, rfl, hs4, by decide, fun H5 f sb5 hs5 hf => ⟨sz (by simp), fun pa hpa => ?_⟩⟩
    have ok : PartsOk f (1 + d2) (1 + d3) R := ⟨hf, hRw, by omega, hRl, by omega, by omega, hRb⟩
    have hpaa : pa ≠ a := (hs5.ne hpa).symm
    have s56 := Same.upd (o := .lst [V.ref qr, .int f]) hpa
    have hparts6 : IsParts (but a (upd H5 pa (.lst [V.ref qr, .int f]))) pa f R := ⟨qr, but_at upd_same hpaa, hraw.same ((sb_but sb5).trans (but_mono s56))⟩
    have sb16 := (((sb2.trans sb3).trans sb4).trans sb5).trans (SameBut.of s56)
    have hs6 := hs5.same s56
    generalize hH6 : upd H5 pa (.lst [V.ref qr, .int f]) = H6 at s56 hparts6 sb16 hs6
    have tab6 := tabB sb16
    generalize hwd : 1 + d2 = wd at ok
    generalize hn : 1 + d3 = n at ok
    have hn5 : n ≤ 5 := by omega
    refine ⟨_, rfl, pa, f, wd, n, R, rfl, hparts6.same but_same, ok, fun H7 t s7 ht0 hrows7 => ?_⟩
    refine ⟨_, rfl, a, 4, 53, rfl, by decide, by decide, hs6.same s7, by decide, fun H8 d8 sb8 hs8 hd8 => ?_⟩
    have hparts7 := hparts6.same (but_mono s7)
    have tab8 := tabB ((sb16.trans (SameBut.of s7)).trans sb8)
    intro kp dx hkp hdx hne
    refine ⟨kp, dx, t, d8, rfl, upd_same, by omega, fun H9 sb9 hkeep9 hkz => ⟨rfl, ?_⟩⟩
    have s89 : Same H8 H9 := same_made hkp hdx sb9
    have hka : a ≠ kp := hs8.ne hkp
    have hgood0 : Good f R n (List.replicate d8 []) [] := by
      have hm : ∀ i r, KP.memL (List.replicate d8 []) i r = false := fun i r => by
        unfold KP.memL
        rw [List.getD_eq_getElem?_getD, List.getElem?_replicate]
        split <;> rfl
      refine ⟨⟨rfl, fun lot h => by rw [List.eq_of_mem_replicate h]; exact .nil, fun lot h => by rw [List.eq_of_mem_replicate h]; rfl, fun r => ⟨fun h => absurd h List.not_mem_nil, fun ⟨i, h⟩ => by rw [hm] at h; cases h⟩, fun i j r h => by rw [hm] at h; cases h⟩, List.nodup_nil, fun r h => absurd h List.not_mem_nil⟩
    have S9 : Stt K Tb f wd n R a kp t pa 54 0 [List.replicate d8 []] H9 := by
      have hG : (upd (upd H8 dx (.own kp)) kp (.ins (He.ga K "Keeper") dx [])) a ≠ none := by
        obtain ⟨g, s', c, x, y⟩ := hs8
        rw [upd_ne hka, upd_ne (ne_of_none x hdx), x]; simp
      have up : ∀ b o, H8 b = some o → b ≠ a → (∀ ps, o ≠ .tbl ps) → core [a, kp] H9 b = some o := fun b o e h1 h2 => core_at (s89 _ _ e) (by simp [h1, ne_of_none e hkp]) h2
      refine ⟨hs8.same s89, keep_core (hkz a hka hG), ?_, ?_, tab8.ext s89⟩
      · obtain ⟨g, s', c, x, y⟩ := (hs6.same s7)
        have na : ∀ b o, H7 b = some o → (∀ z, o ≠ .lst z) → b ≠ a := fun b o e h z => by rw [z, x] at e; exact h _ (Option.some.inj e).symm
        obtain ⟨dx7, r7, rs7, x1, x2, x3⟩ := hrows7
        have mv : ∀ b o, H7 b = some o → (∀ z, o ≠ .lst z) → (∀ ps, o ≠ .tbl ps) → core [a, kp] H9 b = some o := fun b o e h1 h2 => up _ _ (sb8 _ _ e (by simpa using na b o e h1)) (na b o e h1) h2
        exact ⟨dx7, r7, rs7, mv _ _ x1 (fun _ => by simp) (fun _ => by simp), mv _ _ x2 (fun _ => by simp) (fun _ => by simp), paired_mono (fun _ _ e => mv _ _ e (fun _ => by simp) (fun _ => by simp)) x3⟩
      · have mv : ∀ b o, but a H7 b = some o → (∀ ps, o ≠ .tbl ps) → core [a, kp] H9 b = some o := fun b o e h2 => by
          have e8 := sb_but sb8 _ _ e
          have hba : b ≠ a := by
            unfold but at e
            split at e
            · cases e
            · assumption
          exact up _ _ (but_same _ _ e8) hba h2
        obtain ⟨ar, x1, rs, x2, x3⟩ := hparts7
        exact ⟨ar, mv _ _ x1 (fun _ => by simp), rs, mv _ _ x2 (fun _ => by simp), paired_mono (fun _ _ e => mv _ _ e (fun _ => by simp)) x3⟩
    refine S9.lotsN (by simp) (by simp; omega) rfl (fun H10 q10 s10 hq10 => ⟨sz (by simp), fun qs hqs => ⟨_, _, rfl, ?_⟩⟩) rfl
    have hqn := S9.same s10
    have fresh_ : ∀ {H' : Hp} {B at2 : Nat} {ms2 : List (List (List Nat))} {p : Addr}, Stt K Tb f wd n R a kp t pa B at2 ms2 H' → H' p = none → p ∉ [a, kp] := fun S hp => by
      obtain ⟨g, s', c, u, v⟩ := S.src
      obtain ⟨dx', am', mas', x, y⟩ := S.keepAt
      simp only [List.mem_cons, List.not_mem_nil, or_false]
      rintro (z | z)
      · rw [← z, hp] at u; cases u
      · rw [← z, hp] at x; cases x
    have s11 := Same.upd (o := .lst [V.ref q10]) hqs
    have hW11 : IsWays (core [a, kp] (upd H10 qs (.lst [V.ref q10]))) qs [List.replicate d8 []] := ⟨[q10], core_at upd_same (fresh_ hqn hqs) (fun _ => by simp), .cons (hq10.same (core_up s11)) .nil⟩
    have S11 := hqn.same s11
    generalize hH11 : upd H10 qs (.lst [V.ref q10]) = H11 at s11 hW11 S11
    refine ⟨_, rfl, a, 9, 54, rfl, by decide, by decide, S11.src, by decide, fun H12 d9 sb12 hs12 hd9 => ⟨_, _, rfl, rfl, _, rfl, by omega, by omega, ?_⟩⟩
    have e9 : ((4 : Int) + (d9 : Int)).toNat = 4 + d9 := by omega
    rw [e9]
    refine for_it (H0 := fun _ => none) (jo_range 0 (4 + d9)) (LInv K Tb f wd n R a kp t pa sc) ⟨qs, 0, _, _, _, _, _, _, _, _, _, rfl, (S11.draw sb12 hs12).mono (by omega), hW11.same (core_mono (fun _ h => by simp at h; simp [h]) sb12), by simp, by simp, fun L hL => ?_⟩ (fun _ _ _ _ _ _ _ e => by cases e) ?_ ?_
    · rw [List.mem_singleton.mp hL]
      exact ⟨by simp; omega, [], hgood0⟩
    · rintro i v σ Ha Hb hi ⟨q, at_, ms, v6, v7, v8, v9, v10, v11, v12, v13, rfl, S, hW, hat, hml, hall⟩ sab hv
      refine ⟨_, rfl, a, 11, 60 + 3 * i, rfl, by decide, by decide, (S.same sab).src, by omega, fun Hc dw sbc hsc2 hdw => ?_⟩
      have S2 := (S.same sab).draw sbc hsc2
      have hW2 := hW.same ((core_up sab).trans (core_mono (fun _ h => by simp at h; simp [h]) sbc))
      have hLm : ms.getD at_ [] ∈ ms := by rw [List.getD_eq_getElem?_getD, List.getElem?_eq_getElem hat]; exact List.getElem_mem _
      obtain ⟨hL3, rows, hgood⟩ := hall _ hLm
      have h100 : (ms.getD at_ []).length ≤ 100 := by omega
      clear hv sab sbc hsc2 S hW
      refine ⟨LInv K Tb f wd n R a kp t pa sc (i + 1), ?_, ?_⟩
      · refine ⟨_, rfl, _, _, rfl, rfl, _, rfl, ?_⟩
        by_cases h7 : 7 < dw
        · refine ite_t (decide_eq_true (by omega)) ?_
          obtain ⟨bk, hbk⟩ : ∃ bk, (!decide (V.int (dw : Int) = V.int 8)) = bk := ⟨_, rfl⟩
          obtain ⟨ws, hq, hwp⟩ := id hW2
          have hwl : ws.length = ms.length := paired_len hwp
          refine ⟨_, rfl, rfl, ?_⟩
          rw [hbk]
          cases bk with
          | true =>
            refine ⟨_, rfl, _, rfl, iteT ⟨_, rfl, _, _, rfl, rfl, ?_⟩⟩
            refine ⟨S2.tabs, fun H10 e10 t10 p0 hp0 Q2 hQ2 => ?_⟩
            have S3 := (S2.ext e10 t10).same (Same.upd (o := .tup [.str "none", .str ""]) hp0)
            have hW3 := hW2.same ((core_ext e10).trans (core_up (Same.upd (o := .tup [.str "none", .str ""]) hp0)))
            generalize hH11' : upd H10 p0 (.tup [.str "none", .str ""]) = G at S3 hW3
            obtain ⟨dx', am', mas', hk3, hkrest⟩ := id S3.keepAt
            refine ⟨_, rfl, _, rfl, iteT ⟨_, rfl, kp, _, _, rfl, hk3, rfl, kp, t, at_, ms, rfl, S3.keepAt, ?_⟩⟩
            by_cases h0 : at_ = 0
            · refine .inl ⟨h0, .inr (.inr (.inr ⟨rfl, fun p13 hp13 => ?_⟩))⟩
              have ec : decide ((0 : Int) < (at_ : Int)) = false := decide_eq_false (by omega)
              simp only [ec]
              refine ⟨_, rfl, _, rfl, .inr ⟨_, rfl, _, rfl, .inr ⟨_, rfl, _, _, rfl, rfl, .inl (by decide), _, _, rfl, rfl, _, _, rfl, rfl, .inl (by decide), _, _, rfl, rfl, ?_⟩⟩⟩
              refine ⟨_, rfl, _, rfl, _, rfl, iteF ⟨sz (by simp), fun p14 hp14 => ?_⟩⟩
              have s14 := Same.upd (o := .tup [.str "deed", .str ""]) hp14
              refine ⟨.tuple [.str "deed", .str ""], .tuple [.str "deed", .str ""], .tup (SqT.of (s14 _ _ upd_same)) (.cons (.str _) (.cons (.str _) .nil)), .tup (SqT.of upd_same) (.cons (.str _) (.cons (.str _) .nil)), by decide +kernel, by decide +kernel, _, rfl, ite_f (by decide +kernel) ?_⟩
              have s15 := (Same.upd (o := .tup [.str "deed", .str ""]) hp13).trans s14
              exact ⟨q, at_, ms, _, _, _, _, _, _, _, _, sig14 (by simp), (S3.same s15).mono (by omega), hW3.same (core_up s15), hat, by omega, hall⟩
            · refine .inr ⟨by omega, fun H12 sb12 hk12 => hQ2 _ _ fun p13 hp13 => ?_⟩
              have S12 := S3.deed sb12 hk12
              have hW12 := hW3.same (core_mono (fun _ h => by simp at h; simp [h]) sb12)
              have ec : decide ((0 : Int) < (at_ : Int)) = true := decide_eq_true (by omega)
              simp only [ec]
              refine ⟨_, rfl, _, rfl, .inr ⟨_, rfl, _, rfl, .inr ⟨_, rfl, _, _, rfl, rfl, .inl (by decide), _, _, rfl, rfl, _, _, rfl, rfl, .inl (by decide), _, _, rfl, rfl, ?_⟩⟩⟩
              refine ⟨_, rfl, _, rfl, _, rfl, iteT ⟨sz (by simp), fun p14 hp14 => ?_⟩⟩
              have s14 := Same.upd (o := .tup [.str "told", .non]) hp14
              refine ⟨.tuple [.str "told", .none], .tuple [.str "told", .none], .tup (SqT.of (s14 _ _ upd_same)) (.cons (.str _) (.cons .non .nil)), .tup (SqT.of upd_same) (.cons (.str _) (.cons .non .nil)), by decide +kernel, by decide +kernel, _, rfl, ite_f (by decide +kernel) ?_⟩
              have s15 := (Same.upd (o := .tup [.str "told", .non]) hp13).trans s14
              exact ⟨q, at_ - 1, ms, _, _, _, _, _, _, _, _, sig14 (by simp; omega), (S12.same s15).mono (by omega), hW12.same (core_up s15), by omega, by omega, hall⟩
          | false =>
            refine ⟨_, rfl, _, rfl, iteF ⟨_, rfl, _, _, rfl, rfl, _, rfl, q, _, rfl, .inl (SqL.of (core_same _ _ hq)), _, _, rfl, rfl, ?_⟩⟩
            rw [List.length_map, hwl]
            refine ⟨S2.tabs, fun H10 e10 t10 p0 hp0 Q2 hQ2 => ?_⟩
            have S3 := (S2.ext e10 t10).same (Same.upd (o := .tup [.str "none", .str ""]) hp0)
            have hW3 := hW2.same ((core_ext e10).trans (core_up (Same.upd (o := .tup [.str "none", .str ""]) hp0)))
            generalize hH11' : upd H10 p0 (.tup [.str "none", .str ""]) = G at S3 hW3
            obtain ⟨dx', am', mas', hk3, hkrest⟩ := id S3.keepAt
            refine ⟨_, rfl, _, rfl, iteF ⟨_, rfl, kp, _, _, rfl, hk3, rfl, kp, t, at_, ms, rfl, S3.keepAt, ?_⟩⟩
            by_cases h0 : at_ + 1 = ms.length
            · refine .inl ⟨h0, .inr (.inr (.inr ⟨rfl, fun p13 hp13 => ?_⟩))⟩
              have ec : decide ((at_ : Int) + 1 < ((ms.length : Nat) : Int)) = false := decide_eq_false (by omega)
              simp only [ec]
              refine ⟨_, rfl, _, rfl, .inr ⟨_, rfl, _, rfl, .inr ⟨_, rfl, _, _, rfl, rfl, .inl (by decide), _, _, rfl, rfl, _, _, rfl, rfl, .inl (by decide), _, _, rfl, rfl, ?_⟩⟩⟩
              refine ⟨_, rfl, _, rfl, _, rfl, iteF ⟨sz (by simp), fun p14 hp14 => ?_⟩⟩
              have s14 := Same.upd (o := .tup [.str "deed", .str ""]) hp14
              refine ⟨.tuple [.str "deed", .str ""], .tuple [.str "deed", .str ""], .tup (SqT.of (s14 _ _ upd_same)) (.cons (.str _) (.cons (.str _) .nil)), .tup (SqT.of upd_same) (.cons (.str _) (.cons (.str _) .nil)), by decide +kernel, by decide +kernel, _, rfl, ite_f (by decide +kernel) ?_⟩
              have s15 := (Same.upd (o := .tup [.str "deed", .str ""]) hp13).trans s14
              exact ⟨q, at_, ms, _, _, _, _, _, _, _, _, sig14 (by simp), (S3.same s15).mono (by omega), hW3.same (core_up s15), hat, by omega, hall⟩
            · refine .inr ⟨by omega, fun H12 sb12 hk12 => hQ2 _ _ fun p13 hp13 => ?_⟩
              have S12 := S3.deed sb12 hk12
              have hW12 := hW3.same (core_mono (fun _ h => by simp at h; simp [h]) sb12)
              have ec : decide ((at_ : Int) + 1 < ((ms.length : Nat) : Int)) = true := decide_eq_true (by omega)
              simp only [ec]
              refine ⟨_, rfl, _, rfl, .inr ⟨_, rfl, _, rfl, .inr ⟨_, rfl, _, _, rfl, rfl, .inl (by decide), _, _, rfl, rfl, _, _, rfl, rfl, .inl (by decide), _, _, rfl, rfl, ?_⟩⟩⟩
              refine ⟨_, rfl, _, rfl, _, rfl, iteT ⟨sz (by simp), fun p14 hp14 => ?_⟩⟩
              have s14 := Same.upd (o := .tup [.str "told", .non]) hp14
              refine ⟨.tuple [.str "told", .none], .tuple [.str "told", .none], .tup (SqT.of (s14 _ _ upd_same)) (.cons (.str _) (.cons .non .nil)), .tup (SqT.of upd_same) (.cons (.str _) (.cons .non .nil)), by decide +kernel, by decide +kernel, _, rfl, ite_f (by decide +kernel) ?_⟩
              have s15 := (Same.upd (o := .tup [.str "told", .non]) hp13).trans s14
              exact ⟨q, at_ + 1, ms, _, _, _, _, _, _, _, _, sig14 (by simp), (S12.same s15).mono (by omega), hW12.same (core_up s15), by omega, by omega, hall⟩
        · refine ite_f (decide_eq_false (by omega)) ?_
          obtain ⟨ws, hq, hwp⟩ := id hW2
          have hwl : ws.length = ms.length := paired_len hwp
          have eM : ms[at_]? = some (ms.getD at_ []) := by rw [List.getD_eq_getElem?_getD, List.getElem?_eq_getElem hat]; rfl
          obtain ⟨wa, hwa, hwall⟩ := paired_at' hwp eM
          refine ⟨_, rfl, _, rfl, _, rfl, _, rfl, _, rfl, q, _, _, .ref wa, rfl, rfl, SqL.of (core_same _ _ hq), atN (by rw [List.getElem?_map, hwa]; rfl), _, rfl, a, kp, t, pa, wa, dw, 60 + 3 * i + 1, at_, ms, f, wd, n, R, rows, rfl, S2, hwall, ok, hn5, hat, by omega, hgood, hL3, by omega, by omega, fun H3 p done at2 ms2 hp hc3 S3 hno hyes => ?_⟩
          refine ⟨p, _, rfl, .inl (.inl hp), rfl, _, _, rfl, _, _, rfl, rfl, ?_⟩
          refine ⟨_, rfl, _, rfl, ite_f rfl ?_⟩
          have hW3 := hW2.same hc3
          cases done with
          | false =>
            obtain ⟨e1, e2⟩ := hno rfl
            subst e1
            subst e2
            refine ⟨_, rfl, _, rfl, ite_f rfl ?_⟩
            exact ⟨q, at2, ms2, _, _, _, _, _, _, _, _, rfl, S3.mono (by omega), hW3, hat, by omega, hall⟩
          | true =>
            obtain ⟨e1, M, rows2, e2, hGM, hM3⟩ := hyes rfl
            subst e1
            subst e2
            have hl : (ms.take (at_ + 1)).length = at_ + 1 := by rw [List.length_take]; omega
            have getM : (ms.take (at_ + 1) ++ [M]).getD (at_ + 1) [] = M ∧ at_ + 1 < (ms.take (at_ + 1) ++ [M]).length := by
              refine ⟨?_, by rw [List.length_append, hl]; simp⟩
              rw [List.getD_eq_getElem?_getD, List.getElem?_append_right (by omega), hl, Nat.sub_self]; rfl
            refine ⟨_, rfl, _, rfl, ite_t rfl ?_⟩
            obtain ⟨ws3, hq3, hwp3⟩ := id hW3
            have hwl3 : ws3.length = ms.length := paired_len hwp3
            refine ⟨_, rfl, _, rfl, _, _, rfl, rfl, _, rfl, q, _, rfl, SqL.of (core_same _ _ hq3), fun p5 hp5 => ?_⟩
            have ecut : cutV (rV ws3) none (some ((at_ : Int) + 1)) = rV (ws3.take (at_ + 1)) := by
              have := cut_take (rV ws3) (at_ + 1)
              rw [← List.map_take] at this
              exact this
            rw [ecut]
            have s5 := Same.upd (o := .lst (rV (ws3.take (at_ + 1)))) hp5
            have h5 : (upd H3 p5 (.lst (rV (ws3.take (at_ + 1))))) p5 = some (.lst (rV (ws3.take (at_ + 1)))) := upd_same
            generalize hH5' : upd H3 p5 (.lst (rV (ws3.take (at_ + 1)))) = H5' at s5 h5
            refine (S3.same s5).lotsN getM.2 (by rw [getM.1]; omega) getM.1 (fun H6' q6 s6' hq6 => ⟨sz (by simp), fun p7 hp7 => ?_⟩) rfl
            refine ⟨p5, p7, _, _, rfl, rfl, (s6'.trans (Same.upd hp7)) _ _ h5, upd_same, sz (by rw [List.length_map, List.length_take]; simp; omega), fun p8 hp8 => ?_⟩
            have e0 : rV (ws3.take (at_ + 1)) ++ [V.ref q6] = rV (ws3.take (at_ + 1) ++ [q6]) := (rV_snoc _ _).symm
            rw [e0]
            have s68 := (Same.upd (o := .lst [V.ref q6]) hp7).upd' (o := .lst (rV (ws3.take (at_ + 1) ++ [q6]))) hp8
            have s38 := (s5.trans s6').trans s68
            have hp8n := fresh_ (((S3.same s5).same s6').same (Same.upd (o := .lst [V.ref q6]) hp7)) hp8
            refine ⟨_, rfl, _, _, rfl, rfl, _, _, rfl, ?_⟩
            refine ⟨p8, at_ + 1, ms.take (at_ + 1) ++ [M], _, _, _, _, _, _, _, _, sig14 (by omega), (S3.same s38).mono (by omega), ⟨_, core_at upd_same hp8n (fun _ => by simp), ?_⟩, getM.2, by rw [List.length_append, hl]; simp; omega, fun L hL => ?_⟩
            · exact paired_append (paired_take (paired_mono (fun _ _ z => z.same (core_up s38)) hwp3) (at_ + 1)) (.cons (hq6.same (core_up s68)) .nil)
            · rcases List.mem_append.mp hL with hL | hL
              · exact hall L (List.mem_of_mem_take hL)
              · rw [List.mem_singleton.mp hL]; exact ⟨hM3, rows2, hGM⟩
      · rintro σ2 Hd ⟨q2, at2, ms2, u6, u7, u8, u9, u10, u11, u12, u13, rfl, S3, hW3, hat3, hml3, hall3⟩
        have hLm3 : ms2.getD at2 [] ∈ ms2 := by rw [List.getD_eq_getElem?_getD, List.getElem?_eq_getElem hat3]; exact List.getElem_mem _
        obtain ⟨hL3', rows', hgood'⟩ := hall3 _ hLm3
        have h100' : (ms2.getD at2 []).length ≤ 100 := by omega
        obtain ⟨L, hLe⟩ : ∃ L, ms2.getD at2 [] = L := ⟨_, rfl⟩
        rw [hLe] at hL3' hgood'
        obtain ⟨dx', am', mas', hk3, hkrest⟩ := id S3.keepAt
        refine ⟨_, rfl, kp, _, _, rfl, hk3, rfl, kp, t, at2, ms2, rfl, S3.keepAt, hat3, h100', fun H6' q6 qs6 nl6 => ⟨q6, rfl, ⟨_, SqL.of nl6.at_⟩, ?_⟩⟩
        rw [hLe] at nl6
        have hq6l : qs6.length = L.length := paired_len nl6.lots
        have hq6n : q6 ∉ qs6 := fun hm => by
          obtain ⟨z, hz⟩ := List.getElem?_of_mem hm
          obtain ⟨lot, hlot, hll⟩ := paired_at nl6.lots hz
          rw [nl6.at_] at hll
          have e := HO.lst.inj (Option.some.inj hll)
          cases qs6 with
          | nil => cases hm
          | cons y ys =>
            cases lot with
            | nil => cases e
            | cons u us => injection e with e1 e2; cases e1
        refine for_it (jo_list (SqL.of (sub_at (as := [q6]) nl6.at_ List.mem_cons_self))) (fun j σ H' => ∃ (w13 : Option V), σ = [some (.ref sc), some (.ref a), some (.ref pa), some (.ref kp), some (.ref q2), some (.int (at2 : Int)), u6, u7, u8, u9, u10, u11, u12, w13] ∧ SameBut qs6 H6' H' ∧ ∀ (z : Nat) (l : Addr) (lot : List Nat), j ≤ z → qs6[z]? = some l → L[z]? = some lot → H' l = some (.lst (nV lot)))
          ⟨_, rfl, SameBut.of (Same.refl _), fun z l lot _ h1 h2 => ?_⟩ (fun j σ H' _ ⟨_, _, sb, _⟩ => sub_same fun x hx => by rw [List.mem_singleton.mp hx, nl6.at_]; exact sb _ _ nl6.at_ hq6n) ?_ ?_
        · obtain ⟨lot', h2', e⟩ := paired_at nl6.lots h1
          rw [h2] at h2'; cases h2'
          exact e
        · rintro j v σ He Hf hj ⟨w13, rfl, sbe, hle⟩ sef hv
          obtain ⟨l, hl, rfl⟩ := at_map hv
          obtain ⟨lot, hlot, _⟩ := paired_at nl6.lots hl
          have hlf := sef _ _ (hle j l lot (Nat.le_refl _) hl hlot)
          have hlen := hgood'.small (List.mem_of_getElem? hlot)
          refine ⟨_, rfl, .inl ⟨rfl, _, SqL.of hlf⟩, l, _, _, rfl, rfl, hlf, szl (by rw [nV_len]; omega), ?_⟩
          refine ⟨_, rfl, (sbe.trans (SameBut.of sef)).upd (.inl (List.mem_of_getElem? hl)), fun z l2 lot2 hz h1 h2 => ?_⟩
          have hne : l2 ≠ l := fun e => by
            have hjl := (List.getElem?_eq_some_iff.mp hl)
            have hzl := (List.getElem?_eq_some_iff.mp h1)
            obtain ⟨b1, c1⟩ := hjl
            obtain ⟨b2, c2⟩ := hzl
            exact List.pairwise_iff_getElem.mp nl6.nd j z b1 b2 (by omega) (by rw [c1, c2, e])
          rw [upd_ne hne]
          exact sef _ _ (hle z l2 lot2 (by omega) h1 h2)
        · rintro σ He ⟨w13, rfl, sbe, hle⟩
          have s3e : Same Hd He := SameBut.freshL nl6.sm nl6.news sbe
          have S4 := S3.same s3e
          have hW4 := hW3.same (core_up s3e)
          obtain ⟨ws4, hq4, hwp4⟩ := id hW4
          have eM : ms2[at2]? = some L := by rw [← hLe, List.getD_eq_getElem?_getD, List.getElem?_eq_getElem hat3]; rfl
          obtain ⟨wa, hwa, hwall⟩ := paired_at' hwp4 eM
          refine S4.lots hat3 h100' hLe (fun H8' q8 s8' hq8 => ?_) rfl
          refine ⟨_, rfl, _, rfl, q2, _, _, .ref wa, rfl, rfl, SqL.of (s8' _ _ (core_same _ _ hq4)), atN (by rw [List.getElem?_map, hwa]; rfl), _, _, ll_at hq8, ll_at ((hwall.same core_same).same s8'), toD_shaped _, toD_shaped _, _, rfl, ?_⟩
          rw [PySem.W.Datum.eqv, decide_eq_true rfl]
          refine ite_f rfl ?_
          have S5 := S4.same s8'
          obtain ⟨dx5, am5, mas5, hk5, hkrest5⟩ := id S5.keepAt
          refine ⟨_, rfl, kp, _, _, rfl, hk5, kp, _, _, .ref t, rfl, hk5, rfl, ?_⟩
          refine ⟨_, rfl, pa, f, wd, n, R, rfl, S5.partsAt, ok, fun H9' t9 s9' ht9 hrows9 => ?_⟩
          have S6 := S5.same s9'
          obtain ⟨dr, rr, rrs, hr1, hr2, hr3⟩ := id S6.rowsAt
          obtain ⟨dr', rr', rrs', hr1', hr2', hr3'⟩ := id hrows9
          refine ⟨⟨t, t9, _, _, _, _, rfl, rfl, hr1, hr1', f, wd, _, S6.rowsAt, hrows9⟩, fun H10' (e10' : Same _ H10') => ⟨_, rfl, ite_f rfl ?_⟩⟩
          have s4f := (s8'.trans s9').trans e10'
          exact ⟨q2, at2, ms2, _, _, _, _, _, _, _, _, rfl, S4.same s4f, hW4.same (core_up s4f), hat3, hml3, hall3⟩
    · rintro σ Ha ⟨q, at_, ms, v6, v7, v8, v9, v10, v11, v12, v13, rfl, S, hW, hat, hml, hall⟩
      exact k Ha
end
end KW
end
section
set_option Elab.async false
set_option linter.all false
set_option maxRecDepth 100000
set_option maxHeartbeats 0
/-! What the head tells. -/
namespace KW
open PySem PySem.Spec PyProof.Rows L2
open PySem.W (Frag)
/-! ### functions found by a path: getters, the errors' makers -/
structure PathD where
  at_ : Frag → Addr
  name : Str
  qual : Str
  st : Stmt
  cl : List Str
abbrev FnP : Type := Option (Str × Str × Arguments × FuncBody × Scope × Addr × List Str × Addr)
def fnP (K : Frag) (a : Addr) : FnP := match K.lookup a with
  | some ⟨_, _, .func fd, _⟩ => some (fd.name, fd.qualname, fd.params, fd.body, fd.scope, fd.globals, fd.closure.map (·.1), fd.builtins)
  | _ => none
def PathD.val (d : PathD) : FnP := some (d.name, d.qual, defArgs d.st, .stmts (defBody d.st), defScope d.st, mainGlobals, d.cl, builtinsNs)
/-- it has no defaults; its code object tells its name -/
def plainB (K : Frag) (a : Addr) (q : Str) : Bool := match K.lookup a with
  | some ⟨_, _, .func fd, _⟩ => decide (fd.defaults = .none) && (decide (fd.kwdefaults = .none) && PySem.W.codeIn K fd.code q)
  | _ => false
theorem fnP_ok {K : Frag} {d : PathD} (e : fnP K (d.at_ K) = d.val) (c : plainB K (d.at_ K) d.qual = true) :
    ∃ oc od osl doc pm an cda ct cl, K.lookup (d.at_ K) = some ⟨oc, od, .func (PySem.W.fnX d.name d.qual (defArgs d.st) (defBody d.st) (defScope d.st) cl .none .none doc pm an (.ref cda) ct), osl⟩ ∧ PySem.W.codeIn K (.ref cda) d.qual = true ∧ cl.map (·.1) = d.cl := by
  unfold plainB at c
  unfold fnP at e
  cases q : K.lookup (d.at_ K) with
  | none => rw [q] at c; cases c
  | some o =>
    obtain ⟨oc, od, dt, osl⟩ := o
    rw [q] at c e
    cases dt with
    | func fd =>
      obtain ⟨n1, n2, n3, n4, n5, n6, n7, n8, n9, n10, n11, n12, n13, n14, n15⟩ := fd
      have e2 : (some (n1, n2, n3, n4, n5, n6, n7.map (·.1), n15) : FnP) = some (d.name, d.qual, defArgs d.st, .stmts (defBody d.st), defScope d.st, mainGlobals, d.cl, builtinsNs) := e
      simp only [Option.some.injEq, Prod.mk.injEq] at e2
      obtain ⟨h1, h2, h3, h4, h5, h6, h7, h8⟩ := e2
      obtain ⟨c1, c2⟩ := He.ba (show (decide (n8 = .none) && (decide (n9 = .none) && PySem.W.codeIn K n13 d.qual)) = true from c)
      obtain ⟨c3, c4⟩ := He.ba c2
      have c1 := of_decide_eq_true c1
      have c3 := of_decide_eq_true c3
      obtain ⟨cda, rfl⟩ := He.codeIn_ref c4
      subst h1 h2 h3 h4 h5 h6 h8 c1 c3
      exact ⟨oc, od, osl, n10, n11, n12, cda, n14, n7, rfl, c4, h7⟩
    | _ => cases c
/-- a property's getter -/
def propG (C f : Str) (K : Frag) : Addr := match PySem.W.recIn K (He.ma K (He.ga K C) f) "property" with
  | some (.ref g :: _) => g
  | _ => 0
abbrev erI (C : Str) (K : Frag) : Addr := He.ma K (He.ga K C) "__init__"
def g_field : PathD := ⟨propG "Rows" "field", "field", "Rows.field", s_Rows_field, []⟩
def g_table : PathD := ⟨propG "Keeper" "table", "table", "Keeper.table", s_Keeper_table, []⟩
def i_count : PathD := ⟨erI "BadCount", "__init__", "BadCount.__init__", s_BadCount, ["__class__"]⟩
def i_many : PathD := ⟨erI "TooMany", "__init__", "TooMany.__init__", s_TooMany, ["__class__"]⟩
def i_row : PathD := ⟨erI "NoRow", "__init__", "NoRow.__init__", s_NoRow, ["__class__"]⟩
def i_deed : PathD := ⟨erI "NoDeed", "__init__", "NoDeed.__init__", s_NoDeed, ["__class__"]⟩
def pths : List PathD := [g_field, g_table, i_count, i_many, i_row, i_deed]
/-! ### the facts, each a Bool -/
def propB (K : Frag) (C f : Str) (d : PathD) : Bool := He.eqO (PySem.W.findIn K (.ref (He.ga K C)) f) (some (some (.ref (He.ma K (He.ga K C) f)))) &&
  (He.eqO (PySem.W.specialIn K (.ref (He.ma K (He.ga K C) f)) "__get__") (some (some (.builtin "property.__get__"))) && (decide (PySem.W.takesIn K (.ref (He.ma K (He.ga K C) f)) = some true) &&
    ((match PySem.W.recIn K (He.ma K (He.ga K C) f) "property" with | some (.ref _ :: _) => true | _ => false) && (PySem.W.keepIn K (.ref (propG C f K)) && plainB K (propG C f K) d.qual))))
theorem propB_ok {K : Frag} {C f : Str} {d : PathD} (e0 : d.at_ K = propG C f K) (hc : d.cl = []) (e : fnP K (d.at_ K) = d.val) (h : propB K C f d = true) :
    ∃ p g fd, PropOf K (He.ga K C) f p g ∧ FunD K d.name d.qual (defArgs d.st) (defBody d.st) (defScope d.st) [] [] g fd := by
  obtain ⟨h1, h⟩ := He.ba h
  obtain ⟨h2, h⟩ := He.ba h
  obtain ⟨h3, h⟩ := He.ba h
  obtain ⟨h4, h⟩ := He.ba h
  obtain ⟨h5, h6⟩ := He.ba h
  rw [← e0] at h6
  obtain ⟨oc, od, osl, doc, pm, an, cda, ct, cl, lk, hcd, hcl⟩ := fnP_ok e h6
  rw [hc, List.map_eq_nil_iff] at hcl
  subst hcl
  refine ⟨He.ma K (He.ga K C) f, propG C f K, _, ⟨He.eqO_ok h1, He.eqO_ok h2, of_decide_eq_true h3, ?_⟩, ⟨⟨oc, od, .none, .none, doc, pm, an, .ref cda, ct, osl, rfl, ?_, hcd, .inl ⟨rfl, rfl⟩, .inl rfl⟩, h5⟩⟩
  · unfold propG
    cases q : PySem.W.recIn K (He.ma K (He.ga K C) f) "property" with
    | none => rw [q] at h4; cases h4
    | some l =>
      rw [q] at h4
      cases l with
      | nil => cases h4
      | cons v r =>
        cases v with
        | ref g => exact ⟨r, rfl⟩
        | _ => cases h4
  · rw [← e0]
    exact lk
def clsB (K : Frag) (C : Addr) : Bool := match K.lookup C with
  | some ⟨.type n, _, .cls cd, sl⟩ => decide (n = "type") && (match cd.mro, sl.toList with
    | .ref D :: bm, [_, _, _, _, some (.builtin m), _] => decide (D = C) && (decide (m = "ValueError.__new__") && (!cd.hasDel && (cd.hasDict && (PySem.HandSPX.refsVE bm && He.eqO (PySem.W.alongIn K "__init__" bm) (some (some (.builtin "ValueError.__init__")))))))
    | _, _ => false)
  | _ => false
theorem clsB_ok {K : Frag} {C : Addr} (h : clsB K C = true) : ∃ nm' q N bs bm sn sub ab col dd k0 k1 k2 k3 k5, K.lookup C = some (excClassObj nm' q C N bs bm true sn sub ab col dd k0 k1 k2 k3 k5 "ValueError.__new__") ∧ PySem.HandSPX.refsVE bm = true ∧ PySem.W.alongIn K "__init__" bm = some (some (.builtin "ValueError.__init__")) := by
  unfold clsB at h
  split at h
  · rename_i n dd cd sl ho
    obtain ⟨h1, h2⟩ := He.ba h
    have h1 := of_decide_eq_true h1
    subst h1
    split at h2
    · rename_i D bm k0 k1 k2 k3 m k5 hm hs
      obtain ⟨a1, h2⟩ := He.ba h2
      obtain ⟨a2, h2⟩ := He.ba h2
      obtain ⟨a3, h2⟩ := He.ba h2
      obtain ⟨a4, h2⟩ := He.ba h2
      obtain ⟨a5, a6⟩ := He.ba h2
      have a1 := of_decide_eq_true a1
      have a2 := of_decide_eq_true a2
      obtain ⟨nm, bs, mro, ns, qn, hd, sn, sub, ab, col, del⟩ := cd
      dsimp only at hm a3 a4
      have a3 : del = false := by cases del with
        | false => rfl
        | true => cases a3
      subst a1 a2 a3 a4 hm
      have hsl : sl = #[k0, k1, k2, k3, some (.builtin "ValueError.__new__"), k5] := by
        obtain ⟨l⟩ := sl
        simp only at hs
        rw [hs]
      subst hsl
      exact ⟨_, _, _, _, _, _, _, _, _, _, _, _, _, _, _, ho, a5, He.eqO_ok a6⟩
    · cases h2
  · cases h
/-- its maker: the code object's file, the cell -/
def makB (K : Frag) (file : Str) (C fI : Addr) : Bool := match K.lookup fI with
  | some ⟨_, _, .func fd, _⟩ => (match fd.code with
    | .ref cda => (match K.lookup cda with
      | some ⟨_, _, .fields vs, _⟩ => (match (vs[2]? : Option Value) with
        | some (.str fl _) => file == fl
        | _ => false)
      | _ => false)
    | _ => false) && (match fd.closure with
    | (_, cc) :: _ => (match K.lookup cc with
      | some ⟨_, _, .cell (some (.ref D)), _⟩ => decide (D = C)
      | _ => false)
    | _ => false)
  | _ => false
theorem makB_ok {K : Frag} {file : Str} {C fI : Addr} {d : PathD} (e0 : d.at_ K = fI) (hc : d.cl = [("__class__" : Str)]) (e : fnP K (d.at_ K) = d.val) (h : makB K file C fI = true) (c : plainB K (d.at_ K) d.qual = true) : ∃ (oc : Value) (od : Option Addr) (doc pm : Value) (an : Option Addr) (cda : Addr) (ct : Value) (osl : Array (Option Value)) (cc : Addr) (qual : Str) (vs : Array Value) (fl : Str) (tf : Tok) (ccl : Value) (cdd : Option Addr) (ccs : Array (Option Value)) (cl : Value) (cld : Option Addr) (csl : Array (Option Value)),
    K.lookup fI = some ⟨oc, od, .func (PySem.W.ksFn d.name qual (defArgs d.st) (defBody d.st) (defScope d.st) .none .none doc pm an (.ref cda) ct cc), osl⟩ ∧ PySem.W.codeIn K (.ref cda) qual = true ∧ K.lookup cda = some ⟨ccl, cdd, .fields vs, ccs⟩ ∧
      vs[2]? = some (.str fl tf) ∧ (file == fl) = true ∧ K.lookup cc = some ⟨cl, cld, .cell (some (.ref C)), csl⟩ := by
  obtain ⟨oc, od, osl, doc, pm, an, cda, ct, cl, lk, hcd, hcl⟩ := fnP_ok e c
  rw [e0] at lk
  rw [hc] at hcl
  obtain ⟨cc, rfl⟩ : ∃ cc, cl = [(("__class__" : Str), cc)] := by
    match cl, hcl with
    | [(x, cc)], hcl =>
      have : x = ("__class__" : Str) := by injection hcl
      rw [this]
      exact ⟨cc, rfl⟩
  unfold makB at h
  rw [lk] at h
  obtain ⟨h1, h2⟩ := He.ba h
  dsimp only at h1 h2
  split at h1
  · rename_i ccl cdd vs ccs ho
    split at h1
    · rename_i fl tf hf
      split at h2
      · rename_i cl cld D csl hcc
        have h2 := of_decide_eq_true h2
        subst h2
        exact ⟨oc, od, doc, pm, an, cda, ct, osl, cc, d.qual, vs, fl, tf, ccl, cdd, ccs, cl, cld, csl, lk, hcd, ho, hf, h1, hcc⟩
      · cases h2
    · cases h1
  · cases h1
/-- an own error's class -/
def errB (K : Frag) (file : Str) (nm f : Str) (d : PathD) : Bool := clsB K (He.ga K nm) && (He.eqO (PySem.W.findIn K (.ref (He.ga K nm)) "__setattr__") (some (some (.builtin "object.__setattr__"))) && (xfB K (He.ga K nm) &&
  (He.eqO (PySem.W.findIn K (.ref (He.ga K nm)) "__init__") (some (some (.ref (erI nm K)))) && (decide (PySem.W.typeIn K (.ref (erI nm K)) = some (.type "function")) && (PySem.W.keepIn K (.ref (He.ga K nm)) && (decide (PySem.W.typeIn K (.ref (He.ga K nm)) = some (.type "type")) &&
    (decide (PySem.W.subIn K (.ref (He.ga K nm)) (.type "ValueError") = some true) && (decide (PySem.W.mroIn K (He.ga K nm) (.ref (He.ga K nm)) = some true) && (He.eqO (PySem.W.findIn K (.ref (He.ga K nm)) f) (some none) && (makB K file (He.ga K nm) (erI nm K) && plainB K (erI nm K) d.qual))))))))))
theorem errB_ok {P : Program} {K : Frag} {mg : Str → Option Value} {nm f : Str} {d : PathD} (T : Txt K mg) (hP : (P.main.scope.names.lookup ("super" : Str)).isSome = false) (hany : PySem.W.nsIn K cStatics "thirdparty.any" = some none) (gC : mg nm = some (.ref (He.ga K nm)))
    (e0 : d.at_ K = erI nm K) (hc : d.cl = [("__class__" : Str)]) (hn : d.name = "__init__") (e : fnP K (d.at_ K) = d.val) (h : errB K P.main.file nm f d = true) : ErrD P K mg nm f d.st := by
  obtain ⟨h1, h⟩ := He.ba h
  obtain ⟨h2, h⟩ := He.ba h
  obtain ⟨h3, h⟩ := He.ba h
  obtain ⟨h4, h⟩ := He.ba h
  obtain ⟨h5, h⟩ := He.ba h
  obtain ⟨h6, h⟩ := He.ba h
  obtain ⟨h7, h⟩ := He.ba h
  obtain ⟨h8, h⟩ := He.ba h
  obtain ⟨h9, h⟩ := He.ba h
  obtain ⟨h10, h⟩ := He.ba h
  obtain ⟨h11, h12⟩ := He.ba h
  have hm := makB_ok e0 hc e h11 (by rw [e0]; exact h12)
  rw [hn] at hm
  exact ⟨⟨gC, clsB_ok h1, He.eqO_ok h2, xfB_ok h3, He.eqO_ok h4, of_decide_eq_true h5, h6, of_decide_eq_true h7, of_decide_eq_true h8, of_decide_eq_true h9, T.f_super, hany, hP, hm⟩, He.eqO_ok h10⟩
def insB (K : Frag) (C : Str) : Bool := (He.Fa.cls C).ok K && (He.eqO (PySem.W.findIn K (.ref (He.ga K C)) "__class__") (some (some (.builtin "object.__class__"))) && (He.eqO (PySem.W.specialIn K (.builtin "object.__class__") "__get__") (some (some (.builtin "getset_descriptor.__get__"))) &&
  (decide (PySem.W.takesIn K (.builtin "object.__class__") = some true) && (decide (PySem.W.mroIn K (He.ga K C) (.type "object") = some true) && decide (PySem.W.kitOne K (.ref (He.ga K C)) (.ref (He.ga K C)) = some true)))))
theorem insB_ok {K : Frag} {C : Str} (h : insB K C = true) : C8.InsC K (He.ga K C) := by
  obtain ⟨h1, h⟩ := He.ba h
  obtain ⟨h2, h⟩ := He.ba h
  obtain ⟨h3, h⟩ := He.ba h
  obtain ⟨h4, h⟩ := He.ba h
  obtain ⟨h5, h6⟩ := He.ba h
  exact ⟨He.cls_ok h1, He.eqO_ok h2, He.eqO_ok h3, of_decide_eq_true h4, of_decide_eq_true h5, of_decide_eq_true h6⟩
abbrev tfs : List He.Defn := [("_law_deed", none), ("law", none)]
abbrev Prow : Program := PySem.Challenge.rw_freelots_k13_whole_keepers.prog
/-- all that is told besides -/
def exB (K : Frag) : Bool := He.tupB K "FIELDS" [.int 0, .int 2, .int 3, .int 5, .int 7, .int 11, .int 13] && (propB K "Rows" "field" g_field && (propB K "Keeper" "table" g_table &&
  (errB K Prow.main.file "BadCount" "count" i_count && (errB K Prow.main.file "TooMany" "lot" i_many && (errB K Prow.main.file "NoRow" "row" i_row && (errB K Prow.main.file "NoDeed" "nothing" i_deed &&
    (insB K "Rows" && ((He.Fa.meth "Rows" "__len__").ok K && ((He.Fa.meth "Rows" "__eq__").ok K && (He.eqO (PySem.W.findIn K (.ref (He.ga K "Rows")) "__ne__") (some (some (.builtin "object.__ne__"))) &&
      (He.eqO (PySem.W.nsIn K cStatics "thirdparty.any") (some none) && !decide ((He.cT K ("_law_deed", none)).2 = (He.cT K ("law", none)).2))))))))))))
theorem pth {K : Frag} (h : pths.map (fun d => fnP K (d.at_ K)) = pths.map PathD.val) {d : PathD} (hd : d ∈ pths) : fnP K (d.at_ K) = d.val := by
  obtain ⟨i, hi, e⟩ := List.mem_iff_getElem.mp hd
  have e2 : (pths.map fun d => fnP K (d.at_ K))[i]? = (pths.map PathD.val)[i]? := by rw [h]
  rw [List.getElem?_map, List.getElem?_map, List.getElem?_eq_getElem hi, e] at e2
  exact Option.some.inj e2
theorem txt2_of {K : Frag} {mg : Str → Option Value} (T : Txt K mg) (hp : pths.map (fun d => fnP K (d.at_ K)) = pths.map PathD.val) (h : exB K = true) : Txt2 Prow K mg ∧ (He.cT K ("_law_deed", none)).2 ≠ (He.cT K ("law", none)).2 := by
  obtain ⟨h1, h⟩ := He.ba h
  obtain ⟨h2, h⟩ := He.ba h
  obtain ⟨h3, h⟩ := He.ba h
  obtain ⟨h4, h⟩ := He.ba h
  obtain ⟨h5, h⟩ := He.ba h
  obtain ⟨h6, h⟩ := He.ba h
  obtain ⟨h7, h⟩ := He.ba h
  obtain ⟨h8, h⟩ := He.ba h
  obtain ⟨h9, h⟩ := He.ba h
  obtain ⟨h10, h⟩ := He.ba h
  obtain ⟨h11, h⟩ := He.ba h
  obtain ⟨h12, h13⟩ := He.ba h
  have hany := He.eqO_ok h12
  have hP : (Prow.main.scope.names.lookup ("super" : Str)).isSome = false := by decide +kernel
  refine ⟨⟨T, ?_, propB_ok (d := g_field) rfl rfl (pth hp (by simp [pths])) h2, propB_ok (d := g_table) rfl rfl (pth hp (by simp [pths])) h3, errB_ok (d := i_count) T hP hany T.g_BadCount rfl rfl rfl (pth hp (by simp [pths])) h4, errB_ok (d := i_many) T hP hany T.g_TooMany rfl rfl rfl (pth hp (by simp [pths])) h5, errB_ok (d := i_row) T hP hany T.g_NoRow rfl rfl rfl (pth hp (by simp [pths])) h6, errB_ok (d := i_deed) T hP hany T.g_NoDeed rfl rfl rfl (pth hp (by simp [pths])) h7, insB_ok h8, He.meth_ok h9, He.meth_ok h10, He.eqO_ok h11⟩, ?_⟩
  · rcases He.tupB_ok h1 (fun _ => none) with z | z
    · rcases z with z | ⟨o, z⟩
      · cases z
      · cases z
    · exact z
  · intro q
    rw [decide_eq_true q] at h13
    cases h13
/-! ### the hook -/
abbrev AlY : Type := He.AlD × List FnP × Bool
abbrev frY (n : Nat) (g : Addr → Option Obj) : Frag := He.frT g (cStatics :: He.asD g n)
def obsK (K : Frag) (b : Bool) : AlY := (He.obsD fa fn K, pths.map (fun d => fnP K (d.at_ K)), exB K && b)
def obsY (n : Nat) (g : Addr → Option Obj) : AlY := obsK (frY n g) (He.tabsB g tfs (frY n g))
def valY : AlY := (He.valD fn, pths.map PathD.val, true)
structure SaysY (h : Heap) (K : Frag) : Prop where
  d : He.SaysD fa fn K
  p : pths.map (fun d => fnP K (d.at_ K)) = pths.map PathD.val
  more : exB K = true
  hd : ∀ p ∈ tfs, PySem.W.codeHdIn K (He.cT K p).1 (He.cT K p).2 = true
  out : ∀ p ∈ tfs, K.lookup (He.cT K p).2 = none
  empty : ∀ p ∈ tfs, h.get? (He.cT K p).2 = some { cls := .none, data := .fields #[] }
theorem saysY_of {n : Nat} {h : Heap} (e : obsY n h.get? = valY) : SaysY h (frY n h.get?) := by
  have e1 : He.obsD fa fn (frY n h.get?) = He.valD fn := congrArg (fun z : AlY => z.1) e
  have e2 : pths.map (fun d => fnP (frY n h.get?) (d.at_ (frY n h.get?))) = pths.map PathD.val := congrArg (fun z : AlY => z.2.1) e
  have e3 : (exB (frY n h.get?) && He.tabsB h.get? tfs (frY n h.get?)) = true := congrArg (fun z : AlY => z.2.2) e
  obtain ⟨h1, h2⟩ := He.ba e3
  have key : ∀ p ∈ tfs, PySem.W.codeHdIn (frY n h.get?) (He.cT (frY n h.get?) p).1 (He.cT (frY n h.get?) p).2 = true ∧ ∃ o, h.get? (He.cT (frY n h.get?) p).2 = some o ∧ He.emptyTab o = true := fun p hp => by
    obtain ⟨h3, h4⟩ := He.ba (List.all_eq_true.mp h2 p hp)
    refine ⟨h3, ?_⟩
    cases q : h.get? (He.cT (frY n h.get?) p).2 with
    | none => rw [q] at h4; cases h4
    | some o => rw [q] at h4; exact ⟨o, rfl, h4⟩
  refine ⟨e1, e2, h1, fun p hp => (key p hp).1, fun p hp => ?_, fun p hp => ?_⟩
  · obtain ⟨_, o, q, z⟩ := key p hp
    exact He.frT_none q z
  · obtain ⟨_, o, q, z⟩ := key p hp
    rw [q, He.emptyTab_eq z]
def hookY (n : Nat) : PySem.W.Hook where
  α := AlY
  obs := fun s => obsY n s.heap.get?
  val := fun _ => valY
  says := fun _ h => ∃ K : Frag, K.In h ∧ SaysY h K
  of := fun _ _ e => ⟨_, He.frT_in, saysY_of e⟩
  keeps := fun _ _ _ ⟨K, hK, c⟩ k => ⟨K, PySem.W.Frag.In.keeps hK k, ⟨c.d, c.p, c.more, c.hd, c.out, fun p hp => k _ _ (c.empty p hp)⟩⟩
theorem obsY_eq {n : Nat} {g : Addr → Option Obj} {s : Shared} (h : ∀ a, g a = s.heap.get? a) : obsY n g = (hookY n).obs s := by
  have e : g = s.heap.get? := funext h
  rw [e] <;> rfl
theorem SaysY.txt {h : Heap} {K : Frag} {mg : Str → Option Value} (c : SaysY h K) (X : K.In h) (G : h.Ns mainGlobals mg) : Txt2 Prow K mg ∧ (He.cT K ("_law_deed", none)).2 ≠ (He.cT K ("law", none)).2 :=
  txt2_of ⟨c.d, fun _ _ e => PySem.W.mg_of X G e, fun _ e => PySem.W.mg_none_of X G e⟩ c.p c.more
end KW
end
section
set_option Elab.async false
set_option linter.all false
set_option maxRecDepth 100000
set_option maxHeartbeats 0
/-! The top, run. -/
namespace KW
open PySem PySem.Spec PyProof.Rows L2
abbrev RR : PySem.W.OpenRow := PySem.W.OpenLaw.row PySem.Challenge.rw_freelots_k13_whole_keepers
abbrev hkR : PySem.W.Hook := hookY 5
def obR (s : PySem.W.SharedT) : AlY := obsY 5 (HandSHeadRun.getT s)
theorem obR_eq (s : PySem.W.SharedT) : obR s = hkR.obs s.abs := obsY_eq (HandSHeadRun.getT_eq s)
def looseA : List Str := ["_wall", "__name__", "LotError", "BadField", "BadRows", "BadCount", "TooMany", "NoRow", "NoDeed", "FIELDS", "MOST_LOTS", "MOST_ROWS", "MOST_WIDTH", "is_list", "is_integer", "is_below", "is_count", "greatest_divisor", "leaned", "Places", "is_row", "width_of", "Base", "Rows", "check_count", "Keeper"]
def looseB : List Str := ["_law_source", "_law_draw", "_law_pick", "_law_field", "_law_rows", "_law_made", "_law_rank", "_law_rank_of", "_law_is_lot", "_law_is_many", "_law_tried", "_law_all_lots", "_law_seats", "_law_changed", "_law_are_right", "_law_is_shown", "_law_come_right", "_law_next_lots", "_law_less_right", "_law_deed"]
def looseR : List Str := looseA ++ looseB
theorem runR (w : World) : HandSHeadRun.RunEq RR (PySem.W.view RR.prog [52]) hkR obR 20000 looseR w := by
  intro os
  kernel_rfl
end KW
end
section
set_option Elab.async false
set_option linter.all false
set_option maxRecDepth 100000
set_option maxHeartbeats 4000000
/-! The end: the law's call, from the head's heap. -/
namespace KW
open PySem PySem.Spec PyProof.Rows L2
open PySem.W (Frag)
section
variable {h : Heap} {H : Hp}
/-- only lists and empty tables are tracked -/
def Few (H : Hp) (h : Heap) : Prop := ∀ b, H b ≠ none → ∃ o, h.get? b = some o ∧ (o.data = .fields #[] ∨ ∃ z n, o.data = .seq z n)
theorem Few.stay (F : Few H h) {b : Addr} {o : Obj} (e : h.get? b = some o) (n1 : o.data ≠ .fields #[]) (n2 : ∀ z n, o.data ≠ .seq z n) : (hidT h H).get? b = some o := by
  refine hidT_get e (Classical.byContradiction fun q => ?_)
  obtain ⟨o', e', z⟩ := F b q
  have : o' = o := Option.some.inj (e'.symm.trans e)
  subst this
  rcases z with z | ⟨x, n, z⟩
  · exact n1 z
  · exact n2 _ _ z
theorem Few.map (F : Few H h) {b : Addr} {m : Str → Option Value} (g : h.Ns b m) : (hidT h H).Ns b m := by
  obtain ⟨o, es, ep, e, d, r⟩ := g
  refine ⟨o, es, ep, F.stay e ?_ ?_, d, r⟩
  · rw [d]; intro z; cases z
  · intro x n; rw [d]; intro z; cases z
end
/-- what is tracked at the start: two tables, the script -/
def start2 (p q a : Addr) (t : Option HO) : Hp := fun b => if b = p then some (.tbl #[]) else if b = q then some (.tbl #[]) else if b = a then t else none
section
variable {p q a : Addr} {t : Option HO}
theorem start2_p : start2 p q a t p = some (.tbl #[]) := by simp [start2]
theorem start2_q : start2 p q a t q = some (.tbl #[]) := by simp [start2]
theorem start2_a (h1 : a ≠ p) (h2 : a ≠ q) : start2 p q a t a = t := by simp [start2, h1, h2]
theorem start2_of {b : Addr} {o : HO} (e : start2 p q a t b = some o) : (b = p ∧ o = .tbl #[]) ∨ (b = q ∧ o = .tbl #[]) ∨ (b = a ∧ t = some o) := by
  unfold start2 at e
  split at e
  · exact .inl ⟨by assumption, (Option.some.inj e).symm⟩
  · split at e
    · exact .inr (.inl ⟨by assumption, (Option.some.inj e).symm⟩)
    · split at e
      · exact .inr (.inr ⟨by assumption, e⟩)
      · cases e
end
theorem tab0 {H : Hp} {p : Addr} {q : Str} (e : H p = some (.tbl #[])) : LamX.TabS H p q := ⟨#[], e, trivial, fun _ _ z => by cases z⟩
theorem empty_ne {s : Shared} {b p : Addr} {o : Obj} (e : s.heap.get? b = some o) (hp : s.heap.get? p = some { cls := .none, data := .fields #[] }) (n : o.data ≠ .fields #[]) : b ≠ p := by
  intro z
  rw [z, hp] at e
  exact n (by rw [← Option.some.inj e])
abbrev pD (K : Frag) : Addr := (He.cT K ("_law_deed", none)).2
abbrev pL (K : Frag) : Addr := (He.cT K ("law", none)).2
theorem law_end {w : World} {K : Frag} {mg mb : Str → Option Value} {fa a : Addr} {s : Shared} {vs : List Value} {ns : List Int} (X : K.In s.heap) (Y : SaysY s.heap K) (g : s.heap.Ns mainGlobals mg) (gb : s.heap.Ns builtinsNs mb) (hbb : ∀ x : Str, x ≠ "__name__" → mb x = bootBuiltins x) (hlim : s.heap.NoLimit) (hg : s.gens = #[])
    (hbm : ∃ (bm : Addr) (ob : Obj), mg "__builtins__" = some (.ref bm) ∧ bm ≠ builtinsNs ∧ s.heap.get? bm = some ob ∧ ob.cls = .type "module" ∧ ob.dict = some builtinsNs ∧ ob.data = .plain)
    (hfa : mg "law" = some (.ref fa)) (ha : s.heap.get? a = some { cls := .type "list", data := .seq vs.toArray }) (hi : IntsAre vs ns) (hl : ns.length ≤ sizeLine) :
    codeAny (model Prow w) callerA (.call (.ref fa) ⟨[.ref a], []⟩) (fun r s' => r = .ok (.ret (.bool true)) ∧ OldK s.heap s'.heap ∧ s'.os = s.os ∧ AllBare s'.gens) s := by
  obtain ⟨T2, hne⟩ := Y.txt X g
  have mD : (("_law_deed", none) : He.Defn) ∈ tfs := by simp [tfs]
  have mL : (("law", none) : He.Defn) ∈ tfs := by simp [tfs]
  have eD : s.heap.get? (pD K) = some { cls := .none, data := .fields #[] } := Y.empty _ mD
  have eL : s.heap.get? (pL K) = some { cls := .none, data := .fields #[] } := Y.empty _ mL
  have anD : a ≠ pD K := empty_ne ha eD (by intro z; cases z)
  have anL : a ≠ pL K := empty_ne ha eL (by intro z; cases z)
  have rv := vals_ints hi
  -- the script is tracked, if the head does not tell it
  obtain ⟨t, ht1, ht2, ht3⟩ : ∃ t : Option HO, (t ≠ none → K.lookup a = none ∧ t = some (.frz { cls := .type "list", data := .seq vs.toArray } (.lst (iV ns)))) ∧ SqL K (start2 (pD K) (pL K) a t) a (iV ns) ∧ (t = none ∨ t = some (.frz { cls := .type "list", data := .seq vs.toArray } (.lst (iV ns)))) := by
    cases hk : K.lookup a with
    | none => exact ⟨_, fun _ => ⟨rfl, rfl⟩, .inl (.inr ⟨_, start2_a anD anL⟩), .inr rfl⟩
    | some o =>
      have e := X a o hk
      have eo : o = { cls := .type "list", data := .seq vs.toArray } := Option.some.inj (e.symm.trans ha)
      exact ⟨none, fun z => absurd rfl z, .inr ⟨o, vs.toArray, _, hk, by rw [eo], by rw [eo], by rw [eo], by rw [List.size_toArray, hi.length]; exact hl, by simpa [iV] using rv⟩, .inl rfl⟩
  generalize hH : start2 (pD K) (pL K) a t = H at ht2
  have hpD : H (pD K) = some (.tbl #[]) := by rw [← hH]; exact start2_p
  have hpL : H (pL K) = some (.tbl #[]) := by rw [← hH]; exact start2_q
  have ok : HOk Prow w H s.heap := fun b o e => by
    rw [← hH] at e
    rcases start2_of e with ⟨rfl, rfl⟩ | ⟨rfl, rfl⟩ | ⟨rfl, z⟩
    · exact eD
    · exact eL
    · obtain ⟨_, z2⟩ := ht1 (by rw [z]; simp)
      rw [z] at z2
      cases z2
      exact ⟨ha, by simpa [iV] using hl, vs, _, rv, ha⟩
  have few : Few H s.heap := fun b n => by
    cases e : H b with
    | none => exact absurd e n
    | some o =>
      rw [← hH] at e
      rcases start2_of e with ⟨rfl, _⟩ | ⟨rfl, _⟩ | ⟨rfl, _⟩
      · exact ⟨_, eD, .inl rfl⟩
      · exact ⟨_, eL, .inl rfl⟩
      · exact ⟨_, ha, .inr ⟨_, _, rfl⟩⟩
  have inB : K.In (hidT s.heap H) := fun b o e => by
    refine hidT_get (X b o e) ?_
    cases z : H b with
    | none => rfl
    | some u =>
      rw [← hH] at z
      rcases start2_of z with ⟨rfl, _⟩ | ⟨rfl, _⟩ | ⟨rfl, y⟩
      · have := Y.out _ mD; rw [e] at this; cases this
      · have := Y.out _ mL; rw [e] at this; cases this
      · have := (ht1 (by rw [y]; simp)).1; rw [e] at this; cases this
  have tabOf : ∀ d ∈ tfs, LamX.TabB (hidT s.heap H) mg (He.cT K d).1 (He.cT K d).2 := fun d hd => by
    refine ⟨PySem.W.codeHd_of_K inB (Y.hd d hd), ?_, fun z => ?_⟩
    · obtain ⟨bm, ob, x1, x2, x3, x4, x5, x6⟩ := hbm
      have np : ob.data ≠ .fields #[] := by rw [x6]; intro z; cases z
      refine ⟨bm, ob, x1, x2, fun z => ?_, empty_ne x3 (Y.empty d hd) np, few.stay x3 np (fun _ _ z => by rw [x6] at z; cases z), x4, x5, x6⟩
      obtain ⟨o, es, ep, e, hd', _⟩ := g
      rw [z, e] at x3
      rw [Option.some.inj x3, x6] at hd'
      cases hd'
    · obtain ⟨o, es, ep, e, hd', _⟩ := g
      rw [z, Y.empty d hd] at e
      rw [← Option.some.inj e] at hd'
      cases hd'
  have mod : L2.Mod K mg (hidT s.heap H) := ⟨inB, few.map g, ⟨mb, few.map gb, hbb⟩, let ⟨mc, h1, h2⟩ := hlim; ⟨mc, few.map h1, h2⟩⟩
  have env : Env0 Prow w K mg (hidT s.heap H) callerA [] s H := ⟨rfl, mod, fun b o e => of_hidT e, Nat.le_of_eq (hidT_size _ _), trivial, fun b hb => absurd hb List.not_mem_nil, ok, .of_eq hg⟩
  obtain ⟨f, fd, ps, hf, kp, bi, len, run⟩ := (c_law (w := w) T2 (Tb := [(pD K, qDeed), (pL K, qLaw)]) (tabOf _ mD) (by simp) (fun z hz e => by
    simp only [List.mem_cons, List.not_mem_nil, or_false] at hz
    rcases hz with rfl | rfl
    · rfl
    · exact absurd e.symm hne) (tabOf _ mL) (by simp) (fun z hz e => by
    simp only [List.mem_cons, List.not_mem_nil, or_false] at hz
    rcases hz with rfl | rfl
    · exact absurd e hne
    · rfl)).ex
  have ef : f = fa := by
    have := hf.symm.trans hfa
    injection this with this
    injection this
  subst ef
  have spL : spLaw K [(pD K, qDeed), (pL K, qLaw)] [.ref a] H (fun v _ => v = .bl true) C8.E0 := ⟨a, ns, rfl, ht2, fun z hz => by
    simp only [List.mem_cons, List.not_mem_nil, or_false] at hz
    rcases hz with rfl | rfl
    · exact tab0 hpD
    · exact tab0 hpL, fun _ => rfl⟩
  have hlen : ([Value.ref a] ++ []).length = ps.length := len _ _ _ _ spL
  have bt := bi s [.ref a] X hlen
  refine codeAny_mono (run callerA [] s H ⟨[.ref a], []⟩ [.ref a] [.ref a] _ rfl ⟨rfl, by decide, by decide⟩ env bt (.cons rfl .nil) spL) fun r s' hr => ?_
  cases r with
  | error e => exact (show False from hr).elim
  | ok fl =>
    cases fl with
    | next => exact False.elim hr
    | brk => exact False.elim hr
    | cont => exact False.elim hr
    | ret u =>
      obtain ⟨v, H', os, bare, un, ok', r', rfl⟩ := hr
      obtain rfl : u = Value.bool true := r'
      have grown : ∀ d ∈ tfs, H (He.cT K d).2 = some (.tbl #[]) → ∃ more : Array Value, s'.heap.get? (He.cT K d).2 = some { cls := .none, data := .fields more } := fun d hd e => by
        obtain ⟨more, z⟩ := un.tbls _ _ e
        exact ⟨_, ok' _ _ z⟩
      have old : ∀ b o, s.heap.get? b = some o → (∃ d ∈ tfs, b = (He.cT K d).2 ∧ H b = some (.tbl #[])) ∨ s'.heap.get? b = some o := fun b o e => by
        cases z : H b with
        | none => exact .inr (un.keep b o e z (fun y => absurd y List.not_mem_nil) (fun y => absurd y List.not_mem_nil))
        | some u =>
          have z' := z
          rw [← hH] at z
          rcases start2_of z with ⟨rfl, _⟩ | ⟨rfl, _⟩ | ⟨rfl, y⟩
          · exact .inl ⟨_, mD, rfl, by rw [← hpD, z']⟩
          · exact .inl ⟨_, mL, rfl, by rw [← hpL, z']⟩
          · rcases ht3 with t0 | t0
            · rw [t0] at y; cases y
            · rw [t0] at y
              cases y
              obtain ⟨e2, _⟩ := ok' _ _ (un.frzs _ _ _ z')
              rw [ha] at e
              rw [← Option.some.inj e]
              exact .inr e2
      refine ⟨rfl, ⟨fun b o e => ?_, fun b o e => ?_⟩, os, bare⟩
      · rcases old b o e with ⟨d, hd, rfl, hb⟩ | z
        · obtain ⟨more, hm⟩ := grown d hd hb
          have e2 := Y.empty d hd
          rw [e2] at e
          cases e
          exact .inr (.inl ⟨((PySem.W.codeHd_of_K X (Y.hd d hd)).tab e2).isCodeTable, rfl, #[], more, rfl, by rw [Array.empty_append]; exact hm⟩)
        · exact .inl z
      · rcases old b o e with ⟨d, hd, rfl, hb⟩ | z
        · obtain ⟨more, hm⟩ := grown d hd hb
          exact ⟨_, hm⟩
        · exact ⟨o, z⟩
end KW
end
section
set_option Elab.async false
set_option linter.all false
set_option maxRecDepth 100000
set_option maxHeartbeats 0
/-! The statement. -/
open PySem PySem.W PySem.Calls PyProof.Rows
theorem PySem.Challenge.cw_freelots_k13_whole_keepers_holds : PySem.Challenge.rw_freelots_k13_whole_keepers.Holds := by
  w_on; o_law
  refine HandSHeadRun.head_any (r := KW.RR) (q := view KW.RR.prog [52]) (H := KW.hkR) (ob := KW.obR) (M := 20000) (loose := KW.looseR) (d := HandSHeadRun.topDef KW.RR.prog 52) (kwd := []) KW.obR_eq (by kernel_rfl) (fun s => by kernel_rfl) KW.runR
    (by kernel_rfl) (by kernel_rfl) (by kernel_rfl) (by rfl) (by first | assumption | decide +kernel) (by decide +kernel) ⟨rfl, rfl, rfl, rfl, rfl, by decide +kernel⟩ ?hw ?hc
  case hw => w_witness2
  case hc =>
    refine Att.attach_callB (l := PySem.Challenge.rw_freelots_k13_whole_keepers) (n := 63) rfl (by kernel_rfl) fun w s0 s1 mg mb f o pm cd doc a vs ns G Y ho hd hcd hmg hobj hints hlen hbits hg => ?_
    obtain ⟨K, X, c⟩ := Y
    have en : (HandSHeadRun.topDef KW.RR.prog 52).name = ("law" : PySem.Str) := by kernel_rfl
    rw [en] at hmg
    exact KW.law_end X c G.T.g G.T.b G.T.builtins G.T.nolimit hg G.T.bmain hmg hobj hints (Nat.le_trans hlen (by decide))
end
