import PyProof.Rows.All
import Wide.All
import OpenK.AllK
import Wide.FinOn
import HandS.ForMost
import HandS.Walk
import HandS.Zip
import HandS.Wide
import HandS.IsInst
import HandS.TupMul
import HandS.TupAny
import KE.GoesNew
import KE.GoesMore
import HandS.Codes
import HandS.Lambda
import PySem.Challenge.RW_tellsless_k33_whole_luck_by_own_sums
import HandS.Nested
import HandS.OwnEq
import HandS.EndBits
set_option Elab.async false
set_option linter.all false
set_option maxRecDepth 100000
set_option maxHeartbeats 4000000
/-! The plain mathematics: fractions as Rat, trees by depth, luck, worth. -/
namespace Q3
/-! ### sizes -/
def Sz (n : Nat) (q : Rat) : Prop := q.num.natAbs < 2 ^ n ∧ q.den < 2 ^ n
theorem Sz.mono {n m : Nat} {q : Rat} (h : Sz n q) (e : n ≤ m) : Sz m q :=
  ⟨Nat.lt_of_lt_of_le h.1 (Nat.pow_le_pow_right (by decide) e), Nat.lt_of_lt_of_le h.2 (Nat.pow_le_pow_right (by decide) e)⟩
theorem norm_num_le (num : Int) (den : Nat) (h : den ≠ 0) : (Rat.normalize num den h).num.natAbs ≤ num.natAbs := by
  rw [Rat.normalize_eq]
  show (num / ((num.natAbs.gcd den : Nat) : Int)).natAbs ≤ num.natAbs
  rw [Int.natAbs_ediv_of_dvd (Int.natAbs_dvd_natAbs.mp (by rw [Int.natAbs_natCast]; exact Nat.gcd_dvd_left _ _))]
  exact Nat.div_le_self _ _
theorem norm_den_le (num : Int) (den : Nat) (h : den ≠ 0) : (Rat.normalize num den h).den ≤ den := by
  rw [Rat.normalize_eq]
  exact Nat.div_le_self _ _
theorem mul_lt_pow {a b n m : Nat} (ha : a < 2 ^ n) (hb : b < 2 ^ m) : a * b < 2 ^ (n + m) := by
  rw [Nat.pow_add]
  exact Nat.mul_lt_mul'' ha hb
theorem add_top {a b : Rat} {n m : Nat} (ha : Sz n a) (hb : Sz m b) : (a.num * (b.den : Int) + b.num * (a.den : Int)).natAbs < 2 ^ (n + m + 1) := by
  have h1 := mul_lt_pow ha.1 hb.2
  have h2 := mul_lt_pow hb.1 ha.2
  rw [Nat.add_comm m n] at h2
  have h3 := Int.natAbs_add_le (a.num * (b.den : Int)) (b.num * (a.den : Int))
  rw [Int.natAbs_mul, Int.natAbs_mul, Int.natAbs_natCast, Int.natAbs_natCast] at h3
  rw [Nat.pow_succ]
  omega
theorem Sz.add {a b : Rat} {n m : Nat} (ha : Sz n a) (hb : Sz m b) : Sz (n + m + 1) (a + b) := by
  rw [Rat.add_def]
  refine ⟨Nat.lt_of_le_of_lt (norm_num_le _ _ _) (add_top ha hb), Nat.lt_of_le_of_lt (norm_den_le _ _ _) (Nat.lt_of_lt_of_le (mul_lt_pow ha.2 hb.2) (Nat.pow_le_pow_right (by decide) (by omega)))⟩
theorem Sz.mul {a b : Rat} {n m : Nat} (ha : Sz n a) (hb : Sz m b) : Sz (n + m) (a * b) := by
  rw [Rat.mul_def]
  refine ⟨Nat.lt_of_le_of_lt (norm_num_le _ _ _) ?_, Nat.lt_of_le_of_lt (norm_den_le _ _ _) (mul_lt_pow ha.2 hb.2)⟩
  rw [Int.natAbs_mul]
  exact mul_lt_pow ha.1 hb.1
theorem Sz.zero : Sz 1 0 := ⟨by decide, by decide⟩
theorem Sz.one : Sz 1 1 := ⟨by decide, by decide⟩
/-! ### sums -/
def tot (xs : List Rat) : Rat := xs.foldl (· + ·) 0
theorem foldl_add (xs : List Rat) : ∀ a : Rat, xs.foldl (· + ·) a = a + tot xs := by
  induction xs with
  | nil => intro a; show a = a + 0; grind
  | cons x xs ih =>
    intro a
    show xs.foldl (· + ·) (a + x) = a + xs.foldl (· + ·) (0 + x)
    rw [ih (a + x), ih (0 + x)]
    grind
theorem tot_nil : tot [] = 0 := rfl
theorem tot_cons (x : Rat) (xs : List Rat) : tot (x :: xs) = x + tot xs := by
  show xs.foldl (· + ·) (0 + x) = _
  rw [foldl_add]
  grind
theorem tot_append (xs ys : List Rat) : tot (xs ++ ys) = tot xs + tot ys := by
  induction xs with
  | nil => rw [List.nil_append, tot_nil]; grind
  | cons x xs ih => rw [List.cons_append, tot_cons, tot_cons, ih]; grind
theorem tot_take {xs : List Rat} {i : Nat} {x : Rat} (h : xs[i]? = some x) : tot (xs.take (i + 1)) = tot (xs.take i) + x := by
  rw [List.take_add_one, h, tot_append]
  show _ + tot [x] = _
  rw [tot_cons, tot_nil]
  grind
theorem tot_sz {n : Nat} : ∀ {xs : List Rat}, (∀ x ∈ xs, Sz n x) → Sz (1 + xs.length * (n + 1)) (tot xs) := by
  intro xs
  induction xs with
  | nil => intro _; exact Sz.zero.mono (by omega)
  | cons x xs ih =>
    intro h
    rw [tot_cons]
    refine ((h x List.mem_cons_self).add (ih fun y hy => h y (List.mem_cons_of_mem _ hy))).mono ?_
    rw [List.length_cons, Nat.succ_mul]
    omega
theorem tot_mul (c : Rat) (xs : List Rat) : tot (xs.map (c * ·)) = c * tot xs := by
  induction xs with
  | nil => show (0 : Rat) = c * 0; grind
  | cons x xs ih => rw [List.map_cons, tot_cons, tot_cons, ih]; grind
theorem tot_nonneg : ∀ {xs : List Rat}, (∀ x ∈ xs, 0 ≤ x) → 0 ≤ tot xs := by
  intro xs
  induction xs with
  | nil => intro _; exact Rat.le_refl
  | cons x xs ih =>
    intro h
    have h1 := h x List.mem_cons_self
    have h2 := ih fun y hy => h y (List.mem_cons_of_mem _ hy)
    rw [tot_cons]
    grind
theorem tot_mem_le : ∀ {xs : List Rat} {x : Rat}, (∀ x ∈ xs, 0 ≤ x) → x ∈ xs → x ≤ tot xs := by
  intro xs
  induction xs with
  | nil => intro x _ h; cases h
  | cons y xs ih =>
    intro x h hx
    have h1 := h y List.mem_cons_self
    have h2 := tot_nonneg fun z hz => h z (List.mem_cons_of_mem _ hz)
    rw [tot_cons]
    rcases List.mem_cons.mp hx with rfl | hx
    · grind
    · have := ih (fun z hz => h z (List.mem_cons_of_mem _ hz)) hx
      grind
/-! ### the greatest -/
def mx (a b : Rat) : Rat := if a < b then b else a
theorem mx_le {a b c : Rat} (h1 : a ≤ c) (h2 : b ≤ c) : mx a b ≤ c := by unfold mx; split <;> assumption
theorem le_mx_l (a b : Rat) : a ≤ mx a b := by unfold mx; split <;> grind
theorem le_mx_r (a b : Rat) : b ≤ mx a b := by unfold mx; split <;> grind
theorem mx_self (a : Rat) : mx a a = a := by unfold mx; split <;> rfl
theorem mx_mul {c : Rat} (hc : 0 ≤ c) (a b : Rat) : mx (a * c) (b * c) = mx a b * c := by
  rcases Rat.le_total (a := a) (b := b) with h | h
  · have h1 := Rat.mul_le_mul_of_nonneg_right h hc
    unfold mx
    split <;> split <;> grind
  · have h1 := Rat.mul_le_mul_of_nonneg_right h hc
    unfold mx
    split <;> split <;> grind
def most (a : Rat) (xs : List Rat) : Rat := xs.foldl mx a
def mostL : List Rat → Rat
  | [] => 0
  | x :: xs => most x xs
theorem most_cons (a x : Rat) (xs : List Rat) : most a (x :: xs) = most (mx a x) xs := rfl
theorem most_append (a : Rat) (xs ys : List Rat) : most a (xs ++ ys) = most (most a xs) ys := List.foldl_append ..
theorem le_most (xs : List Rat) : ∀ a, a ≤ most a xs := by
  induction xs with
  | nil => intro a; exact Rat.le_refl
  | cons x xs ih => intro a; rw [most_cons]; exact Rat.le_trans (le_mx_l a x) (ih _)
theorem mem_le_most {xs : List Rat} : ∀ {a x : Rat}, x ∈ xs → x ≤ most a xs := by
  induction xs with
  | nil => intro a x h; cases h
  | cons y xs ih =>
    intro a x h
    rw [most_cons]
    rcases List.mem_cons.mp h with rfl | h
    · exact Rat.le_trans (le_mx_r a x) (le_most _ _)
    · exact ih h
theorem most_le {xs : List Rat} {c : Rat} : ∀ {a : Rat}, a ≤ c → (∀ x ∈ xs, x ≤ c) → most a xs ≤ c := by
  induction xs with
  | nil => intro a h _; exact h
  | cons x xs ih => intro a h1 h2; rw [most_cons]; exact ih (mx_le h1 (h2 x List.mem_cons_self)) fun y hy => h2 y (List.mem_cons_of_mem _ hy)
theorem most_mul {c : Rat} (hc : 0 ≤ c) (xs : List Rat) : ∀ a : Rat, most (a * c) (xs.map (· * c)) = most a xs * c := by
  induction xs with
  | nil => intro a; rfl
  | cons x xs ih => intro a; rw [List.map_cons, most_cons, most_cons, mx_mul hc, ih]
/-- the list's first, once more: nothing new -/
theorem most_again (a : Rat) (xs : List Rat) : most a (a :: xs) = most a xs := by rw [most_cons, mx_self]
theorem mem_le_mostL {xs : List Rat} {x : Rat} (h : x ∈ xs) : x ≤ mostL xs := by
  cases xs with
  | nil => cases h
  | cons y ys =>
    rcases List.mem_cons.mp h with rfl | h
    · exact le_most _ _
    · exact mem_le_most h
theorem most_mem (xs : List Rat) : ∀ a, most a xs = a ∨ most a xs ∈ xs := by
  induction xs with
  | nil => intro a; exact .inl rfl
  | cons x xs ih =>
    intro a
    rw [most_cons]
    rcases ih (mx a x) with h | h
    · rw [h]
      unfold mx
      split
      · exact .inr List.mem_cons_self
      · exact .inl rfl
    · exact .inr (List.mem_cons_of_mem _ h)
theorem mostL_mem {xs : List Rat} (h : xs ≠ []) : mostL xs ∈ xs := by
  cases xs with
  | nil => exact absurd rfl h
  | cons x xs =>
    rcases most_mem xs x with e | e
    · show most x xs ∈ _
      rw [e]
      exact List.mem_cons_self
    · exact List.mem_cons_of_mem _ e
theorem mostL_sz {n : Nat} {xs : List Rat} (h : ∀ x ∈ xs, Sz n x) (h0 : 0 < n) : Sz n (mostL xs) := by
  cases xs with
  | nil => exact Sz.zero.mono (by omega)
  | cons x xs => exact h _ (mostL_mem (List.cons_ne_nil x xs))
theorem most_sz {n : Nat} {xs : List Rat} {a : Rat} (ha : Sz n a) (h : ∀ x ∈ xs, Sz n x) : Sz n (most a xs) := by
  rcases most_mem xs a with e | e
  · rw [e]; exact ha
  · exact h _ e
/-! ### deeds -/
def deed : List Rat → List Rat → List Rat → Rat
  | p :: ps, w :: ws, g :: gs => p * w * g + deed ps ws gs
  | _, _, _ => 0
def deedL : List Rat → List Rat → List Rat → List Rat
  | p :: ps, w :: ws, g :: gs => p * w * g :: deedL ps ws gs
  | _, _, _ => []
theorem deed_tot : ∀ ps ws gs, tot (deedL ps ws gs) = deed ps ws gs
  | p :: ps, w :: ws, g :: gs => by
    show tot (p * w * g :: deedL ps ws gs) = p * w * g + deed ps ws gs
    rw [tot_cons, deed_tot]
  | [], _, _ => rfl
  | _ :: _, [], _ => rfl
  | _ :: _, _ :: _, [] => rfl
theorem deedL_len : ∀ {n : Nat} {ps ws gs : List Rat}, ps.length = n → ws.length = n → gs.length = n → (deedL ps ws gs).length = n
  | 0, [], [], [], _, _, _ => rfl
  | n + 1, p :: ps, w :: ws, g :: gs, h1, h2, h3 => by
    show (deedL ps ws gs).length + 1 = n + 1
    rw [deedL_len (n := n) (by simpa using h1) (by simpa using h2) (by simpa using h3)]
theorem deedL_get : ∀ {ps ws gs : List Rat} {i : Nat} {p w g : Rat}, ps[i]? = some p → ws[i]? = some w → gs[i]? = some g → (deedL ps ws gs)[i]? = some (p * w * g)
  | p :: ps, w :: ws, g :: gs, 0, p', w', g', h1, h2, h3 => by
    have e1 : p = p' := Option.some.inj h1
    have e2 : w = w' := Option.some.inj h2
    have e3 : g = g' := Option.some.inj h3
    rw [← e1, ← e2, ← e3] <;> rfl
  | p :: ps, w :: ws, g :: gs, i + 1, p', w', g', h1, h2, h3 => deedL_get (ps := ps) (ws := ws) (gs := gs) (i := i) h1 h2 h3
  | [], _, _, _, _, _, _, h, _, _ => by simp at h
  | _ :: _, [], _, _, _, _, _, _, h, _ => by simp at h
  | _ :: _, _ :: _, [], _, _, _, _, _, _, h => by simp at h
theorem deedL_sz {a b c : Nat} : ∀ {ps ws gs : List Rat}, (∀ x ∈ ps, Sz a x) → (∀ x ∈ ws, Sz b x) → (∀ x ∈ gs, Sz c x) → ∀ x ∈ deedL ps ws gs, Sz (a + b + c) x
  | p :: ps, w :: ws, g :: gs, h1, h2, h3, x, hx => by
    rcases List.mem_cons.mp (show x ∈ p * w * g :: deedL ps ws gs from hx) with rfl | hx
    · exact ((h1 p List.mem_cons_self).mul (h2 w List.mem_cons_self)).mul (h3 g List.mem_cons_self)
    · exact deedL_sz (fun y hy => h1 y (List.mem_cons_of_mem _ hy)) (fun y hy => h2 y (List.mem_cons_of_mem _ hy)) (fun y hy => h3 y (List.mem_cons_of_mem _ hy)) x hx
  | [], _, _, _, _, _, x, hx => by cases hx
  | _ :: _, [], _, _, _, _, x, hx => by cases hx
  | _ :: _, _ :: _, [], _, _, _, x, hx => by cases hx
theorem deed_sz {a b c n : Nat} {ps ws gs : List Rat} (l1 : ps.length = n) (l2 : ws.length = n) (l3 : gs.length = n) (h1 : ∀ x ∈ ps, Sz a x) (h2 : ∀ x ∈ ws, Sz b x) (h3 : ∀ x ∈ gs, Sz c x) : Sz (1 + n * (a + b + c + 1)) (deed ps ws gs) := by
  have h := tot_sz (deedL_sz h1 h2 h3)
  rw [deed_tot, deedL_len l1 l2 l3] at h
  exact h
/-- with all weights one -/
def ones (n : Nat) : List Rat := List.replicate n 1
theorem deed_le : ∀ {n : Nat} {ps ws gs : List Rat} {m : Rat}, ps.length = n → ws.length = n → gs.length = n → (∀ x ∈ ps, 0 ≤ x) → (∀ x ∈ gs, 0 ≤ x) → (∀ x ∈ ws, x ≤ m) → deed ps ws gs ≤ m * deed ps (ones n) gs
  | 0, [], [], [], m, _, _, _, _, _, _ => by
    show (0 : Rat) ≤ m * 0
    grind
  | n + 1, p :: ps, w :: ws, g :: gs, m, l1, l2, l3, hp, hg, hw => by
    have ih := deed_le (n := n) (ps := ps) (ws := ws) (gs := gs) (m := m) (by simpa using l1) (by simpa using l2) (by simpa using l3) (fun x hx => hp x (List.mem_cons_of_mem _ hx)) (fun x hx => hg x (List.mem_cons_of_mem _ hx)) (fun x hx => hw x (List.mem_cons_of_mem _ hx))
    have h1 := hp p List.mem_cons_self
    have h2 := hg g List.mem_cons_self
    have h3 := hw w List.mem_cons_self
    have h4 := Rat.mul_nonneg h1 h2
    have h5 := Rat.mul_le_mul_of_nonneg_right h3 h4
    show p * w * g + deed ps ws gs ≤ m * (p * 1 * g + deed ps (ones n) gs)
    have e1 : p * w * g = w * (p * g) := by grind
    have e2 : m * (p * 1 * g + deed ps (ones n) gs) = m * (p * g) + m * deed ps (ones n) gs := by grind
    rw [e1, e2]
    grind
/-! ### trees of so many rounds -/
/-- a node with at most r rounds behind it -/
def T : Nat → Type
  | 0 => Unit
  | r + 1 => List (List (List Int × List Rat × T r))
abbrev An (r : Nat) : Type := List Int × List Rat × T r
def qs {r : Nat} (t : T (r + 1)) : List (List (An r)) := t
def luck : (r : Nat) → List Rat → T r → Rat
  | 0, w, _ => mostL w
  | r + 1, w, t => most (mostL w) ((qs t).map fun q => tot (q.map fun a => luck r a.2.1 a.2.2))
def worth (prior : List Rat) (gains : List (List Rat)) : (r : Nat) → List Rat → T r → Rat
  | 0, w, _ => mostL (gains.map (deed prior w))
  | r + 1, w, t => most (mostL (gains.map (deed prior w))) ((qs t).map fun q => tot (q.map fun a => worth prior gains r a.2.1 a.2.2))
/-- all weights of a tree are P, for W worlds; its questions at most 3 answers (the sizes of sums), its nodes at most 2 questions -/
def AllW (W : Nat) (P : Nat → Rat → Prop) : (r : Nat) → (d : Nat) → T r → Prop
  | 0, _, _ => True
  | r + 1, d, t => (qs t).length ≤ 2 ∧ ∀ q, q ∈ qs t → q.length ≤ 3 ∧ ∀ a, a ∈ q → a.2.1.length = W ∧ (∀ x, x ∈ a.2.1 → P (d + 1) x) ∧ AllW W P r (d + 1) a.2.2
theorem tot_le_mul {α : Type} {f g : α → Rat} {c : Rat} : ∀ {xs : List α}, (∀ x ∈ xs, f x ≤ g x * c) → tot (xs.map f) ≤ tot (xs.map g) * c := by
  intro xs
  induction xs with
  | nil => intro _; show (0 : Rat) ≤ 0 * c; grind
  | cons x xs ih =>
    intro h
    rw [List.map_cons, List.map_cons, tot_cons, tot_cons]
    have h1 := h x List.mem_cons_self
    have h2 := ih fun y hy => h y (List.mem_cons_of_mem _ hy)
    grind
theorem tot_eq_mul {α : Type} {f g : α → Rat} {c : Rat} : ∀ {xs : List α}, (∀ x ∈ xs, f x = g x * c) → tot (xs.map f) = tot (xs.map g) * c := by
  intro xs
  induction xs with
  | nil => intro _; show (0 : Rat) = 0 * c; grind
  | cons x xs ih =>
    intro h
    rw [List.map_cons, List.map_cons, tot_cons, tot_cons]
    have h1 := h x List.mem_cons_self
    have h2 := ih fun y hy => h y (List.mem_cons_of_mem _ hy)
    grind
/-- THE FIFTH FACT, the first half, at every node -/
theorem worth_le {W : Nat} {P : Nat → Rat → Prop} {prior : List Rat} {gains : List (List Rat)} {U : Rat} (hP : ∀ d x, P d x → 0 ≤ x) (hl : prior.length = W) (hp : ∀ x ∈ prior, 0 ≤ x) (hg : ∀ g ∈ gains, g.length = W ∧ ∀ x ∈ g, 0 ≤ x) (hU0 : 0 ≤ U) (hU : ∀ g ∈ gains, deed prior (ones W) g ≤ U) (hn : gains ≠ []) :
    ∀ (r d : Nat) (w : List Rat) (t : T r), w.length = W → w ≠ [] → (∀ x ∈ w, 0 ≤ x) → AllW W P r d t → worth prior gains r w t ≤ luck r w t * U := by
  have base : ∀ w : List Rat, w.length = W → w ≠ [] → (∀ x ∈ w, 0 ≤ x) → mostL (gains.map (deed prior w)) ≤ mostL w * U := fun w hw hne h0 => by
    have key : ∀ x ∈ gains.map (deed prior w), x ≤ mostL w * U := fun x hx => by
      obtain ⟨g, hg1, rfl⟩ := List.mem_map.mp hx
      obtain ⟨h1, h2⟩ := hg g hg1
      have a := deed_le (m := mostL w) hl hw h1 hp h2 fun y hy => mem_le_mostL hy
      have m0 : 0 ≤ mostL w := h0 _ (mostL_mem hne)
      have b := Rat.mul_le_mul_of_nonneg_left (hU g hg1) m0
      exact Rat.le_trans a b
    exact key _ (mostL_mem (by cases gains with | nil => exact absurd rfl hn | cons a b => exact List.cons_ne_nil _ _))
  intro r
  induction r with
  | zero => intro d w t hw hne h0 _; exact base w hw hne h0
  | succ r ih =>
    intro d w t hw hne h0 ht
    refine most_le (Rat.le_trans (base w hw hne h0) (Rat.mul_le_mul_of_nonneg_right (le_most _ _) hU0)) fun x hx => ?_
    obtain ⟨q, hq, rfl⟩ := List.mem_map.mp hx
    have hm : tot (q.map fun a => luck r a.2.1 a.2.2) ≤ luck (r + 1) w t := mem_le_most (List.mem_map_of_mem hq)
    refine Rat.le_trans (tot_le_mul (g := fun a => luck r a.2.1 a.2.2) (c := U) fun a ha => ?_) (Rat.mul_le_mul_of_nonneg_right hm hU0)
    obtain ⟨h1, h2, h3⟩ := (ht.2 q hq).2 a ha
    refine ih (d + 1) a.2.1 a.2.2 h1 (fun z => ?_) (fun y hy => hP _ y (h2 y hy)) h3
    rw [z] at h1
    rw [← h1] at hw
    exact hne (List.eq_nil_of_length_eq_zero hw)
/-! ### with equal chances, each deed a guess -/
def guess (W i : Nat) : List Rat := (List.range W).map fun j => if j = i then 1 else 0
def even (W : Nat) (e : Rat) : List Rat := List.replicate W e
theorem deed_zero : ∀ {e : Rat} {n : Nat} {ws gs : List Rat}, (∀ x ∈ gs, x = 0) → deed (even n e) ws gs = 0
  | e, 0, _, _, _ => rfl
  | e, n + 1, [], _, _ => rfl
  | e, n + 1, _ :: _, [], _ => rfl
  | e, n + 1, w :: ws, g :: gs, h => by
    show e * w * g + deed (even n e) ws gs = 0
    rw [h g List.mem_cons_self, deed_zero fun x hx => h x (List.mem_cons_of_mem _ hx)]
    grind
theorem deed_guess_gen : ∀ {e : Rat} {n k i : Nat} {ws : List Rat} {w : Rat}, ws.length = n → ws[i]? = some w → deed (even n e) ws ((List.range' k n).map fun j => if j = k + i then 1 else 0) = w * e
  | e, 0, _, _, ws, w, hl, h => by
    have z := List.eq_nil_of_length_eq_zero hl
    subst z
    simp at h
  | e, n + 1, k, 0, w' :: ws, w, hl, h => by
    have e1 : w' = w := Option.some.inj h
    show e * w' * (if k = k + 0 then 1 else 0) + deed (even n e) ws ((List.range' (k + 1) n).map fun j => if j = k + 0 then (1 : Rat) else 0) = w * e
    rw [deed_zero (fun x hx => ?_), e1, if_pos (by omega)]
    · grind
    · obtain ⟨j, hj, rfl⟩ := List.mem_map.mp hx
      obtain ⟨h1, _⟩ := List.mem_range'_1.mp hj
      exact if_neg (by omega)
  | e, n + 1, k, i + 1, w' :: ws, w, hl, h => by
    show e * w' * (if k = k + (i + 1) then 1 else 0) + deed (even n e) ws ((List.range' (k + 1) n).map fun j => if j = k + (i + 1) then (1 : Rat) else 0) = w * e
    have ih := deed_guess_gen (e := e) (n := n) (k := k + 1) (i := i) (ws := ws) (w := w) (by simpa using hl) h
    rw [show k + 1 + i = k + (i + 1) by omega] at ih
    rw [ih, if_neg (by omega)]
    grind
theorem deed_guess {e : Rat} {W i : Nat} {ws : List Rat} {w : Rat} (hl : ws.length = W) (h : ws[i]? = some w) : deed (even W e) ws (guess W i) = w * e := by
  have a := deed_guess_gen (e := e) (k := 0) hl h
  unfold guess
  rw [List.range_eq_range']
  simpa using a
def guesses (W : Nat) : List (List Rat) := (List.range W).map (guess W)
theorem guesses_deed {e : Rat} {W : Nat} {ws : List Rat} (hl : ws.length = W) : (guesses W).map (deed (even W e) ws) = ws.map (· * e) := by
  refine List.ext_getElem? fun i => ?_
  unfold guesses
  rw [List.map_map, List.getElem?_map, List.getElem?_map]
  by_cases hi : i < W
  · have h1 : ws[i]? = some ws[i] := List.getElem?_eq_getElem (by omega)
    rw [List.getElem?_range hi, h1]
    show some (deed (even W e) ws (guess W i)) = some (ws[i] * e)
    rw [deed_guess hl h1]
  · rw [List.getElem?_eq_none (by rw [List.length_range]; omega), List.getElem?_eq_none (by omega)]
    rfl
theorem mostL_mul {c : Rat} (hc : 0 ≤ c) (xs : List Rat) : mostL (xs.map (· * c)) = mostL xs * c := by
  cases xs with
  | nil => show (0 : Rat) = 0 * c; grind
  | cons x xs => exact most_mul hc xs x
/-- THE FIFTH FACT, the second half -/
theorem worth_even {W : Nat} {P : Nat → Rat → Prop} {e : Rat} (he : 0 ≤ e) : ∀ (r d : Nat) (w : List Rat) (t : T r), w.length = W → AllW W P r d t → worth (even W e) (guesses W) r w t = luck r w t * e := by
  have base : ∀ w : List Rat, w.length = W → mostL ((guesses W).map (deed (even W e) w)) = mostL w * e := fun w hw => by
    rw [guesses_deed hw, mostL_mul he]
  intro r
  induction r with
  | zero => intro d w t hw _; exact base w hw
  | succ r ih =>
    intro d w t hw ht
    show most (mostL ((guesses W).map (deed (even W e) w))) ((qs t).map fun q => tot (q.map fun a => worth (even W e) (guesses W) r a.2.1 a.2.2)) = most (mostL w) ((qs t).map fun q => tot (q.map fun a => luck r a.2.1 a.2.2)) * e
    rw [base w hw, ← most_mul he]
    congr 1
    rw [List.map_map]
    refine List.map_congr_left fun q hq => ?_
    show tot (q.map fun a => worth (even W e) (guesses W) r a.2.1 a.2.2) = tot (q.map fun a => luck r a.2.1 a.2.2) * e
    exact tot_eq_mul fun a ha => by
      obtain ⟨h1, _, h3⟩ := (ht.2 q hq).2 a ha
      exact ih (d + 1) a.2.1 a.2.2 h1 h3
/-! ### sizes of luck and worth -/
def up (b : Nat) : Nat → Nat
  | 0 => b
  | r + 1 => 3 * up b r + 4
theorem le_up (b : Nat) : ∀ r, b ≤ up b r
  | 0 => Nat.le_refl _
  | r + 1 => by
    have := le_up b r
    show b ≤ 3 * up b r + 4
    omega
theorem up_step {b r : Nat} : up b r ≤ up b (r + 1) := by show up b r ≤ 3 * up b r + 4; omega
theorem tot3_sz {n : Nat} {xs : List Rat} (h : ∀ x ∈ xs, Sz n x) (hl : xs.length ≤ 3) : Sz (3 * n + 4) (tot xs) :=
  (tot_sz h).mono (by have := Nat.mul_le_mul_right (n + 1) hl; omega)
end Q3
/-! The data layer: what a value stands for, names and owned lists, what a reading evaluates to. -/
namespace Q3
open PySem L2
/-- data: a value by itself, or a tuple of data -/
inductive D where
  | sc (v : V)
  | tup (ds : List D)
abbrev D.i (n : Int) : D := .sc (.int n)
abbrev D.b (b : Bool) : D := .sc (.bl b)
abbrev D.s (x : Str) : D := .sc (.str x)
mutual
def Rep (K : PySem.W.Frag) (H : Hp) : D → V → Prop
  | .sc w, v => v = w
  | .tup ds, v => ∃ a vs, v = .ref a ∧ SqT K H a vs ∧ RepL K H ds vs
def RepL (K : PySem.W.Frag) (H : Hp) : List D → List V → Prop
  | [], vs => vs = []
  | d :: ds, vs => ∃ v r, vs = v :: r ∧ Rep K H d v ∧ RepL K H ds r
end
def Fix : HO → Prop
  | .lst _ => False
  | .tbl _ => False
  | _ => True
/-- what can't change is as it was -/
def Fx (H H' : Hp) : Prop := ∀ a o, H a = some o → Fix o → H' a = some o
theorem Fx.refl (H : Hp) : Fx H H := fun _ _ h _ => h
theorem Fx.trans {H H1 H2 : Hp} (a : Fx H H1) (b : Fx H1 H2) : Fx H H2 := fun x o h f => b x o (a x o h f) f
/-- all is as it was, but for lists and tables at B, which may have changed; nothing is gone -/
def Le (B : List Addr) (H H' : Hp) : Prop := ∀ a o, H a = some o → ∃ o', H' a = some o' ∧ (Fix o ∨ a ∉ B → o' = o)
theorem Le.refl (B : List Addr) (H : Hp) : Le B H H := fun _ o h => ⟨o, h, fun _ => rfl⟩
theorem Le.trans {B : List Addr} {H H1 H2 : Hp} (a : Le B H H1) (b : Le B H1 H2) : Le B H H2 := fun x o h => by
  obtain ⟨o1, h1, e1⟩ := a x o h
  obtain ⟨o2, h2, e2⟩ := b x o1 h1
  refine ⟨o2, h2, fun c => ?_⟩
  have z := e1 c
  subst z
  exact e2 c
theorem Le.mono {B B' : List Addr} {H H' : Hp} (h : Le B H H') (s : ∀ b ∈ B, b ∈ B') : Le B' H H' := fun x o e => by
  obtain ⟨o', h1, e1⟩ := h x o e
  exact ⟨o', h1, fun c => e1 (c.imp id fun z q => z (s x q))⟩
theorem Le.fx {B : List Addr} {H H' : Hp} (h : Le B H H') : Fx H H' := fun a o e f => by
  obtain ⟨o', h1, e1⟩ := h a o e
  rw [e1 (.inl f)] at h1
  exact h1
theorem Le.keep {B : List Addr} {H H' : Hp} (h : Le B H H') {a : Addr} {o : HO} (e : H a = some o) (n : a ∉ B) : H' a = some o := by
  obtain ⟨o', h1, e1⟩ := h a o e
  rw [e1 (.inr n)] at h1
  exact h1
theorem Le.alive {B : List Addr} {H H' : Hp} (h : Le B H H') {a : Addr} (e : H' a = none) : H a = none := by
  cases q : H a with
  | none => rfl
  | some o =>
    obtain ⟨o', h1, _⟩ := h a o q
    rw [e] at h1
    cases h1
abbrev Ex (H H' : Hp) : Prop := Le [] H H'
theorem Ex.of {H H' : Hp} (h : ∀ a o, H a = some o → H' a = some o) : Ex H H' := fun a o e => ⟨o, h a o e, fun _ => rfl⟩
theorem Ex.keep {H H' : Hp} (h : Ex H H') {a : Addr} {o : HO} (e : H a = some o) : H' a = some o := Le.keep h e (by simp)
theorem Ex.same {H H' : Hp} (h : Ex H H') : Same H H' := fun a o e => h.keep e
theorem Ex.le {B : List Addr} {H H' : Hp} (h : Ex H H') : Le B H H' := Le.mono h (by simp)
theorem Ex.new {H : Hp} {p : Addr} {o : HO} (h : H p = none) : Ex H (upd H p o) := Ex.of fun a u e => by
  rw [upd_ne (ne_of_none e h)]
  exact e
theorem Fx.t {K : PySem.W.Frag} {H H' : Hp} {a : Addr} {xs : List V} (e : Fx H H') (h : SqT K H a xs) : SqT K H' a xs := by
  rcases h with (h | ⟨o, h⟩) | h
  · exact .inl (.inl (e _ _ h trivial))
  · exact .inl (.inr ⟨o, e _ _ h trivial⟩)
  · exact .inr h
theorem Ex.l {K : PySem.W.Frag} {H H' : Hp} {a : Addr} {xs : List V} (e : Ex H H') (h : SqL K H a xs) : SqL K H' a xs := e.same.seq h
/-- a list that nobody changes: locked, of the written part, or not of B -/
theorem Le.l {K : PySem.W.Frag} {B : List Addr} {H H' : Hp} {a : Addr} {xs : List V} (e : Le B H H') (n : a ∉ B) (h : SqL K H a xs) : SqL K H' a xs := by
  rcases h with (h | ⟨o, h⟩) | h
  · exact .inl (.inl (e.keep h n))
  · exact .inl (.inr ⟨o, e.keep h n⟩)
  · exact .inr h
mutual
theorem Rep.mono {K : PySem.W.Frag} {H H' : Hp} (e : Fx H H') : ∀ (d : D) (v : V), Rep K H d v → Rep K H' d v
  | .sc _, _, h => h
  | .tup ds, v, h => by
    obtain ⟨a, vs, e1, e2, e3⟩ := h
    exact ⟨a, vs, e1, e.t e2, RepL.mono e ds vs e3⟩
theorem RepL.mono {K : PySem.W.Frag} {H H' : Hp} (e : Fx H H') : ∀ (ds : List D) (vs : List V), RepL K H ds vs → RepL K H' ds vs
  | [], _, h => h
  | d :: ds, vs, h => by
    obtain ⟨v, r, e1, e2, e3⟩ := h
    exact ⟨v, r, e1, Rep.mono e d v e2, RepL.mono e ds r e3⟩
end
theorem Rep.to {K : PySem.W.Frag} {H H' : Hp} {d : D} {v : V} (h : Rep K H d v) (e : Fx H H') : Rep K H' d v := Rep.mono e d v h
theorem RepL.to {K : PySem.W.Frag} {H H' : Hp} {ds : List D} {vs : List V} (h : RepL K H ds vs) (e : Fx H H') : RepL K H' ds vs := RepL.mono e ds vs h
theorem RepL.len {K : PySem.W.Frag} {H : Hp} : ∀ {ds : List D} {vs : List V}, RepL K H ds vs → vs.length = ds.length
  | [], vs, h => by
    have e : vs = [] := h
    rw [e] <;> rfl
  | d :: ds, vs, h => by
    obtain ⟨v, r, e, _, e3⟩ := h
    rw [e, List.length_cons, List.length_cons, RepL.len e3]
theorem RepL.get {K : PySem.W.Frag} {H : Hp} : ∀ {ds : List D} {vs : List V} {i : Nat} {d : D}, RepL K H ds vs → ds[i]? = some d → ∃ v, vs[i]? = some v ∧ Rep K H d v
  | [], _, _, _, _, e => by simp at e
  | d :: ds, vs, 0, d', h, e => by
    obtain ⟨v, r, e1, e2, _⟩ := h
    have z : d = d' := Option.some.inj e
    rw [← z, e1]
    exact ⟨v, rfl, e2⟩
  | d :: ds, vs, i + 1, d', h, e => by
    obtain ⟨v, r, e1, _, e3⟩ := h
    obtain ⟨u, h1, h2⟩ := RepL.get (i := i) e3 (by simpa using e)
    rw [e1]
    exact ⟨u, by simpa using h1, h2⟩
theorem RepL.getV {K : PySem.W.Frag} {H : Hp} {ds : List D} {vs : List V} {i : Nat} {v : V} (h : RepL K H ds vs) (e : vs[i]? = some v) : ∃ d, ds[i]? = some d ∧ Rep K H d v := by
  have hi := (List.getElem?_eq_some_iff.mp e).1
  rw [h.len] at hi
  obtain ⟨u, h1, h2⟩ := h.get (List.getElem?_eq_getElem hi)
  rw [e] at h1
  cases h1
  exact ⟨_, List.getElem?_eq_getElem hi, h2⟩
theorem RepL.snoc {K : PySem.W.Frag} {H : Hp} {d : D} {v : V} (hd : Rep K H d v) : ∀ {ds : List D} {vs : List V}, RepL K H ds vs → RepL K H (ds ++ [d]) (vs ++ [v])
  | [], vs, h => by
    have e : vs = [] := h
    rw [e]
    exact ⟨v, [], rfl, hd, rfl⟩
  | d' :: ds, vs, h => by
    obtain ⟨u, r, e1, e2, e3⟩ := h
    rw [e1]
    exact ⟨u, r ++ [v], rfl, e2, RepL.snoc hd e3⟩
theorem RepL.app {K : PySem.W.Frag} {H : Hp} {es : List D} {us : List V} (he : RepL K H es us) : ∀ {ds : List D} {vs : List V}, RepL K H ds vs → RepL K H (ds ++ es) (vs ++ us)
  | [], vs, h => by
    have e : vs = [] := h
    rw [e]
    exact he
  | d' :: ds, vs, h => by
    obtain ⟨u, r, e1, e2, e3⟩ := h
    rw [e1]
    exact ⟨u, r ++ us, rfl, e2, RepL.app he e3⟩
theorem RepL.drop {K : PySem.W.Frag} {H : Hp} : ∀ {ds : List D} {vs : List V} (n : Nat), RepL K H ds vs → RepL K H (ds.drop n) (vs.drop n)
  | ds, vs, 0, h => h
  | [], vs, n + 1, h => by
    have e : vs = [] := h
    rw [e]
    exact rfl
  | d :: ds, vs, n + 1, h => by
    obtain ⟨u, r, e1, _, e3⟩ := h
    rw [e1]
    exact RepL.drop n e3
theorem RepL.ints {K : PySem.W.Frag} {H : Hp} : ∀ {ns : List Int} {vs : List V}, RepL K H (ns.map D.i) vs → vs = ns.map V.int
  | [], vs, h => h
  | n :: ns, vs, h => by
    obtain ⟨v, r, e1, e2, e3⟩ := h
    have e2 : v = V.int n := e2
    rw [e1, e2, RepL.ints e3] <;> rfl
theorem RepL.bools {K : PySem.W.Frag} {H : Hp} : ∀ {ns : List Bool} {vs : List V}, RepL K H (ns.map D.b) vs → vs = ns.map V.bl
  | [], vs, h => h
  | n :: ns, vs, h => by
    obtain ⟨v, r, e1, e2, e3⟩ := h
    have e2 : v = V.bl n := e2
    rw [e1, e2, RepL.bools e3] <;> rfl
theorem Rep.sc {K : PySem.W.Frag} {H : Hp} (w : V) : Rep K H (.sc w) w := rfl
theorem Rep.tup {K : PySem.W.Frag} {H : Hp} {a : Addr} {vs : List V} {ds : List D} (h : SqT K H a vs) (r : RepL K H ds vs) : Rep K H (.tup ds) (.ref a) := ⟨a, vs, rfl, h, r⟩
theorem RepL.nil {K : PySem.W.Frag} {H : Hp} : RepL K H [] [] := rfl
theorem RepL.cons {K : PySem.W.Frag} {H : Hp} {d : D} {v : V} {ds : List D} {vs : List V} (h : Rep K H d v) (r : RepL K H ds vs) : RepL K H (d :: ds) (v :: vs) := ⟨v, vs, rfl, h, r⟩

/-! ### contexts and names -/
structure Ct where
  K : PySem.W.Frag
  B : List Addr
  H0 : Hp
  I : Hp → Prop
  st : ∀ H H', I H → (∀ a o, H a = some o → H0 a ≠ none ∨ Fix o → H' a = some o) → I H'
  al : ∀ b ∈ B, H0 b ≠ none
/-- nothing may change -/
def Ct.pure (K : PySem.W.Frag) (H0 : Hp) : Ct := ⟨K, [], H0, fun _ => True, fun _ _ _ _ => trivial, by simp⟩
inductive Ent where
  | val (d : D)
  | own (a : Addr) (ds : List D)
abbrev Nm := List (Option Ent)
def EntV (C : Ct) (H : Hp) : Ent → V → Prop
  | .val d, v => Rep C.K H d v
  | .own a ds, v => v = .ref a ∧ C.H0 a = none ∧ ∃ vs, H a = some (.lst vs) ∧ RepL C.K H ds vs
structure SR (C : Ct) (nm : Nm) (σ : L2.St) (H : Hp) : Prop where
  le : Le C.B C.H0 H
  inv : C.I H
  len : σ.length = nm.length
  at_ : ∀ (i : Nat) (e : Ent), nm[i]? = some (some e) → ∃ v, σ[i]? = some (some v) ∧ EntV C H e v
section
variable {C : Ct} {nm : Nm} {σ : L2.St} {H H' : Hp}
theorem Ct.notB (C : Ct) {a : Addr} (h : C.H0 a = none) : a ∉ C.B := fun z => C.al a z h
theorem SR.step (S : SR C nm σ H) (l : Le C.B H H') (i : C.I H') : SR C nm σ H' := by
  refine ⟨S.le.trans l, i, S.len, fun j e h => ?_⟩
  obtain ⟨v, h1, h2⟩ := S.at_ j e h
  refine ⟨v, h1, ?_⟩
  cases e with
  | val d => exact Rep.to h2 l.fx
  | own a ds =>
    obtain ⟨e1, e2, vs, e3, e4⟩ := h2
    exact ⟨e1, e2, vs, l.keep e3 (C.notB e2), e4.to l.fx⟩
theorem SR.ex (S : SR C nm σ H) (l : Ex H H') : SR C nm σ H' := S.step l.le (C.st H H' S.inv fun a o e _ => l.keep e)
theorem SR.fresh (S : SR C nm σ H) {p : Addr} (h : H p = none) : C.H0 p = none := S.le.alive h
theorem SR.val (S : SR C nm σ H) {i : Nat} {d : D} (h : nm[i]? = some (some (.val d))) : ∃ v, σ[i]? = some (some v) ∧ Rep C.K H d v := S.at_ i _ h
theorem SR.own (S : SR C nm σ H) {i : Nat} {a : Addr} {ds : List D} (h : nm[i]? = some (some (.own a ds))) : σ[i]? = some (some (.ref a)) ∧ C.H0 a = none ∧ ∃ vs, H a = some (.lst vs) ∧ RepL C.K H ds vs := by
  obtain ⟨v, h1, h2, h3⟩ := S.at_ i _ h
  rw [h2] at h1
  exact ⟨h1, h3⟩
theorem SR.set (S : SR C nm σ H) (i : Nat) {e : Ent} {v : V} (h : EntV C H e v) : SR C (nm.set i (some e)) (σ.set i (some v)) H := by
  refine ⟨S.le, S.inv, by rw [List.length_set, List.length_set]; exact S.len, fun j e' h' => ?_⟩
  by_cases hj : i = j
  · subst hj
    by_cases hl : i < nm.length
    · rw [List.getElem?_set_self hl] at h'
      cases h'
      exact ⟨v, List.getElem?_set_self (by rw [S.len]; exact hl), h⟩
    · rw [List.getElem?_eq_none (by rw [List.length_set]; omega)] at h'
      cases h'
  · rw [List.getElem?_set_ne hj] at h' ⊢
    exact S.at_ j e' h'
theorem SR.forget (S : SR C nm σ H) {nm' : Nm} (hl : nm'.length = nm.length) (h : ∀ (i : Nat) (e : Ent), nm'[i]? = some (some e) → nm[i]? = some (some e)) : SR C nm' σ H := ⟨S.le, S.inv, by rw [hl]; exact S.len, fun i e q => S.at_ i e (h i e q)⟩
/-- an owned list changes -/
theorem SR.put (S : SR C nm σ H) {i : Nat} {a : Addr} {ds es : List D} {us : List V} (h : nm[i]? = some (some (.own a ds))) (hu : RepL C.K H es us) (hd : ∀ (j : Nat) (b : Addr) (zs : List D), j ≠ i → nm[j]? = some (some (.own b zs)) → b ≠ a) :
    SR C (nm.set i (some (.own a es))) σ (upd H a (.lst us)) ∧ Fx H (upd H a (.lst us)) := by
  obtain ⟨h1, h2, vs, h3, h4⟩ := S.own h
  have fx : Fx H (upd H a (.lst us)) := fun b o e f => by
    rw [upd_ne (fun z => by rw [z, h3] at e; cases e; exact f)]
    exact e
  refine ⟨⟨fun b o e => ?_, C.st _ _ S.inv fun b o e n => ?_, by rw [List.length_set]; exact S.len, fun j e' h' => ?_⟩, fx⟩
  · obtain ⟨o', q1, q2⟩ := S.le b o e
    refine ⟨o', ?_, q2⟩
    rw [upd_ne (fun z => by rw [z, h2] at e; cases e)]
    exact q1
  · rw [upd_ne (fun z => n.elim (fun n => n (by rw [z]; exact h2)) fun f => by rw [z, h3] at e; cases e; exact f)]
    exact e
  · by_cases hj : i = j
    · subst hj
      have hl := (List.getElem?_eq_some_iff.mp h).1
      rw [List.getElem?_set_self hl] at h'
      cases h'
      exact ⟨.ref a, h1, rfl, h2, us, upd_same, hu.to fx⟩
    · rw [List.getElem?_set_ne hj] at h'
      obtain ⟨v, q1, q2⟩ := S.at_ j e' h'
      refine ⟨v, q1, ?_⟩
      cases e' with
      | val d => exact Rep.to q2 fx
      | own b zs =>
        obtain ⟨e1, e2, ws, e3, e4⟩ := q2
        refine ⟨e1, e2, ws, ?_, e4.to fx⟩
        rw [upd_ne (hd j b zs (fun z => hj z.symm) h')]
        exact e3
end
/-! ### the block of a comprehension -/
def wipeN (nm : Nm) : List Nat → Nm
  | [] => nm
  | v :: vs => (wipeN nm vs).set v none
theorem SR.wipe {C : Ct} {nm : Nm} {σ : L2.St} {H : Hp} (S : SR C nm σ H) : ∀ vs : List Nat, SR C (wipeN nm vs) (L2.wipe σ vs) H
  | [] => S
  | w :: vs => by
    have ih := S.wipe vs
    refine ⟨ih.le, ih.inv, by unfold L2.wipe wipeN; rw [List.length_set, List.length_set]; exact ih.len, fun i e h => ?_⟩
    unfold wipeN at h
    by_cases hi : w = i
    · subst hi
      by_cases hl : w < (wipeN nm vs).length
      · rw [List.getElem?_set_self hl] at h; cases h
      · rw [List.getElem?_eq_none (by rw [List.length_set]; omega)] at h; cases h
    · rw [List.getElem?_set_ne hi] at h
      unfold L2.wipe
      rw [List.getElem?_set_ne hi]
      exact ih.at_ i e h
theorem wipe_at {σ : L2.St} {i : Nat} : ∀ {vs : List Nat}, (L2.wipe σ vs)[i]? = if i ∈ vs ∧ i < σ.length then some none else σ[i]? := by
  intro vs
  induction vs with
  | nil => simp [L2.wipe]
  | cons w vs ih =>
    unfold L2.wipe
    by_cases hi : w = i
    · subst hi
      by_cases hl : w < σ.length
      · rw [List.getElem?_set_self (by rw [wipe_length]; exact hl), if_pos ⟨List.mem_cons_self, hl⟩]
      · rw [List.getElem?_eq_none (by rw [List.length_set, wipe_length]; omega), if_neg (fun z => hl z.2), List.getElem?_eq_none (by omega)]
    · rw [List.getElem?_set_ne hi, ih]
      have e : (i ∈ w :: vs) ↔ i ∈ vs := by
        rw [List.mem_cons]
        exact ⟨fun z => z.elim (fun q => absurd q.symm hi) id, .inr⟩
      simp only [e]
/-- only slots of vs were written: wiped again, the same -/
theorem wipe_again {σ σ' : L2.St} {vs : List Nat} (hl : σ'.length = σ.length) (h : ∀ i : Nat, i ∉ vs → σ'[i]? = (L2.wipe σ vs)[i]?) : L2.wipe σ' vs = L2.wipe σ vs := by
  refine List.ext_getElem? fun i => ?_
  rw [wipe_at]
  by_cases hi : i ∈ vs
  · rw [wipe_at, hl]
    by_cases h2 : i < σ.length
    · rw [if_pos ⟨hi, h2⟩, if_pos ⟨hi, h2⟩]
    · rw [if_neg (fun z => h2 z.2), if_neg (fun z => h2 z.2), List.getElem?_eq_none (by omega), List.getElem?_eq_none (by omega)]
  · rw [if_neg (fun z => hi z.1), h i hi]

/-! ### what a reading evaluates to -/
abbrev Is (d : D) : D → Prop := fun x => x = d
def Ev (C : Ct) (nm : Nm) (te : TE) (R : D → Prop) : Prop := ∀ σ H (Q : VK), SR C nm σ H → (∀ v d H', R d → Le C.B H H' → C.I H' → Rep C.K H' d v → Q v H') → te σ H Q
/-- a test -/
def Et (C : Ct) (nm : Nm) (tt : TT) (b : Bool) : Prop := ∀ σ H (Q : Bool → Hp → Prop), SR C nm σ H → (∀ H', Le C.B H H' → C.I H' → Q b H') → tt σ H Q
/-- arguments -/
def Ea (C : Ct) (nm : Nm) (ta : TA) (R : List D → Prop) : Prop := ∀ σ H (Q : List V → Hp → Prop), SR C nm σ H → (∀ vs ds H', R ds → Le C.B H H' → C.I H' → RepL C.K H' ds vs → Q vs H') → ta σ H Q
/-- a new list -/
def El (C : Ct) (nm : Nm) (te : TE) (R : List D → Prop) : Prop := ∀ σ H (Q : VK), SR C nm σ H → (∀ p vs ds H', R ds → H p = none → Le C.B H H' → C.I H' → H' p = some (.lst vs) → RepL C.K H' ds vs → Q (.ref p) H') → te σ H Q
/-- a two-place operation on values -/
def Rv (C : Ct) (r : R2) (x y : D) (R : D → Prop) : Prop := ∀ H vx vy (Q : VK), Le C.B C.H0 H → C.I H → Rep C.K H x vx → Rep C.K H y vy → (∀ v d H', R d → Le C.B H H' → C.I H' → Rep C.K H' d v → Q v H') → r vx vy H Q
/-- a call on values -/
def Rc (C : Ct) (r : List V → Hp → VK → Prop) (ds : List D) (R : D → Prop) : Prop := ∀ H vs (Q : VK), Le C.B C.H0 H → C.I H → RepL C.K H ds vs → (∀ v d H', R d → Le C.B H H' → C.I H' → Rep C.K H' d v → Q v H') → r vs H Q
section
variable {C : Ct} {nm : Nm} {ta tb te : TE} {R Ra Rb : D → Prop} {x y d : D} {r : R2} {t u : TT} {a b : Bool}
theorem Ct.exI (C : Ct) {H H' : Hp} (i : C.I H) (e : Ex H H') : C.I H' := C.st H H' i fun a o q _ => e.keep q
theorem Ev.imp (h : Ev C nm te Ra) (i : ∀ d, Ra d → R d) : Ev C nm te R := fun σ H Q S q => h σ H Q S fun v d H' rd => q v d H' (i d rd)
theorem ev_var {i : Nat} (h : nm[i]? = some (some (.val d))) : Ev C nm (tVar i) (Is d) := fun σ H Q S q => by
  obtain ⟨v, h1, h2⟩ := S.val h
  exact ⟨v, h1, q v d H rfl (Le.refl _ _) S.inv h2⟩
theorem ev_c {v : V} : Ev C nm (tC v) (Is (.sc v)) := fun σ H Q S q => q v _ H rfl (Le.refl _ _) S.inv rfl
/-- a written tuple of the module's top -/
theorem ev_cK {v : V} (h : Rep C.K C.H0 d v) : Ev C nm (tC v) (Is d) := fun σ H Q S q => q v d H rfl (Le.refl _ _) S.inv (h.to S.le.fx)
theorem ev_opR (ha : Ev C nm ta Ra) (hb : Ev C nm tb Rb) (hr : ∀ x y, Ra x → Rb y → Rv C r x y R) : Ev C nm (tOp r ta tb) R := fun σ H Q S q =>
  ha σ H _ S fun vx x H1 rx l1 i1 p1 => hb σ H1 _ (S.step l1 i1) fun vy y H2 ry l2 i2 p2 => hr x y rx ry H2 vx vy Q (S.le.trans (l1.trans l2)) i2 (p1.to l2.fx) p2 fun v d H3 rd l3 i3 p3 => q v d H3 rd (l1.trans (l2.trans l3)) i3 p3
theorem ev_op (ha : Ev C nm ta (Is x)) (hb : Ev C nm tb (Is y)) (hr : Rv C r x y R) : Ev C nm (tOp r ta tb) R := ev_opR ha hb fun _ _ e1 e2 => by
  rw [e1, e2]
  exact hr
theorem ev_unR {ru : V → Hp → VK → Prop} (ha : Ev C nm ta Ra) (hr : ∀ x, Ra x → ∀ H vx (Q : VK), C.I H → Rep C.K H x vx → (∀ v d H', R d → Le C.B H H' → C.I H' → Rep C.K H' d v → Q v H') → ru vx H Q) : Ev C nm (tUn ru ta) R := fun σ H Q S q =>
  ha σ H _ S fun vx x H1 rx l1 i1 p1 => hr x rx H1 vx Q i1 p1 fun v d H2 rd l2 i2 p2 => q v d H2 rd (l1.trans l2) i2 p2
theorem ev_neg {i : Int} (ha : Ev C nm ta (Is (.i i))) : Ev C nm (tUn (rU fun i => .int (-i)) ta) (Is (.i (-i))) := ev_unR ha fun x e H vx Q I p q => by
  rw [e] at p
  exact ⟨i, p, q _ _ H rfl (Le.refl _ _) I rfl⟩
theorem rv_I0 {g : Int → Int → V} {i j : Int} : Rv C (rI0 g) (.i i) (.i j) (Is (.sc (g i j))) := fun H vx vy Q _ I p1 p2 q => ⟨i, j, p1, p2, q _ _ H rfl (Le.refl _ _) I rfl⟩
theorem rv_I {c : Int → Int → Prop} {g : Int → Int → V} {i j : Int} (h : c i j) : Rv C (rI c g) (.i i) (.i j) (Is (.sc (g i j))) := fun H vx vy Q _ I p1 p2 q => ⟨i, j, p1, p2, h, q _ _ H rfl (Le.refl _ _) I rfl⟩
theorem rv_eq {v w : V} (h : scal v w = true) : Rv C rEq (.sc v) (.sc w) (Is (.b (decide (v = w)))) := fun H vx vy Q _ I p1 p2 q => by
  have p1 : vx = v := p1
  have p2 : vy = w := p2
  rw [p1, p2]
  exact ⟨h, q _ _ H rfl (Le.refl _ _) I rfl⟩
theorem rv_ne {v w : V} (h : scal v w = true) : Rv C rNe (.sc v) (.sc w) (Is (.b (!decide (v = w)))) := fun H vx vy Q _ I p1 p2 q => by
  have p1 : vx = v := p1
  have p2 : vy = w := p2
  rw [p1, p2]
  exact ⟨h, q _ _ H rfl (Le.refl _ _) I rfl⟩
theorem rv_isN {v w : V} (hw : w = .non) {p : V → V → Bool} : Rv C (fun x y H Q => y = .non ∧ Q (.bl (decide (x = .non))) H) (.sc v) (.sc w) (Is (.b (decide (v = .non)))) := fun H vx vy Q _ I p1 p2 q => by
  have p1 : vx = v := p1
  have p2 : vy = w := p2
  rw [p1, p2]
  exact ⟨hw, q _ _ H rfl (Le.refl _ _) I rfl⟩
theorem rv_ixT {ds : List D} {j : Nat} (h : ds[j]? = some d) : Rv C (rIxT C.K) (.tup ds) (.i (j : Int)) (Is d) := fun H vx vy Q _ I p1 p2 q => by
  obtain ⟨p, vs, e1, e2, e3⟩ := p1
  obtain ⟨v, h1, h2⟩ := e3.get h
  exact ⟨p, vs, (j : Int), v, e1, p2, e2, atI_nat h1, q v d H rfl (Le.refl _ _) I h2⟩
/-- a list of the arguments (a: where it stood at the entry), by its place -/
theorem rv_ixL {p : Addr} {vs : List V} {ds : List D} {j : Nat} (hl : SqL C.K C.H0 p vs) (hB : p ∉ C.B) (hr : RepL C.K C.H0 ds vs) (h : ds[j]? = some d) : Rv C (rIxL C.K) (.sc (.ref p)) (.i (j : Int)) (Is d) := fun H vx vy Q l I p1 p2 q => by
  have p1 : vx = .ref p := p1
  obtain ⟨v, h1, h2⟩ := hr.get h
  exact ⟨p, vs, (j : Int), v, p1, p2, l.l hB hl, atI_nat h1, q v d H rfl (Le.refl _ _) I (h2.to l.fx)⟩
theorem et_val (h : Ev C nm te (Is (.b b))) : Et C nm (tB te) b := fun σ H Q S q => h σ H _ S fun v d H1 e l i p => by
  rw [e] at p
  exact ⟨b, p, q H1 l i⟩
theorem et_test (h : Ev C nm te (Is (.b b))) : Et C nm (tTest te) b := fun σ H Q S q => h σ H _ S fun v d H1 e l i p => by
  rw [e] at p
  exact ⟨b, p, q H1 l i⟩
theorem Et.is (h : Et C nm t a) (e : a = b) : Et C nm t b := by
  rw [← e]
  exact h
theorem et_and (h1 : Et C nm t a) (h2 : a = true → Et C nm u b) (hc : (a && b) = d') : Et C nm (tAnd t u) d' := fun σ H Q S q => h1 σ H _ S fun H1 l i => by
  subst hc
  cases a with
  | true =>
    show u σ H1 Q
    exact h2 rfl σ H1 Q (S.step l i) fun H2 l2 i2 => q H2 (l.trans l2) i2
  | false => exact q H1 l i
theorem et_or (h1 : Et C nm t a) (h2 : a = false → Et C nm u b) (hc : (a || b) = d') : Et C nm (tOr t u) d' := fun σ H Q S q => h1 σ H _ S fun H1 l i => by
  subst hc
  cases a with
  | true => exact q H1 l i
  | false =>
    show u σ H1 Q
    exact h2 rfl σ H1 Q (S.step l i) fun H2 l2 i2 => q H2 (l.trans l2) i2
theorem et_not (h1 : Et C nm t a) : Et C nm (tNot t) (!a) := fun σ H Q S q => h1 σ H _ S fun H1 l i => q H1 l i
theorem et_yes : Et C nm tYes true := fun σ H Q S q => q H (Le.refl _ _) S.inv
theorem ev_and (h1 : Ev C nm ta (Is (.b a))) (h2 : a = true → Ev C nm tb (Is (.b b))) (hc : (a && b) = d') : Ev C nm (tAndV ta tb) (Is (.b d')) := fun σ H Q S q => h1 σ H _ S fun v d H1 e l i p => by
  subst hc
  rw [e] at p
  refine ⟨a, p, ?_⟩
  cases a with
  | true =>
    show tb σ H1 Q
    exact h2 rfl σ H1 Q (S.step l i) fun v d H2 e l2 i2 p => q v d H2 (by rw [e] <;> rfl) (l.trans l2) i2 p
  | false => exact q _ _ H1 rfl l i rfl
theorem ev_or (h1 : Ev C nm ta (Is (.b a))) (h2 : a = false → Ev C nm tb (Is (.b b))) (hc : (a || b) = d') : Ev C nm (tOrV ta tb) (Is (.b d')) := fun σ H Q S q => h1 σ H _ S fun v d H1 e l i p => by
  subst hc
  rw [e] at p
  refine ⟨a, p, ?_⟩
  cases a with
  | true => exact q _ _ H1 rfl l i rfl
  | false =>
    show tb σ H1 Q
    exact h2 rfl σ H1 Q (S.step l i) fun v d H2 e l2 i2 p => q v d H2 (by rw [e] <;> rfl) (l.trans l2) i2 p
theorem ev_not (h1 : Ev C nm ta (Is (.b a))) : Ev C nm (tNotV ta) (Is (.b (!a))) := fun σ H Q S q => h1 σ H _ S fun v d H1 e l i p => by
  rw [e] at p
  exact ⟨a, p, q _ _ H1 rfl l i rfl⟩
theorem ev_if (h : Et C nm t b) (h1 : b = true → Ev C nm ta R) (h2 : b = false → Ev C nm tb R) : Ev C nm (tIf t ta tb) R := fun σ H Q S q => h σ H _ S fun H1 l i => by
  cases b with
  | true =>
    show ta σ H1 Q
    exact h1 rfl σ H1 Q (S.step l i) fun v d H2 e l2 i2 p => q v d H2 e (l.trans l2) i2 p
  | false =>
    show tb σ H1 Q
    exact h2 rfl σ H1 Q (S.step l i) fun v d H2 e l2 i2 p => q v d H2 e (l.trans l2) i2 p
/-- a <= b <= c -/
theorem ev_chain {i j k : Int} {tc : TE} {g g' : Int → Int → Bool} (ha : Ev C nm ta (Is (.i i))) (hb : Ev C nm tb (Is (.i j))) (hc : Ev C nm tc (Is (.i k))) : Ev C nm (tChain (rI0 fun i j => .bl (g i j)) (rI0 fun i j => .bl (g' i j)) ta tb tc) (Is (.b (g i j && g' j k))) := fun σ H Q S q =>
  ha σ H _ S fun vx x H1 rx l1 i1 p1 => hb σ H1 _ (S.step l1 i1) fun vy y H2 ry l2 i2 p2 => by
    rw [rx] at p1
    rw [ry] at p2
    refine ⟨i, j, p1, p2, g i j, rfl, ?_⟩
    cases hg : g i j with
    | true =>
      rw [hg] at q
      show tc σ H2 _
      exact hc σ H2 _ (S.step (l1.trans l2) i2) fun vz z H3 rz l3 i3 p3 => by
        rw [rz] at p3
        exact ⟨j, k, p2, p3, q _ _ H3 rfl (l1.trans (l2.trans l3)) i3 rfl⟩
    | false =>
      rw [hg] at q
      show Q _ H2
      exact q _ _ H2 rfl (l1.trans l2) i2 rfl
theorem ea_nil : Ea C nm tNil (fun ds => ds = []) := fun σ H Q S q => q [] [] H rfl (Le.refl _ _) S.inv rfl
theorem ea_consR {tr : TA} {Rs : List D → Prop} (ha : Ev C nm ta Ra) (hr : Ea C nm tr Rs) : Ea C nm (tCons ta tr) (fun ds => ∃ d es, ds = d :: es ∧ Ra d ∧ Rs es) := fun σ H Q S q =>
  ha σ H _ S fun vx x H1 rx l1 i1 p1 => hr σ H1 _ (S.step l1 i1) fun vs ds H2 rs l2 i2 p2 => q (vx :: vs) (x :: ds) H2 ⟨x, ds, rfl, rx, rs⟩ (l1.trans l2) i2 (.cons (p1.to l2.fx) p2)
theorem ea_cons {tr : TA} {ds : List D} (ha : Ev C nm ta (Is d)) (hr : Ea C nm tr (fun es => es = ds)) : Ea C nm (tCons ta tr) (fun es => es = d :: ds) := fun σ H Q S q =>
  ea_consR ha hr σ H Q S fun vs es H' h l i p => q vs es H' (by obtain ⟨_, _, e1, e2, e3⟩ := h; rw [e1, e2, e3]) l i p
theorem ev_tup {t : TA} {ds : List D} (h : Ea C nm t (fun es => es = ds)) (hl : ds.length ≤ 1000) : Ev C nm (tTup t) (Is (.tup ds)) := fun σ H Q S q =>
  h σ H _ S fun vs es H1 e l i p => by
    subst e
    refine ⟨Nat.le_of_lt (small1000 (by rw [p.len]; exact hl)), fun a ha => ?_⟩
    have x : Ex H1 (upd H1 a (.tup vs)) := Ex.new ha
    exact q _ _ _ rfl (l.trans x.le) (C.exI i x) (.tup (.inl (.inl upd_same)) (p.to x.fx))
theorem ev_tupR {t : TA} {Rs : List D → Prop} (h : Ea C nm t Rs) (hl : ∀ ds, Rs ds → ds.length ≤ 1000) : Ev C nm (tTup t) (fun d => ∃ ds, d = .tup ds ∧ Rs ds) := fun σ H Q S q =>
  h σ H _ S fun vs es H1 e l i p => by
    refine ⟨Nat.le_of_lt (small1000 (by rw [p.len]; exact hl es e)), fun a ha => ?_⟩
    have x : Ex H1 (upd H1 a (.tup vs)) := Ex.new ha
    exact q _ _ _ ⟨es, rfl, e⟩ (l.trans x.le) (C.exI i x) (.tup (.inl (.inl upd_same)) (p.to x.fx))
theorem el_lst {t : TA} {ds : List D} (h : Ea C nm t (fun es => es = ds)) (hl : ds.length ≤ 1000) : El C nm (tLst t) (fun es => es = ds) := fun σ H Q S q =>
  h σ H _ S fun vs es H1 e l i p => by
    subst e
    refine ⟨Nat.le_of_lt (small1000 (by rw [p.len]; exact hl)), fun a ha => ?_⟩
    have x : Ex H1 (upd H1 a (.lst vs)) := Ex.new ha
    exact q a vs es _ rfl (l.alive ha) (l.trans x.le) (C.exI i x) upd_same (p.to x.fx)
/-- calls by values -/
theorem ev_callR {rc : List V → Hp → VK → Prop} {t : TA} {Rs : List D → Prop} (h : Ea C nm t Rs) (hr : ∀ ds, Rs ds → Rc C rc ds R) : Ev C nm (tCB rc t) R := fun σ H Q S q =>
  h σ H _ S fun vs ds H1 rs l i p => hr ds rs H1 vs Q (S.le.trans l) i p fun v d H2 rd l2 i2 p2 => q v d H2 rd (l.trans l2) i2 p2
theorem ev_callB {rc : List V → Hp → VK → Prop} {t : TA} {ds : List D} (h : Ea C nm t (fun es => es = ds)) (hr : Rc C rc ds R) : Ev C nm (tCB rc t) R := ev_callR h fun es e => by
  rw [e]
  exact hr
theorem ev_callF {sp : Sp} {E : XK} {t : TA} {ds : List D} (h : Ea C nm t (fun es => es = ds)) (hr : Rc C (fun vs H Q => sp (vs ++ []) H Q E) ds R) : Ev C nm (tCall sp [] E t) R := fun σ H Q S q =>
  h σ H _ S fun vs es H1 rs l i p => by
    subst rs
    exact hr H1 vs Q (S.le.trans l) i p fun v d H2 rd l2 i2 p2 => q v d H2 rd (l.trans l2) i2 p2
theorem ev_callFR {sp : Sp} {E : XK} {t : TA} {Rs : List D → Prop} (h : Ea C nm t Rs) (hr : ∀ ds, Rs ds → Rc C (fun vs H Q => sp (vs ++ []) H Q E) ds R) : Ev C nm (tCall sp [] E t) R := fun σ H Q S q =>
  h σ H _ S fun vs es H1 rs l i p => hr es rs H1 vs Q (S.le.trans l) i p fun v d H2 rd l2 i2 p2 => q v d H2 rd (l.trans l2) i2 p2
/-- a call whose one argument is a new list -/
theorem ev_callL {rc : List V → Hp → VK → Prop} {Rs : List D → Prop} (h : El C nm te Rs) (hr : ∀ H p vs ds (Q : VK), Rs ds → C.I H → Le C.B C.H0 H → H p = some (.lst vs) → RepL C.K H ds vs → (∀ v d H', R d → Le C.B H H' → C.I H' → Rep C.K H' d v → Q v H') → rc [.ref p] H Q) : Ev C nm (tCB rc (tCons te tNil)) R := fun σ H Q S q =>
  h σ H _ S fun p vs ds H1 rs n l i e r => hr H1 p vs ds Q rs i (S.le.trans l) e r fun v d H2 rd l2 i2 p2 => q v d H2 rd (l.trans l2) i2 p2
theorem ev_callFL {sp : Sp} {E : XK} {Rs : List D → Prop} (h : El C nm te Rs) (hr : ∀ H p vs ds (Q : VK), Rs ds → C.I H → Le C.B C.H0 H → H p = some (.lst vs) → RepL C.K H ds vs → (∀ v d H', R d → Le C.B H H' → C.I H' → Rep C.K H' d v → Q v H') → sp [.ref p] H Q E) : Ev C nm (tCall sp [] E (tCons te tNil)) R := fun σ H Q S q =>
  h σ H _ S fun p vs ds H1 rs n l i e r => hr H1 p vs ds Q rs i (S.le.trans l) e r fun v d H2 rd l2 i2 p2 => q v d H2 rd (l.trans l2) i2 p2
end
end Q3
/-! Statements, loops, comprehensions, promises over the data layer. -/
namespace Q3
open PySem L2
/-! ### statements -/
def Es (C : Ct) (nm : Nm) (ts : TS) (N : Nm → Prop) (Rt : D → Prop) : Prop := ∀ σ H (Dd : Ends), SR C nm σ H → (∀ nm' σ' H', N nm' → SR C nm' σ' H' → Fx H H' → Dd.nx σ' H') →
  (∀ v d H', Rt d → Le C.B C.H0 H' → C.I H' → Rep C.K H' d v → Dd.rt v H') → ts Dd σ H
/-- a target takes a datum: only slots of js are written -/
def Eg (C : Ct) (nm : Nm) (g : TG) (d : D) (nm' : Nm) (js : List Nat) : Prop := ∀ σ H v (Q : L2.St → Hp → Prop), SR C nm σ H → Rep C.K H d v → (∀ σ' : L2.St, SR C nm' σ' H → σ'.length = σ.length → (∀ i : Nat, i ∉ js → σ'[i]? = σ[i]?) → Q σ' H) → g v σ H Q
section
variable {C : Ct} {nm : Nm} {te : TE} {R : D → Prop} {d : D} {t u tb : TS} {N N1 : Nm → Prop} {Rt : D → Prop} {c : TT} {b : Bool} {i : Nat}
theorem Es.imp {N' : Nm → Prop} {Rt' : D → Prop} (h : Es C nm t N Rt) (h1 : ∀ n, N n → N' n) (h2 : ∀ d, Rt d → Rt' d) : Es C nm t N' Rt' := fun σ H Dd S q r => h σ H Dd S (fun nm' σ' H' hn => q nm' σ' H' (h1 nm' hn)) fun v d H' hr => r v d H' (h2 d hr)
theorem es_seq (h1 : Es C nm t N1 Rt) (h2 : ∀ nm', N1 nm' → Es C nm' u N Rt) : Es C nm (tSeq t u) N Rt := fun σ H Dd S q r =>
  h1 σ H { Dd with nx := u Dd } S (fun nm' σ' H' hn S' f => h2 nm' hn σ' H' Dd S' (fun nm2 σ2 H2 hn2 S2 f2 => q nm2 σ2 H2 hn2 S2 (f.trans f2)) r) r
theorem es_next (h : N nm) : Es C nm tNext N Rt := fun σ H Dd S q _ => q nm σ H h S (Fx.refl H)
theorem es_ret (h : Ev C nm te Rt) : Es C nm (tRet te) N Rt := fun σ H Dd S _ r => h σ H _ S fun v d H' rd l i p => r v d H' rd (S.le.trans l) i p
theorem es_retN (h : Rt (.sc .non)) : Es C nm tRetN N Rt := fun σ H Dd S _ r => r .non _ H h S.le S.inv rfl
theorem es_if (h : Et C nm c b) (h1 : b = true → Es C nm t N Rt) (h2 : b = false → Es C nm u N Rt) : Es C nm (tIfS c t u) N Rt := fun σ H Dd S q r => h σ H _ S fun H1 l i => by
  cases b with
  | true =>
    show t Dd σ H1
    exact h1 rfl σ H1 Dd (S.step l i) (fun nm' σ' H' hn S' f => q nm' σ' H' hn S' (l.fx.trans f)) r
  | false =>
    show u Dd σ H1
    exact h2 rfl σ H1 Dd (S.step l i) (fun nm' σ' H' hn S' f => q nm' σ' H' hn S' (l.fx.trans f)) r
theorem es_drop (h : Ev C nm te R) (hn : N nm) : Es C nm (tDrop te) N Rt := fun σ H Dd S q _ => h σ H _ S fun v d H1 _ l i _ => q nm σ H1 hn (S.step l i) l.fx
theorem es_asgR (h : Ev C nm te R) (hn : ∀ d, R d → N (nm.set i (some (.val d)))) : Es C nm (tAsg te (gName i)) N Rt := fun σ H Dd S q _ =>
  h σ H _ S fun v d H1 rd l ii p => q _ _ H1 (hn d rd) ((S.step l ii).set i (e := .val d) p) l.fx
theorem es_asg (h : Ev C nm te (Is d)) (hn : N (nm.set i (some (.val d)))) : Es C nm (tAsg te (gName i)) N Rt := es_asgR h fun _ e => by
  rw [e]
  exact hn
/-- a new list is taken under a name -/
theorem es_asgL {Rs : List D → Prop} (h : El C nm te Rs) (hn : ∀ p ds, Rs ds → (∀ (j : Nat) (b : Addr) (zs : List D), nm[j]? = some (some (.own b zs)) → b ≠ p) → N (nm.set i (some (.own p ds)))) : Es C nm (tAsg te (gName i)) N Rt := fun σ H Dd S q _ =>
  h σ H _ S fun p vs ds H1 rs hp l ii e r => q _ _ H1 (hn p ds rs fun j b zs hj z => by
      obtain ⟨_, _, ws, h3, _⟩ := S.own hj
      rw [z, hp] at h3
      cases h3) ((S.step l ii).set i (e := .own p ds) ⟨rfl, S.fresh hp, vs, e, r⟩) l.fx
theorem eg_name : Eg C nm (gName i) d (nm.set i (some (.val d))) [i] := fun σ H v Q S p q => q _ (S.set i (e := .val d) p) (List.length_set ..) fun j hj => List.getElem?_set_ne fun z => hj (by rw [z]; exact List.mem_cons_self)
theorem eg_two {d1 d2 : D} {i j : Nat} : Eg C nm (gTup C.K 2 (gCons (gName i) (gCons (gName j) gNil))) (.tup [d1, d2]) ((nm.set i (some (.val d1))).set j (some (.val d2))) [i, j] := fun σ H v Q S p q => by
  obtain ⟨a, vs, rfl, hs, v1, r1, rfl, p1, v2, r2, rfl, p2, rfl⟩ := p
  refine ⟨a, [v1, v2], rfl, hs, rfl, v1, [v2], rfl, v2, [], rfl, rfl, ?_⟩
  refine q _ ((S.set i (e := .val d1) p1).set j (e := .val d2) p2) (by rw [List.length_set, List.length_set]) fun k hk => ?_
  rw [List.getElem?_set_ne fun z => hk (by rw [z]; simp), List.getElem?_set_ne fun z => hk (by rw [z]; simp)]
theorem eg_three {d1 d2 d3 : D} {i j k : Nat} : Eg C nm (gTup C.K 3 (gCons (gName i) (gCons (gName j) (gCons (gName k) gNil)))) (.tup [d1, d2, d3]) (((nm.set i (some (.val d1))).set j (some (.val d2))).set k (some (.val d3))) [i, j, k] := fun σ H v Q S p q => by
  obtain ⟨a, vs, rfl, hs, v1, r1, rfl, p1, v2, r2, rfl, p2, v3, r3, rfl, p3, rfl⟩ := p
  refine ⟨a, [v1, v2, v3], rfl, hs, rfl, v1, [v2, v3], rfl, v2, [v3], rfl, v3, [], rfl, rfl, ?_⟩
  refine q _ (((S.set i (e := .val d1) p1).set j (e := .val d2) p2).set k (e := .val d3) p3) (by rw [List.length_set, List.length_set, List.length_set]) fun m hm => ?_
  rw [List.getElem?_set_ne fun z => hm (by rw [z]; simp), List.getElem?_set_ne fun z => hm (by rw [z]; simp), List.getElem?_set_ne fun z => hm (by rw [z]; simp)]
/-- a, b = e -/
theorem es_asgG {g : TG} {js : List Nat} {nm' : Nm} (h : Ev C nm te (Is d)) (hg : Eg C nm g d nm' js) (hn : N nm') : Es C nm (tAsg te g) N Rt := fun σ H Dd S q _ =>
  h σ H _ S fun v d' H1 rd l ii p => by
    rw [rd] at p
    exact hg σ H1 v _ (S.step l ii) p fun σ' S' _ _ => q nm' σ' H1 hn S' l.fx
/-- a, b = e1, e2 -/
theorem es_par {ta : TA} {d1 d2 : D} {i j : Nat} (h : Ea C nm ta (fun es => es = [d1, d2])) (hn : N ((nm.set i (some (.val d1))).set j (some (.val d2)))) : Es C nm (tPar i j ta) N Rt := fun σ H Dd S q _ =>
  h σ H _ S fun vs ds H1 e l ii p => by
    subst e
    obtain ⟨v1, r1, rfl, p1, v2, r2, rfl, p2, e⟩ := p
    have e : r2 = [] := e
    subst e
    exact ⟨v1, v2, rfl, q _ _ H1 hn (((S.step l ii).set i (e := .val d1) p1).set j (e := .val d2) p2) l.fx⟩
/-- x.append(e), x an owned list -/
theorem es_app {a : Addr} {ds : List D} (ha : nm[i]? = some (some (.own a ds))) (h : Ev C nm te R) (hz : ds.length ≤ 1000) (hd : ∀ (j : Nat) (b : Addr) (zs : List D), j ≠ i → nm[j]? = some (some (.own b zs)) → b ≠ a) (hn : ∀ d, R d → N (nm.set i (some (.own a (ds ++ [d]))))) :
    Es C nm (tDrop (tBM C.K "list" rAppend (tVar i) (tCons te tNil))) N Rt := fun σ H Dd S q _ => by
  obtain ⟨h1, h2, vs0, h3, _⟩ := S.own ha
  refine ⟨.ref a, h1, .inl ⟨rfl, _, .inl (.inl h3)⟩, h σ H _ S fun v d H1 rd l ii p => ?_⟩
  have S1 := S.step l ii
  obtain ⟨_, _, vs, e1, e2⟩ := S1.own ha
  obtain ⟨S2, fx⟩ := S1.put ha (e2.snoc p) hd
  exact ⟨a, vs, v, rfl, rfl, e1, small1000 (by rw [e2.len]; exact hz), q _ σ _ (hn d rd) S2 (l.fx.trans fx)⟩
end
/-! ### what is walked -/
structure IsIt (J : It) (C : Ct) (ds : List D) (G : Hp → Prop) : Prop where
  go : ∀ i H, i < ds.length → G H → J.go i H
  stop : ∀ H, G H → J.stop ds.length H
  yld : ∀ i H x H', i < ds.length → G H → J.yld i H x H' → Ex H H' ∧ ∃ d, ds[i]? = some d ∧ Rep C.K H' d x
def Ei (C : Ct) (nm : Nm) (wi : TI) (ds : List D) (Kp : Nm → Prop) : Prop := ∀ σ H (R : It → Hp → Prop), SR C nm σ H →
  (∀ J H1 G, Le C.B H H1 → C.I H1 → IsIt J C ds G → (∀ nm' σ' H', Kp nm' → SR C nm' σ' H' → Fx H1 H' → G H') → R J H1) → wi σ H R
section
variable {C : Ct} {nm : Nm} {ta tl te : TE} {ds : List D}
theorem ei_tup (h : Ev C nm tl (Is (.tup ds))) : Ei C nm (iTup C.K tl) ds (fun _ => True) := fun σ H R S q => h σ H _ S fun v d H1 e l i p => by
  rw [e] at p
  obtain ⟨a, vs, rfl, hs, r⟩ := p
  refine ⟨a, rfl, ⟨vs, hs⟩, q _ H1 (fun H' => SqT C.K H' a vs ∧ RepL C.K H' ds vs) l i ⟨fun i H' hi g => ?_, fun H' g => ⟨vs, g.1, by rw [g.2.len]; exact Nat.le_refl _⟩, fun i H' x H2 hi g y => ?_⟩ fun nm' σ' H' _ S' f => ⟨f.t hs, r.to f⟩⟩
  · exact ⟨vs, vs[i]'(by rw [g.2.len]; exact hi), g.1, List.getElem?_eq_getElem _⟩
  · obtain ⟨e1, e2⟩ := y
    rw [e1]
    exact ⟨Le.refl _ _, g.2.getV (e2 vs g.1)⟩
/-- a list of the arguments -/
theorem ei_lst {p : Addr} {vs : List V} (h : Ev C nm tl (Is (.sc (.ref p)))) (hl : SqL C.K C.H0 p vs) (hB : p ∉ C.B) (hr : RepL C.K C.H0 ds vs) : Ei C nm (iList C.K tl) ds (fun _ => True) := fun σ H R S q => h σ H _ S fun v d H1 e l i p1 => by
  rw [e] at p1
  have p1 : v = .ref p := p1
  have l1 := S.le.trans l
  refine ⟨p, p1, ⟨vs, l1.l hB hl⟩, q _ H1 (fun H' => SqL C.K H' p vs ∧ RepL C.K H' ds vs) l i ⟨fun i H' hi g => ?_, fun H' g => ⟨vs, g.1, by rw [g.2.len]; exact Nat.le_refl _⟩, fun i H' x H2 hi g y => ?_⟩ fun nm' σ' H' _ S' f => ⟨S'.le.l hB hl, hr.to S'.le.fx⟩⟩
  · exact ⟨vs, vs[i]'(by rw [g.2.len]; exact hi), g.1, List.getElem?_eq_getElem _⟩
  · obtain ⟨e1, e2⟩ := y
    rw [e1]
    exact ⟨Le.refl _ _, g.2.getV (e2 vs g.1)⟩
/-- an owned list -/
theorem ei_own {a : Addr} {k : Nat} (h : nm[k]? = some (some (.own a ds))) : Ei C nm (iList C.K (tVar k)) ds (fun nm' => nm'[k]? = some (some (.own a ds))) := fun σ H R S q => by
  obtain ⟨h1, h2, vs, h3, h4⟩ := S.own h
  refine ⟨.ref a, h1, a, rfl, ⟨vs, .inl (.inl h3)⟩, q _ H (fun H' => ∃ us, H' a = some (.lst us) ∧ RepL C.K H' ds us) (Le.refl _ _) S.inv ⟨fun i H' hi g => ?_, fun H' g => ?_, fun i H' x H2 hi g y => ?_⟩ fun nm' σ' H' kp S' f => ?_⟩
  · obtain ⟨us, g1, g2⟩ := g
    exact ⟨us, us[i]'(by rw [g2.len]; exact hi), .inl (.inl g1), List.getElem?_eq_getElem _⟩
  · obtain ⟨us, g1, g2⟩ := g
    exact ⟨us, .inl (.inl g1), by rw [g2.len]; exact Nat.le_refl _⟩
  · obtain ⟨us, g1, g2⟩ := g
    obtain ⟨e1, e2⟩ := y
    rw [e1]
    exact ⟨Le.refl _ _, g2.getV (e2 us (.inl (.inl g1)))⟩
  · obtain ⟨_, _, us, z1, z2⟩ := S'.own kp
    exact ⟨us, z1, z2⟩
theorem range_at {n i : Nat} (h : i < n) : ((List.range n).map fun (j : Nat) => D.i (j : Int))[i]? = some (D.i (i : Int)) := by
  rw [List.getElem?_map, List.getElem?_range h] <;> rfl
theorem ei_range {n : Nat} {t : TA} (h : Ea C nm t (fun es => es = [.i (n : Int)])) (hn : n < 1000) : Ei C nm (iRng1 t) ((List.range n).map fun (j : Nat) => D.i (j : Int)) (fun _ => True) := fun σ H R S q => h σ H _ S fun vs es H1 e l i p => by
  subst e
  obtain ⟨v, r, rfl, e1, e2⟩ := p
  have e2 : r = [] := e2
  have e1 : v = .int (n : Int) := e1
  subst e1 e2
  have hl : ((List.range n).map fun (j : Nat) => D.i (j : Int)).length = n := by rw [List.length_map, List.length_range]
  refine ⟨(n : Int), rfl, by omega, by omega, ?_⟩
  rw [Int.toNat_natCast]
  refine q _ H1 (fun _ => True) l i ⟨fun i H' hi _ => by rw [hl] at hi; exact hi, fun H' _ => by rw [hl]; exact Nat.le_refl _, fun i H' x H2 hi _ y => ?_⟩ fun _ _ _ _ _ _ => trivial
  rw [hl] at hi
  obtain ⟨e1, e2⟩ := y
  rw [e1, e2]
  exact ⟨Le.refl _ _, _, range_at hi, by rw [Int.zero_add] <;> rfl⟩
end
theorem IsIt.walk {J : It} {C : Ct} {ds : List D} {G : Hp → Prop} (h : IsIt J C ds G) : Walk J ds.length G (fun i H x H' => Ex H H' ∧ ∃ d, ds[i]? = some d ∧ Rep C.K H' d x) := ⟨fun i H hi g => h.go i H hi g, fun H g => h.stop H g, fun i H x H' hi g y => h.yld i H x H' hi g y⟩
section
variable {C : Ct} {nm : Nm} {wi : TI} {g : TG} {tb : TS} {ds : List D} {N : Nm → Prop} {Rt : D → Prop} {Kp : Nm → Prop}
theorem es_for (hi : Ei C nm wi ds Kp) (P : Nat → Nm → Prop) (h0 : P 0 nm) (hk : ∀ i nm', P i nm' → Kp nm') (hs : ∀ i d nm', ds[i]? = some d → P i nm' → ∃ nm'' js, Eg C nm' g d nm'' js ∧ Es C nm'' tb (P (i + 1)) Rt) (hd : ∀ nm', P ds.length nm' → N nm') :
    Es C nm (tFor wi g tb) N Rt := fun σ H Dd S q r => hi σ H _ S fun J H1 G l ii it hG =>
  for_it it.walk (Pv := fun i σ' H' => ∃ nm', P i nm' ∧ SR C nm' σ' H' ∧ Fx H1 H') ⟨nm, h0, S.step l ii, Fx.refl _⟩ (fun i σ' H' _ ⟨nm', p, S', f⟩ => hG nm' σ' H' (hk i nm' p) S' f)
    (fun i x σ' H' H2 hi' ⟨nm', p, S', f⟩ y => by
      obtain ⟨ex, d, e1, e2⟩ := y
      obtain ⟨nm'', js, hg, hb⟩ := hs i d nm' e1 p
      refine hg σ' H2 x _ (S'.ex ex) e2 fun σ2 S2 _ _ => ?_
      exact hb σ2 H2 { Dd with nx := _, ct := _, bk := Dd.nx } S2 (fun nm3 σ3 H3 p3 S3 f3 => ⟨nm3, p3, S3, (f.trans ex.fx).trans f3⟩) r)
    (fun σ' H' ⟨nm', p, S', f⟩ => q nm' σ' H' (hd nm' p) S' (l.fx.trans f))
/-- a list comprehension -/
theorem el_lc {te : TE} {vs : List Nat} {Rs : List D → Prop} (hi : Ei C nm wi ds Kp) (hk : Kp nm) (hz : ds.length ≤ 1000) (P : Nat → List D → Prop) (h0 : P 0 [])
    (hs : ∀ i d acc, ds[i]? = some d → P i acc → ∃ nm' js, Eg C (wipeN nm vs) g d nm' js ∧ (∀ j ∈ js, j ∈ vs) ∧ Ev C nm' te (fun e => P (i + 1) (acc ++ [e]))) (hd : ∀ acc, P ds.length acc → Rs acc) : El C nm (tLc wi g tYes te vs) Rs := fun σ H Q S q =>
  hi σ H _ S fun J H1 G l ii it hG D hD => by
    have S1 := S.step l ii
    have fD := S1.fresh hD
    refine lc_it it.walk (Pv := fun i H' => ∃ acc us, P i acc ∧ acc.length = i ∧ H' D = some (.lst us) ∧ RepL C.K H' acc us ∧ Le C.B H1 H' ∧ C.I H') ?_ (fun i H' _ ⟨acc, us, p, _, e, r, l', i'⟩ => hG nm σ H' hk (S1.step l' i') l'.fx) (fun i x H' H2 hi' ⟨acc, us, p, al, e, r, l', i'⟩ y => ?_) fun H' ⟨acc, us, p, _, e, r, l', i'⟩ => q D us acc H' (hd acc p) (l.alive hD) (l.trans l') i' e r
    · have x : Ex H1 (upd H1 D (.lst [])) := Ex.new hD
      exact ⟨[], [], h0, rfl, upd_same, rfl, x.le, C.exI ii x⟩
    · obtain ⟨ex, d, e1, e2⟩ := y
      obtain ⟨nm', js, hg, hj, he⟩ := hs i d acc e1 p
      have S2 : SR C (wipeN nm vs) (L2.wipe σ vs) H2 := ((S1.step l' i').ex ex).wipe vs
      refine hg _ H2 x _ S2 e2 fun σ2 S3 hl2 hsl => ?_
      rw [wipe_length] at hl2
      refine ⟨wipe_again hl2 fun k hk' => hsl k fun z => hk' (hj k z), ?_⟩
      show te σ2 H2 _
      refine he σ2 H2 _ S3 fun y ed H4 pe l4 i4 ry => ?_
      have hD4 : H4 D = some (.lst us) := l4.keep (ex.keep e) (C.notB fD)
      have r4 := (r.to ex.fx).to l4.fx
      have fx : Fx H4 (upd H4 D (.lst (us ++ [y]))) := fun b o eb f => by
        rw [upd_ne (fun z => by rw [z, hD4] at eb; cases eb; exact f)]
        exact eb
      refine ⟨us, hD4, small1000 (by rw [r4.len, al]; omega), acc ++ [ed], us ++ [y], pe, by rw [List.length_append, al] <;> rfl, upd_same, (r4.snoc ry).to fx, fun b o eb => ?_, C.st _ _ i4 fun b o eb n => ?_⟩
      · obtain ⟨o', z1, z2⟩ := (l'.trans (ex.le.trans l4)) b o eb
        refine ⟨o', ?_, z2⟩
        rw [upd_ne (ne_of_none eb hD)]
        exact z1
      · rw [upd_ne (fun z => n.elim (fun n => n (by rw [z]; exact fD)) fun f => by rw [z, hD4] at eb; cases eb; exact f)]
        exact eb
/-- .. of each item its value -/
theorem el_map {te : TE} {vs : List Nat} (f : Nat → D → D) (hi : Ei C nm wi ds Kp) (hk : Kp nm) (hz : ds.length ≤ 1000)
    (hs : ∀ i d, ds[i]? = some d → ∃ nm' js, Eg C (wipeN nm vs) g d nm' js ∧ (∀ j ∈ js, j ∈ vs) ∧ Ev C nm' te (Is (f i d))) : El C nm (tLc wi g tYes te vs) (fun es => es = ds.mapIdx f) := by
  refine el_lc hi hk hz (fun i acc => acc = (ds.take i).mapIdx f) rfl (fun i d acc e p => ?_) fun acc p => by rw [p, List.take_length]
  obtain ⟨nm', js, h1, h2, h3⟩ := hs i d e
  refine ⟨nm', js, h1, h2, h3.imp fun x hx => ?_⟩
  have hi' := (List.getElem?_eq_some_iff.mp e).1
  rw [hx, p, List.take_add_one, e]
  show _ = List.mapIdx f (List.take i ds ++ [d])
  rw [List.mapIdx_append, List.length_take, Nat.min_eq_left (by omega)]
  simp
end
/-! ### promises -/
def nm0 (n : Nat) (ds : List D) : Nm := ds.map (fun d => some (.val d)) ++ List.replicate (n - ds.length) none
theorem sr0 {K : PySem.W.Frag} {H : Hp} {N : List PySem.Str} {ds : List D} {vs : List V} (r : RepL K H ds vs) : SR (Ct.pure K H) (nm0 N.length ds) (L2.start N vs) H := by
  refine ⟨Le.refl _ _, trivial, ?_, fun i e h => ?_⟩
  · unfold L2.start nm0
    rw [List.length_append, List.length_append, List.length_map, List.length_map, List.length_replicate, List.length_replicate, r.len]
  · unfold nm0 at h
    by_cases hi : i < ds.length
    · rw [List.getElem?_append_left (by rw [List.length_map]; exact hi), List.getElem?_map, List.getElem?_eq_getElem hi] at h
      cases h
      obtain ⟨v, h1, h2⟩ := r.get (List.getElem?_eq_getElem hi)
      refine ⟨v, ?_, h2⟩
      unfold L2.start
      rw [List.getElem?_append_left (by rw [List.length_map, r.len]; exact hi), List.getElem?_map, h1] <;> rfl
    · rw [List.getElem?_append_right (by rw [List.length_map]; omega), List.getElem?_replicate] at h
      split at h <;> cases h
/-- a def without effects, of data -/
def spF (K : PySem.W.Frag) (n : Nat) (pre : List D → Prop) (R : List D → D → Prop) : Sp := fun vs H Q _ => ∃ ds, RepL K H ds vs ∧ ds.length = n ∧ pre ds ∧ ∀ v d H', R ds d → Ex H H' → Rep K H' d v → Q v H'
theorem spF_len {K : PySem.W.Frag} {n : Nat} {pre : List D → Prop} {R : List D → D → Prop} {vs : List V} {H : Hp} {Q : VK} {E : XK} (h : spF K n pre R vs H Q E) : vs.length = n := by
  obtain ⟨ds, r, hl, _⟩ := h
  rw [r.len, hl]
theorem spF_body {K : PySem.W.Frag} {n : Nat} {N : List PySem.Str} {pre : List D → Prop} {R : List D → D → Prop} {t : TS} {vs : List V} {H : Hp} {Q : VK} {E : XK} (h : spF K n pre R vs H Q E) (hb : ∀ ds, ds.length = n → pre ds → Es (Ct.pure K H) (nm0 N.length ds) t (fun _ => R ds (.sc .non)) (R ds)) :
    t { nx := fun _ H' => Q .non H', rt := Q } (L2.start N vs) H := by
  obtain ⟨ds, r, hl, hp, q⟩ := h
  exact hb ds hl hp _ H _ (sr0 r) (fun nm' σ' H' hn S' _ => q .non _ H' hn S'.le rfl) fun v d H' rd l _ p => q v d H' rd l p
theorem rc_F {C : Ct} {n : Nat} {pre : List D → Prop} {R : List D → D → Prop} {ds : List D} {E : XK} (hn : ds.length = n) (hp : pre ds) : Rc C (fun vs H Q => spF C.K n pre R (vs ++ []) H Q E) ds (R ds) := fun H vs Q l i p q =>
  ⟨ds, by rw [List.append_nil]; exact p, hn, hp, fun v d H' rd x pd => q v d H' rd x.le (C.exI i x) pd⟩
/-- a def without effects, of one list of data -/
def spL (K : PySem.W.Frag) (pre : List D → Prop) (R : List D → D → Prop) : Sp := fun vs H Q _ => ∃ p us ds, vs = [.ref p] ∧ SqL K H p us ∧ RepL K H ds us ∧ pre ds ∧ ∀ v d H', R ds d → Ex H H' → Rep K H' d v → Q v H'
theorem spL_body {K : PySem.W.Frag} {N : List PySem.Str} {pre : List D → Prop} {R : List D → D → Prop} {t : TS} {vs : List V} {H : Hp} {Q : VK} {E : XK} (h : spL K pre R vs H Q E)
    (hb : ∀ p us ds, SqL K H p us → RepL K H ds us → pre ds → Es (Ct.pure K H) (nm0 N.length [.sc (.ref p)]) t (fun _ => R ds (.sc .non)) (R ds)) :
    t { nx := fun _ H' => Q .non H', rt := Q } (L2.start N vs) H := by
  obtain ⟨p, us, ds, rfl, hl, r, hp, q⟩ := h
  have r0 : RepL K H [.sc (.ref p)] [.ref p] := .cons rfl .nil
  exact hb p us ds hl r hp _ H _ (sr0 r0) (fun nm' σ' H' hn S' _ => q .non _ H' hn S'.le rfl) fun v d H' rd l _ p => q v d H' rd l p
/-- the call of such a def with a new list -/
theorem ev_L {C : Ct} {nm : Nm} {te : TE} {pre : List D → Prop} {R : List D → D → Prop} {ds : List D} {E : XK} (h : El C nm te (fun es => es = ds)) (hp : pre ds) : Ev C nm (tCall (spL C.K pre R) [] E (tCons te tNil)) (R ds) :=
  ev_callFL h fun H p vs es Q e i l hl r q => by
    subst e
    exact ⟨p, vs, es, rfl, .inl (.inl hl), r, hp, fun v d H' rd x pd => q v d H' rd x.le (C.exI i x) pd⟩
theorem ev_LR {C : Ct} {nm : Nm} {te : TE} {pre : List D → Prop} {R : List D → D → Prop} {Rs : List D → Prop} {E : XK} (h : El C nm te Rs) (hp : ∀ ds, Rs ds → pre ds) : Ev C nm (tCall (spL C.K pre R) [] E (tCons te tNil)) (fun d => ∃ ds, Rs ds ∧ R ds d) :=
  ev_callFL h fun H p vs es Q e i l hl r q => ⟨p, vs, es, rfl, .inl (.inl hl), r, hp es e, fun v d H' rd x pd => q v d H' ⟨es, e, rd⟩ x.le (C.exI i x) pd⟩
/-- .. with an owned list -/
theorem ev_Lo {C : Ct} {nm : Nm} {k : Nat} {a : Addr} {pre : List D → Prop} {R : List D → D → Prop} {ds : List D} {E : XK} (h : nm[k]? = some (some (.own a ds))) (hp : pre ds) : Ev C nm (tCall (spL C.K pre R) [] E (tCons (tVar k) tNil)) (R ds) := fun σ H Q S q => by
  obtain ⟨h1, h2, vs, h3, h4⟩ := S.own h
  exact ⟨.ref a, h1, a, vs, ds, rfl, .inl (.inl h3), h4, hp, fun v d H' rd x pd => q v d H' rd x.le (C.exI S.inv x) pd⟩
/-! ### built-ins on new lists -/
section
variable {C : Ct} {nm : Nm} {te : TE} {ds : List D}
theorem ev_all {bs : List Bool} (h : El C nm te (fun es => es = bs.map D.b)) : Ev C nm (tCB (rAll C.K) (tCons te tNil)) (Is (.b (bs.all id))) := ev_callL h fun H p vs es Q e i l hl r q => by
  subst e
  have e := r.bools
  subst e
  exact ⟨p, bs, rfl, .inl (.inl hl), q _ _ H rfl (Le.refl _ _) i rfl⟩
theorem ev_sum {ns : List Int} (h : El C nm te (fun es => es = ns.map D.i)) : Ev C nm (tCB (rSum C.K) (tCons te tNil)) (Is (.i ns.sum)) := ev_callL h fun H p vs es Q e i l hl r q => by
  subst e
  have e := r.ints
  subst e
  exact ⟨p, ns, rfl, .inl (.inl hl), q _ _ H rfl (Le.refl _ _) i rfl⟩
abbrev rTupOf (K : PySem.W.Frag) : List V → Hp → VK → Prop := fun xs H Q => ∃ p ys, xs = [.ref p] ∧ ((SqL K H p ys ∧ ∀ l, H l = none → Q (.ref l) (upd H l (.tup ys))) ∨ (SqT K H p ys ∧ Q (.ref p) H))
theorem ev_tupL {Rs : List D → Prop} (h : El C nm te Rs) : Ev C nm (tCB (rTupOf C.K) (tCons te tNil)) (fun d => ∃ es, d = .tup es ∧ Rs es) := ev_callL h fun H p vs es Q e i l hl r q =>
  ⟨p, vs, rfl, .inl ⟨.inl (.inl hl), fun a ha => by
    have x : Ex H (upd H a (.tup vs)) := Ex.new ha
    exact q _ _ _ ⟨es, rfl, e⟩ x.le (C.exI i x) (.tup (.inl (.inl upd_same)) (r.to x.fx))⟩⟩
theorem ev_tupL1 (h : El C nm te (fun es => es = ds)) : Ev C nm (tCB (rTupOf C.K) (tCons te tNil)) (Is (.tup ds)) := (ev_tupL h).imp fun d hd => by
  obtain ⟨es, e1, e2⟩ := hd
  rw [e1, e2]
theorem ev_tupO {k : Nat} {a : Addr} (h : nm[k]? = some (some (.own a ds))) : Ev C nm (tCB (rTupOf C.K) (tCons (tVar k) tNil)) (Is (.tup ds)) := fun σ H Q S q => by
  obtain ⟨h1, h2, vs, h3, h4⟩ := S.own h
  refine ⟨.ref a, h1, a, vs, rfl, .inl ⟨.inl (.inl h3), fun b hb => ?_⟩⟩
  have x : Ex H (upd H b (.tup vs)) := Ex.new hb
  exact q _ _ _ rfl x.le (C.exI S.inv x) (.tup (.inl (.inl upd_same)) (h4.to x.fx))
abbrev rLenS (K : PySem.W.Frag) : List V → Hp → VK → Prop := fun xs H Q => ∃ p ys, xs = [.ref p] ∧ (SqL K H p ys ∨ SqT K H p ys) ∧ Q (.int ys.length) H
theorem rc_len : Rc C (rLenS C.K) [.tup ds] (Is (.i (ds.length : Int))) := fun H vs Q l i p q => by
  obtain ⟨v, r, rfl, ⟨a, us, rfl, hs, hr⟩, e⟩ := p
  have e : r = [] := e
  subst e
  refine ⟨a, us, rfl, .inr hs, ?_⟩
  rw [hr.len]
  exact q _ _ H rfl (Le.refl _ _) i rfl
theorem ev_len (h : Ev C nm te (Is (.tup ds))) : Ev C nm (tCB (rLenS C.K) (tCons te tNil)) (Is (.i (ds.length : Int))) := ev_callB (ea_cons h ea_nil) rc_len
/-- isinstance -/
theorem ev_isi {d : D} {tc : TE} {n : String} {b : Bool} {t : String} (h : Ev C nm te (Is d)) (hc : Ev C nm tc (Is (.sc (.ty n)))) (hd : ∀ H v, Rep C.K H d v → TyX C.K H v (.type t)) (hk : kitB t n = some b) : Ev C nm (tCB (rIsi C.K) (tCons te (tCons tc tNil))) (Is (.b b)) :=
  ev_callB (ea_cons h (ea_cons hc ea_nil)) fun H vs Q l i p q => by
    obtain ⟨v, r, rfl, p1, v2, r2, rfl, p2, e⟩ := p
    have e : r2 = [] := e
    have p2 : v2 = .ty n := p2
    subst e p2
    exact ⟨v, .ty n, .type t, .type n, b, rfl, .ty n, hd H v p1, kit_ty hk, q _ _ H rfl (Le.refl _ _) i rfl⟩
end
end Q3
/-! enumerate of a tuple, zip of three tuples, over the layer. -/
namespace Q3
open PySem PySem.Spec PyProof.Rows L2
def IteT (K : PySem.W.Frag) (a : Addr) : It :=
  ⟨fun i H => ∃ (xs : List V) (x : V), SqT K H a xs ∧ xs[i]? = some x, fun i H v H' => ∃ T x, v = .ref T ∧ H T = none ∧ H' = upd H T (.tup [.int (i : Nat), x]) ∧ ∀ xs, SqT K H a xs → xs[i]? = some x, fun i H => ∃ xs : List V, SqT K H a xs ∧ xs.length = i⟩
theorem turn_enumT {P : Program} {w : World} {K : PySem.W.Frag} {elts : List Expr} {kk : Nat} {tpos : Pos} {a e it : Addr} (hei : e ≠ it) (hea : e ≠ a) (hai : a ≠ it) :
    Turn P w K (.Tuple elts kk tpos) (IteT K a) [e, it] e (fun i h => (∃ old, IsEnum h e it ((0 : Int) + (i : Int)) old) ∧ h.IsTupleIter it a i) where
  mem := by simp
  obj := fun i h st b hb => by
    obtain ⟨⟨old, he⟩, ⟨o, ho, hc, hd⟩⟩ := st
    have e' : b = e ∨ b = it := by simpa using hb
    rcases e' with z | z
    · rw [z]; exact ⟨_, he, fun v q => nomatch q⟩
    · rw [z]; exact ⟨o, ho, fun v q => by rw [hd] at q; cases q⟩
  keep := fun i h h' st k => let ⟨⟨old, he⟩, hi⟩ := st; ⟨⟨old, k e (by simp) _ he⟩, hi.at fun o q => k it (by simp) o q⟩
  item := by
    intro X hP hw hK hc i pins s σ H E I hf st hg
    subst hP hw hK
    obtain ⟨he, hit⟩ := st
    obtain ⟨xs, x, hq, hx⟩ := hg
    obtain ⟨its, rv, p, hz⟩ := I.tuple hq
    obtain ⟨u, hu, ru⟩ := rv.get hx
    have hil : i < its.toArray.size := by
      have := (List.getElem?_eq_some_iff.mp hu).1
      simpa using this
    have hhd : X.A.in1.handled = none := I.ok.hd hc
    have D := Draws.tuple (prog := X.prog) (w := X.w) (A := X.A.in1) hhd it a hai its.toArray
    have W := GoesN.enumFrom (elts := elts) (x1 := kk) (pos := tpos) 0 D e hei (by simp [hei, hea]) (by simp)
    refine W.goes i s _ _ hil ⟨he, hit, p⟩ fun v h' tk hY st' hk htk => ?_
    obtain ⟨T, t, x2, rfl, hTn, hx2, hT⟩ := hY
    have ex : x2 = u := by
      have : its.toArray[i]? = some u := by simpa using hu
      rw [this] at hx2
      exact (Option.some.inj hx2).symm
    subst ex
    have new : ObjOk X.prog X.w (upd H T (.tup [.int (i : Nat), x])) h' T (.tup [.int (i : Nat), x]) :=
      ⟨by show 2 ≤ sizeLine; decide, [.int ((0 : Int) + (i : Int)) t, x2], .cons ⟨t, by rw [Int.zero_add]⟩ (.cons ru .nil), hT⟩
    have I1 : Inv X pins σ (upd H T (.tup [.int (i : Nat), x])) { s with heap := h', toks := tk } := I.turnedNew (ch := [e, it]) (fun b ob hb q => hk b ob hb q) hf hTn new
    refine ⟨.ref T, _, I1, rfl, ⟨T, x, rfl, I.hok.fresh hTn, rfl, fun ys hy => by rw [I.tuple_inj hy hq]; exact hx⟩, ⟨st'.1, st'.2.1⟩, fun b hb => ?_⟩
    have hb' : b < s.heap.objs.size := by
      have e' : b = e ∨ b = it := by simpa using hb
      rcases e' with z | z
      · rw [z]
        obtain ⟨_, he⟩ := he
        exact Heap.lt_size he
      · rw [z]
        obtain ⟨_, q, _⟩ := hit
        exact Heap.lt_size q
    rw [upd_ne (Nat.ne_of_lt (Nat.lt_of_lt_of_le hb' hTn))]
    exact (hf b hb).1
  done := by
    intro X hP hw hK hc i pins s σ H E I hf st hg
    subst hP hw hK
    obtain ⟨he, hit⟩ := st
    obtain ⟨xs, hq, rfl⟩ := hg
    obtain ⟨its, rv, p, hz⟩ := I.tuple hq
    have hl : its.toArray.size = xs.length := by rw [List.size_toArray]; exact rv.length.symm
    have hhd : X.A.in1.handled = none := I.ok.hd hc
    have D := Draws.tuple (prog := X.prog) (w := X.w) (A := X.A.in1) hhd it a hai its.toArray
    have W := GoesN.enumFrom (elts := elts) (x1 := kk) (pos := tpos) 0 D e hei (by simp [hei, hea]) (by simp)
    rw [hl] at W
    exact W.stops s _ _ ⟨he, hit, p⟩ fun h' tk hk htk => I.turnedL (ch := [e, it]) (fun b o hb q => hk b o hb q) hf
  self := fun A i s Q E st h => let ⟨⟨_, he⟩, _⟩ := st; wpAny_pyIter_enum he h
theorem meets_enumerate_newT {v : Value} {o : Obj} {H : Heap → Prop} (B : Begins v o H) :
    Meets (Builtin.«enumerate.__new__» ⟨[.type "enumerate", v], []⟩) (fun _ R s => H s.heap ∧
      R (.ok (.ret (.ref (s.heap.push o).objs.size))) { s with heap := (s.heap.push o).push { cls := .type "enumerate", data := .fields #[.none, .bool false, .ref s.heap.objs.size, rawInt 0, .none, .none] } }) :=
  .of_wp fun prog w A R s h => by
    obtain ⟨hp, g, d, tk, os⟩ := s; obtain ⟨h1, h⟩ := h
    have hsub := sub_enumerate
    have q1 : ∀ {A' : Around} {E : Value → Shared → Prop} {Q : Value → Shared → Prop}, Q (.ref hp.objs.size) ⟨hp.push o, g, d, tk, os⟩ → wpAny (model prog w) A' (pyIter v) Q E ⟨hp, g, d, tk, os⟩ :=
      fun q => B.iter prog w _ _ ⟨hp, g, d, tk, os⟩ _ h1 q
    wp_walk using q1
    refine wpAny_stack_any fun st => wpAny_pure ?_
    split
    · rename_i c _ _ _ _ _
      cases (c == Value.type "enumerate")
      · wp_walk using q1
        exact ⟨_, rfl, h⟩
      · wp_walk using q1
        exact ⟨_, rfl, h⟩
    · wp_walk using q1
      exact ⟨_, rfl, h⟩
theorem call_enumerate_tup {prog : Program} {w : World} {A : Around} {E : Value → Shared → Prop} {s : Shared} {l : Addr} {items : Array Value} {Q : Value → Shared → Prop} (hL : s.heap.IsTuple l items)
    (h : ∀ h', IsEnum h' (s.heap.objs.size + 1) s.heap.objs.size 0 .none → h'.IsTupleIter s.heap.objs.size l 0 → h'.objs.size = s.heap.objs.size + 2 →
      (∀ b o, s.heap.get? b = some o → h'.get? b = some o) → Q (.ref (s.heap.objs.size + 1)) { s with heap := h' }) :
    wpAny (model prog w) A (call (.type "enumerate") [.ref l]) Q E s := by
  refine callType_new F.called_enumerate (by decide) (F.typeCall_enumerate_1 _) (F.newCall_enumerate_1 _) (fun obj => F.args_object_init_2 obj _) F.entry_enumerate_new
    (meets_enumerate_newT (begins_tuple l items)) ⟨hL, ?_⟩
  have hz : (s.heap.push { cls := .type "tuple_iterator", data := .fields #[.ref l, .int 0 0] }).objs.size = s.heap.objs.size + 1 := Heap.size_push ..
  show _ ∧ _
  rw [hz]
  have he : IsEnum ((s.heap.push { cls := .type "tuple_iterator", data := .fields #[.ref l, .int 0 0] }).push
      { cls := .type "enumerate", data := .fields #[.none, .bool false, .ref s.heap.objs.size, rawInt 0, .none, .none] }) (s.heap.objs.size + 1) s.heap.objs.size 0 .none := by
    have := Heap.get?_push_size (s.heap.push { cls := .type "tuple_iterator", data := .fields #[.ref l, .int 0 0] })
      (o := { cls := .type "enumerate", data := .fields #[.none, .bool false, .ref s.heap.objs.size, rawInt 0, .none, .none] }) rfl
    rw [hz] at this; exact this
  refine ⟨⟨_, he, rfl⟩, h _ he ⟨_, Heap.get?_push_of_some _ (Heap.get?_push_size _ rfl), rfl, rfl⟩ (by rw [Heap.size_push, hz]) fun b o x => Heap.get?_push_of_some _ (Heap.get?_push_of_some _ x)⟩
def iEnumT (K : PySem.W.Frag) (ta : TA) : TI := fun σ H R => ta σ H fun vs H1 => ∃ a xs, vs = [.ref a] ∧ SqT K H1 a xs ∧ R (IteT K a) H1
theorem pi_enumT {X : Cx} {e : Expr} {ta : TA} {p pos tpos : Pos} {elts : List Expr} {kk : Nat} (hg : Gl X "enumerate") (hm : X.mg "enumerate" = none) (ha : PA X [e] ta) (hs : starEach [e] X.env = [(false, eval e X.env)] := by rfl) :
    PI X (.Tuple elts kk tpos) (.Call (.Name "enumerate" p) [e] [] pos) (iEnumT X.K ta) := by
  refine ⟨fun pins s σ H R I h => ?_⟩
  refine Call_ (ld_blt I hg hm boot_enumerate (PyProof.Rows.callWith_type1 (thn (ha.run pos pins s σ H _ I h) fun us s1 ⟨vs, H1, I1, r1, q1⟩ => ?_) hs rfl))
  obtain ⟨a, xs, ex, hq, q⟩ := q1
  subst ex
  cases r1 with
  | cons r rr =>
    cases rr
    cases r
    obtain ⟨its, rv, p', hz⟩ := I1.tuple hq
    have hlt : a < s1.heap.objs.size := p'.lt
    refine call_enumerate_tup (items := its.toArray) p' fun h' he hit hsz hk => wpAny_pyIter_enum he ?_
    have I2 : Inv X pins σ H1 { s1 with heap := h' } := I1.kept (t' := s1.toks) hk
    refine ⟨s1.heap.objs.size + 1, [s1.heap.objs.size + 1, s1.heap.objs.size], _, _, H1, rfl, I2, turn_enumT (a := a) (e := s1.heap.objs.size + 1) (it := s1.heap.objs.size) (Nat.succ_ne_self _) (Nat.ne_of_gt (Nat.lt_succ_of_lt hlt)) (Nat.ne_of_lt hlt), ⟨⟨.none, he⟩, hit⟩, fun b hb => ?_, q⟩
    have e' : b = s1.heap.objs.size + 1 ∨ b = s1.heap.objs.size := by simpa using hb
    have hle : s1.heap.objs.size ≤ b := by
      rcases e' with z | z
      · rw [z]; exact Nat.le_add_right _ _
      · rw [z]; exact Nat.le_refl _
    exact I1.fpOk hle (I1.hok.fresh hle)
/-! zip of three tuples -/
theorem sub5 {q z TI TO i1 i2 i3 : Addr} (m : q ∈ [z, TO, i1, i2, i3]) : q ∈ [z, TI, TO, i1, i2, i3] := by
  rcases List.mem_cons.mp m with e | m
  · exact e ▸ List.mem_cons_self
  · exact List.mem_cons_of_mem _ (List.mem_cons_of_mem _ m)
def Itz3 (K : PySem.W.Frag) (a b c : Addr) : It :=
  ⟨fun i H => ∃ (xs ys zs : List V) (x y z : V), SqT K H a xs ∧ SqT K H b ys ∧ SqT K H c zs ∧ xs[i]? = some x ∧ ys[i]? = some y ∧ zs[i]? = some z,
    fun i H v H' => ∃ T x y z, v = .ref T ∧ H T = none ∧ H' = upd H T (.tup [x, y, z]) ∧ (∀ xs, SqT K H a xs → xs[i]? = some x) ∧ (∀ ys, SqT K H b ys → ys[i]? = some y) ∧ ∀ zs, SqT K H c zs → zs[i]? = some z,
    fun i H => ∃ xs ys zs : List V, SqT K H a xs ∧ SqT K H b ys ∧ SqT K H c zs ∧ i = min (min xs.length ys.length) zs.length⟩
theorem turn_zip3 {P : Program} {w : World} {K : PySem.W.Frag} {elts : List Expr} {kk : Nat} {tpos : Pos} {a b c z TI TO i1 i2 i3 : Addr} (S : ZipSep3 z TI TO i1 i2 i3 [i1, a] [i2, b] [i3, c]) (h1 : a ≠ i1) (h2 : b ≠ i2) (h3 : c ≠ i3) :
    Turn P w K (.Tuple elts kk tpos) (Itz3 K a b c) [z, TI, TO, i1, i2, i3] z (fun i h => IsZip h z TI TO .none ∧ IsTupOf3 h TI (.ref i1) (.ref i2) (.ref i3) ∧ (∃ a1 a2 a3, IsTupOf3 h TO a1 a2 a3) ∧ h.IsTupleIter i1 a i ∧ h.IsTupleIter i2 b i ∧ h.IsTupleIter i3 c i) where
  mem := by simp
  obj := fun i h st q hq => by
    obtain ⟨t1, t2, ⟨_, _, _, t3⟩, ⟨o4, t4, _, d4⟩, ⟨o5, t5, _, d5⟩, ⟨o6, t6, _, d6⟩⟩ := st
    have e' : q = z ∨ q = TI ∨ q = TO ∨ q = i1 ∨ q = i2 ∨ q = i3 := by simpa using hq
    rcases e' with y | y | y | y | y | y
    · rw [y]; exact ⟨_, t1, fun v q => nomatch q⟩
    · rw [y]; exact ⟨_, t2, fun v q => nomatch q⟩
    · rw [y]; exact ⟨_, t3, fun v q => nomatch q⟩
    · rw [y]; exact ⟨_, t4, fun v q => by rw [d4] at q; cases q⟩
    · rw [y]; exact ⟨_, t5, fun v q => by rw [d5] at q; cases q⟩
    · rw [y]; exact ⟨_, t6, fun v q => by rw [d6] at q; cases q⟩
  keep := fun i h h' st k => by
    obtain ⟨t1, t2, ⟨b1, b2, b3, t3⟩, t4, t5, t6⟩ := st
    exact ⟨k z (by simp) _ t1, k TI (by simp) _ t2, ⟨b1, b2, b3, k TO (by simp) _ t3⟩, t4.at fun o q => k i1 (by simp) o q, t5.at fun o q => k i2 (by simp) o q, t6.at fun o q => k i3 (by simp) o q⟩
  item := by
    intro X hP hw hK hc i pins s σ H E I hf st hg
    subst hP hw hK
    obtain ⟨t1, t2, t3, t4, t5, t6⟩ := st
    obtain ⟨xs, ys, zs, x, y, zv, hq1, hq2, hq3, hx, hy, hz⟩ := hg
    obtain ⟨j1, r1, p1, _⟩ := I.tuple hq1
    obtain ⟨j2, r2, p2, _⟩ := I.tuple hq2
    obtain ⟨j3, r3, p3, _⟩ := I.tuple hq3
    obtain ⟨u1, e1, s1⟩ := r1.get hx
    obtain ⟨u2, e2, s2⟩ := r2.get hy
    obtain ⟨u3, e3, s3⟩ := r3.get hz
    have l1 : i < j1.toArray.size := by simpa using (List.getElem?_eq_some_iff.mp e1).1
    have l2 : i < j2.toArray.size := by simpa using (List.getElem?_eq_some_iff.mp e2).1
    have l3 : i < j3.toArray.size := by simpa using (List.getElem?_eq_some_iff.mp e3).1
    have hhd : X.A.in1.handled = none := I.ok.hd hc
    have D1 := Draws.tuple (prog := X.prog) (w := X.w) (A := X.A.in1) hhd i1 a h1 j1.toArray
    have D2 := Draws.tuple (prog := X.prog) (w := X.w) (A := X.A.in1) hhd i2 b h2 j2.toArray
    have D3 := Draws.tuple (prog := X.prog) (w := X.w) (A := X.A.in1) hhd i3 c h3 j3.toArray
    have W := GoesN.zip3 (elts := elts) (x1 := kk) (pos := tpos) S D1 D2 D3
    refine W.goes i s _ _ (by omega) ⟨t1, t2, t3, ⟨t4, p1⟩, ⟨t5, p2⟩, ⟨t6, p3⟩⟩ fun v h' tk hY st' hk htk => ?_
    obtain ⟨T, v1, v2, v3, rfl, hTn, f1, f2, f3, hT⟩ := hY
    have g1 : v1 = u1 := by
      have q : j1.toArray[i]? = some u1 := by simpa using e1
      have f1 : j1.toArray[i]? = some v1 := f1
      rw [q] at f1
      exact (Option.some.inj f1).symm
    have g2 : v2 = u2 := by
      have q : j2.toArray[i]? = some u2 := by simpa using e2
      have f2 : j2.toArray[i]? = some v2 := f2
      rw [q] at f2
      exact (Option.some.inj f2).symm
    have g3 : v3 = u3 := by
      have q : j3.toArray[i]? = some u3 := by simpa using e3
      have f3 : j3.toArray[i]? = some v3 := f3
      rw [q] at f3
      exact (Option.some.inj f3).symm
    subst g1 g2 g3
    have new : ObjOk X.prog X.w (upd H T (.tup [x, y, zv])) h' T (.tup [x, y, zv]) := ⟨by show 3 ≤ sizeLine; decide, [v1, v2, v3], .cons s1 (.cons s2 (.cons s3 .nil)), hT⟩
    have hk' : ∀ q o, q ∉ [z, TI, TO, i1, i2, i3] → s.heap.get? q = some o → h'.get? q = some o := fun q o hq e => hk q o (fun m => hq (sub5 m)) e
    have I1 : Inv X pins σ (upd H T (.tup [x, y, zv])) { s with heap := h', toks := tk } := I.turnedNew (ch := [z, TI, TO, i1, i2, i3]) hk' hf hTn new
    refine ⟨.ref T, _, I1, rfl, ⟨T, x, y, zv, rfl, I.hok.fresh hTn, rfl, fun q hq => by rw [I.tuple_inj hq hq1]; exact hx, fun q hq => by rw [I.tuple_inj hq hq2]; exact hy, fun q hq => by rw [I.tuple_inj hq hq3]; exact hz⟩,
      ⟨st'.1, st'.2.1, st'.2.2.1, st'.2.2.2.1.1, st'.2.2.2.2.1.1, st'.2.2.2.2.2.1⟩, fun q hq => ?_⟩
    have hb' : q < s.heap.objs.size := by
      have e' : q = z ∨ q = TI ∨ q = TO ∨ q = i1 ∨ q = i2 ∨ q = i3 := by simpa using hq
      rcases e' with y | y | y | y | y | y
      · rw [y]; exact Heap.lt_size t1
      · rw [y]; exact Heap.lt_size t2
      · rw [y]; obtain ⟨_, _, _, t3⟩ := t3; exact Heap.lt_size t3
      · rw [y]; obtain ⟨_, t4, _⟩ := t4; exact Heap.lt_size t4
      · rw [y]; obtain ⟨_, t5, _⟩ := t5; exact Heap.lt_size t5
      · rw [y]; obtain ⟨_, t6, _⟩ := t6; exact Heap.lt_size t6
    rw [upd_ne (Nat.ne_of_lt (Nat.lt_of_lt_of_le hb' hTn))]
    exact (hf q hq).1
  done := by
    intro X hP hw hK hc i pins s σ H E I hf st hg
    subst hP hw hK
    obtain ⟨t1, t2, t3, t4, t5, t6⟩ := st
    obtain ⟨xs, ys, zs, hq1, hq2, hq3, rfl⟩ := hg
    obtain ⟨j1, r1, p1, _⟩ := I.tuple hq1
    obtain ⟨j2, r2, p2, _⟩ := I.tuple hq2
    obtain ⟨j3, r3, p3, _⟩ := I.tuple hq3
    have hhd : X.A.in1.handled = none := I.ok.hd hc
    have D1 := Draws.tuple (prog := X.prog) (w := X.w) (A := X.A.in1) hhd i1 a h1 j1.toArray
    have D2 := Draws.tuple (prog := X.prog) (w := X.w) (A := X.A.in1) hhd i2 b h2 j2.toArray
    have D3 := Draws.tuple (prog := X.prog) (w := X.w) (A := X.A.in1) hhd i3 c h3 j3.toArray
    have W := GoesN.zip3 (elts := elts) (x1 := kk) (pos := tpos) S D1 D2 D3
    have hn : min (min j1.toArray.size j2.toArray.size) j3.toArray.size = min (min xs.length ys.length) zs.length := by
      rw [List.size_toArray, List.size_toArray, List.size_toArray, ← r1.length, ← r2.length, ← r3.length]
    rw [hn] at W
    exact W.stops s _ _ ⟨t1, t2, t3, ⟨t4, p1⟩, ⟨t5, p2⟩, ⟨t6, p3⟩⟩ fun h' tk hk htk => I.turnedL (ch := [z, TI, TO, i1, i2, i3]) (fun q o hq e => hk q o (fun m => hq (sub5 m)) e) hf
  self := fun A i s Q E st h => wpAny_pyIter_zip st.1 h
def iZip3 (K : PySem.W.Frag) (ta : TA) : TI := fun σ H R => ta σ H fun vs H1 => ∃ a b c xs ys zs, vs = [.ref a, .ref b, .ref c] ∧ SqT K H1 a xs ∧ SqT K H1 b ys ∧ SqT K H1 c zs ∧ R (Itz3 K a b c) H1
theorem pi_zip3 {X : Cx} {e1 e2 e3 : Expr} {ta : TA} {p pos tpos : Pos} {elts : List Expr} {kk : Nat} (hg : Gl X "zip") (hm : X.mg "zip" = none) (ha : PA X [e1, e2, e3] ta)
    (hs : starEach [e1, e2, e3] X.env = (false, eval e1 X.env) :: starEach [e2, e3] X.env := by rfl) (hpl : (backTo pos (starEach [e2, e3] X.env)).any (·.1) = false := by rfl) :
    PI X (.Tuple elts kk tpos) (.Call (.Name "zip" p) [e1, e2, e3] [] pos) (iZip3 X.K ta) := by
  refine ⟨fun pins s σ H R I h => ?_⟩
  refine Call_ (ld_blt I hg hm PyProof.Rows.boot_zip (PyProof.Rows.callWith_type1 (thn (ha.run pos pins s σ H _ I h) fun us s1 ⟨vs, H1, I1, r1, q1⟩ => ?_) hs hpl))
  obtain ⟨a, b, c, xs, ys, zs, ex, hq1, hq2, hq3, q⟩ := q1
  subst ex
  cases r1 with
  | cons r rr =>
  cases rr with
  | cons r' rr =>
  cases rr with
  | cons r'' rr =>
    cases rr
    cases r
    cases r'
    cases r''
    obtain ⟨j1, _, p1, _⟩ := I1.tuple hq1
    obtain ⟨j2, _, p2, _⟩ := I1.tuple hq2
    obtain ⟨j3, _, p3, _⟩ := I1.tuple hq3
    have ha : a < s1.heap.objs.size := p1.lt
    have hb : b < s1.heap.objs.size := p2.lt
    have hc : c < s1.heap.objs.size := p3.lt
    refine zip_begins3 (begins_tuple a j1.toArray) (begins_tuple b j2.toArray) (begins_tuple c j3.toArray) p1 p2 p3 fun h' z1 z2 z3 z4 z5 z6 hsz hk => wpAny_pyIter_zip z1 ?_
    have I2 : Inv X pins σ H1 { s1 with heap := h' } := I1.kept (t' := s1.toks) hk
    refine ⟨s1.heap.objs.size + 5, [s1.heap.objs.size + 5, s1.heap.objs.size + 3, s1.heap.objs.size + 4, s1.heap.objs.size, s1.heap.objs.size + 1, s1.heap.objs.size + 2], _, _, H1, rfl, I2,
      turn_zip3 (a := a) (b := b) (c := c) (zip_sep3 (N := s1.heap.objs.size) (fp1 := [a]) (fp2 := [b]) (fp3 := [c]) (by simpa using ha) (by simpa using hb) (by simpa using hc)) (Nat.ne_of_lt ha) (Nat.ne_of_lt (Nat.lt_succ_of_lt hb)) (Nat.ne_of_lt (Nat.lt_succ_of_lt (Nat.lt_succ_of_lt hc))),
      ⟨z1, z2, ⟨_, _, _, z3⟩, ⟨_, z4, rfl, rfl⟩, ⟨_, z5, rfl, rfl⟩, ⟨_, z6, rfl, rfl⟩⟩, fun d hd => ?_, q⟩
    have e' : d = s1.heap.objs.size + 5 ∨ d = s1.heap.objs.size + 3 ∨ d = s1.heap.objs.size + 4 ∨ d = s1.heap.objs.size ∨ d = s1.heap.objs.size + 1 ∨ d = s1.heap.objs.size + 2 := by simpa using hd
    have hle : s1.heap.objs.size ≤ d := by
      rcases e' with y | y | y | y | y | y <;> rw [y] <;> first | exact Nat.le_add_right _ _ | exact Nat.le_refl _
    exact I1.fpOk hle (I1.hok.fresh hle)
end Q3
/-! tuple * int, from 1 on. -/
namespace Q3
open PySem PySem.Spec PyProof.Rows L2
theorem tuple_mul1 (l : Addr) (items : Array Value) (n : Nat) (dd : Option Addr) (sl : Array (Option Value)) (u : Tok) :
    Meets (Builtin.«tuple.__mul__» ⟨[.ref l, .int 1 u], []⟩) (fun _ R s => s.heap.get? l = some { cls := .type "tuple", dict := dd, data := .seq items n, slots := sl } ∧ R (.ok (.ret (Value.ref l))) s) :=
  .of_wp fun prog w A R s h => by
    obtain ⟨hp, g, d, tk, os⟩ := s
    obtain ⟨hl, h⟩ := h
    have f1 := AutoSeq1.idx_int
    have c0 : (decide ((1 : Int) < -(2 ^ 63)) || decide ((1 : Int) ≥ 2 ^ 63)) = false := by decide
    have c1 : (items.isEmpty || (1 : Int) == 1) = true := by rw [Bool.or_comm]; rfl
    wp_walk using wpAny_loadPart' hl
    repeat (first
      | (refine wpAny_ite_false (decide_eq_false (by rw [c0]; exact Bool.false_ne_true)) ?_; wp_walk using wpAny_loadPart' hl)
      | (refine wpAny_ite_true (decide_eq_true (by rw [c1])) ?_; wp_walk using wpAny_loadPart' hl))
    exact ⟨_, rfl, h⟩
def rRepA (K : PySem.W.Frag) : R2 := fun x y H Q => ∃ l k xs, x = .ref l ∧ y = .int k ∧ SqT K H l xs ∧ xs ≠ [] ∧ 1 ≤ k ∧ k ≤ 1000 ∧ xs.length ≤ 1000 ∧ (k = 1 → Q (.ref l) H) ∧ (2 ≤ k → ∀ p, H p = none → Q (.ref p) (upd H p (.tup (List.replicate k.toNat xs).flatten)))
theorem op_repA {X : Cx} : OpR X (binaryOp .Mult) (rRepA X.K) := by
  intro pins s σ H x y v u Q I rx ry h
  obtain ⟨l, k, xs, rfl, rfl, hT, hne, h1, h2, hz, q1, q2⟩ := h
  by_cases hk : 2 ≤ k
  · exact op_repT pins s σ H (.ref l) (.int k) v u Q I rx ry ⟨l, k, xs, rfl, rfl, hT, hne, hk, h2, hz, q2 hk⟩
  · have ek : k = 1 := by omega
    subst ek
    cases rx
    obtain ⟨t, rfl⟩ := ry
    obtain ⟨its, r, ⟨⟨cls, dd, data, sl⟩, ho, hc, n, hd⟩, hs⟩ := I.tuple hT
    simp only at hc hd
    subst hc hd
    exact wpAny_binaryOp_repeat_ref (T := "tuple") (U := "int") (by decide) ⟨_, ho, rfl⟩ (fun s' => typeIs_int s' 1 t) noFill_tuple_mul F.fills_int_mul F.slot_int_rmul repeat_tuple F.slot_int_index.lookup
      (call_meets F.slot_int_rmul (typeIs_int s 1 t) F.entry_int_rmul (F.args_int_rmul_2 _ _) (int_rmul_tuple 1 t l its.toArray n dd sl)
        ⟨ho, rfl, ⟨_, ho, rfl⟩, call_meets F.slot_tuple_mul ⟨_, ho, rfl⟩ F.entry_tuple_mul (F.args_tuple_mul_2 _ _) (tuple_mul1 l its.toArray n dd sl t) ⟨ho, ⟨.ref l, H, I, rfl, q1 rfl⟩⟩⟩)
end Q3
/-! The text by places. -/
namespace Q3
open PySem PySem.Spec PyProof.Rows L2
def topS (i : Nat) : Stmt := PySem.Challenge.pw_tellsless_k33_whole_luck_by_own_sums.main.body.getD i (.Pass ⟨0, 0, 0, 0⟩)
abbrev s_BadHouse_init : Stmt := (inClass (topS 2) 0)
theorem sc_BadHouse_init : FnScope ["self", "place"] ["self", "place"] (C8.fnScope s_BadHouse_init) := C8.fnScope_by (by decide +kernel)
abbrev s_is_integer : Stmt := (topS 6)
theorem sc_is_integer : FnScope ["thing"] ["thing"] (C8.fnScope s_is_integer) := C8.fnScope_by (by decide +kernel)
abbrev s_is_within : Stmt := (topS 7)
theorem sc_is_within : FnScope ["thing", "least", "most"] ["thing", "least", "most"] (C8.fnScope s_is_within) := C8.fnScope_by (by decide +kernel)
abbrev s_is_sized : Stmt := (topS 8)
theorem sc_is_sized : FnScope ["thing", "least", "most"] ["thing", "least", "most"] (C8.fnScope s_is_sized) := C8.fnScope_by (by decide +kernel)
abbrev s_is_pair : Stmt := (topS 9)
theorem sc_is_pair : FnScope ["thing"] ["thing"] (C8.fnScope s_is_pair) := C8.fnScope_by (by decide +kernel)
abbrev s_is_triple : Stmt := (topS 10)
theorem sc_is_triple : FnScope ["thing"] ["thing"] (C8.fnScope s_is_triple) := C8.fnScope_by (by decide +kernel)
abbrev s_are_rising : Stmt := (topS 11)
theorem sc_are_rising : FnScope ["things", "one", "other"] ["things"] (C8.fnScope s_are_rising) := C8.fnScope_by (by decide +kernel)
abbrev s_divisor : Stmt := (topS 15)
theorem sc_divisor : FnScope ["one", "other"] ["one", "other"] (C8.fnScope s_divisor) := C8.fnScope_by (by decide +kernel)
abbrev s_lowest : Stmt := (topS 16)
theorem sc_lowest : FnScope ["top", "bottom", "common"] ["top", "bottom"] (C8.fnScope s_lowest) := C8.fnScope_by (by decide +kernel)
abbrev s_plus : Stmt := (topS 17)
theorem sc_plus : FnScope ["one", "other"] ["one", "other"] (C8.fnScope s_plus) := C8.fnScope_by (by decide +kernel)
abbrev s_times : Stmt := (topS 18)
theorem sc_times : FnScope ["one", "other"] ["one", "other"] (C8.fnScope s_times) := C8.fnScope_by (by decide +kernel)
abbrev s_is_below : Stmt := (topS 19)
theorem sc_is_below : FnScope ["one", "other"] ["one", "other"] (C8.fnScope s_is_below) := C8.fnScope_by (by decide +kernel)
abbrev s_greater : Stmt := (topS 20)
theorem sc_greater : FnScope ["one", "other"] ["one", "other"] (C8.fnScope s_greater) := C8.fnScope_by (by decide +kernel)
abbrev s_total : Stmt := (topS 21)
theorem sc_total : FnScope ["fractions", "found", "one"] ["fractions"] (C8.fnScope s_total) := C8.fnScope_by (by decide +kernel)
abbrev s_is_fraction : Stmt := (topS 22)
theorem sc_is_fraction : FnScope ["thing"] ["thing"] (C8.fnScope s_is_fraction) := C8.fnScope_by (by decide +kernel)
abbrev s_is_chance : Stmt := (topS 23)
theorem sc_is_chance : FnScope ["thing"] ["thing"] (C8.fnScope s_is_chance) := C8.fnScope_by (by decide +kernel)
abbrev s_is_prior : Stmt := (topS 26)
theorem sc_is_prior : FnScope ["worlds", "thing", "one"] ["worlds", "thing"] (C8.fnScope s_is_prior) := C8.fnScope_by (by decide +kernel)
abbrev s_are_gains : Stmt := (topS 27)
theorem sc_are_gains : FnScope ["worlds", "thing", "one", "deed"] ["worlds", "thing"] (C8.fnScope s_are_gains) := C8.fnScope_by (by decide +kernel)
abbrev s_check_prior : Stmt := (topS 28)
theorem sc_check_prior : FnScope ["worlds", "thing"] ["worlds", "thing"] (C8.fnScope s_check_prior) := C8.fnScope_by (by decide +kernel)
abbrev s_check_gains : Stmt := (topS 29)
theorem sc_check_gains : FnScope ["worlds", "thing"] ["worlds", "thing"] (C8.fnScope s_check_gains) := C8.fnScope_by (by decide +kernel)
abbrev s_deed_gets : Stmt := (topS 30)
theorem sc_deed_gets : FnScope ["prior", "weights", "deed", "chance", "weight", "gain"] ["prior", "weights", "deed"] (C8.fnScope s_deed_gets) := C8.fnScope_by (by decide +kernel)
abbrev s_best_at : Stmt := (topS 31)
theorem sc_best_at : FnScope ["weights", "node", "stopping", "most", "best", "number", "question", "told", "answer", "whole", "one", "asker"] ["weights", "node", "stopping"] (C8.fnScope s_best_at) := C8.fnScope_by (by decide +kernel)
abbrev s_best_deed : Stmt := (topS 32)
theorem sc_best_deed : FnScope ["prior", "gains", "weights", "most", "best", "number", "deed", "told"] ["prior", "gains", "weights"] (C8.fnScope s_best_deed) := C8.fnScope_by (by decide +kernel)
abbrev s_best_of : Stmt := (topS 33)
theorem sc_best_of : FnScope ["house", "prior", "gains"] ["house", "prior", "gains"] (C8.fnScope s_best_of) := C8.fnScope_by (by decide +kernel)
abbrev s_worth : Stmt := (topS 34)
theorem sc_worth : FnScope ["house", "prior", "gains"] ["house", "prior", "gains"] (C8.fnScope s_worth) := C8.fnScope_by (by decide +kernel)
abbrev s_worth_unasked : Stmt := (topS 35)
theorem sc_worth_unasked : FnScope ["prior", "gains", "found", "deed"] ["prior", "gains"] (C8.fnScope s_worth_unasked) := C8.fnScope_by (by decide +kernel)
abbrev s_guessing : Stmt := (topS 36)
theorem sc_guessing : FnScope ["weights", "best", "world", "weight"] ["weights"] (C8.fnScope s_guessing) := C8.fnScope_by (by decide +kernel)
abbrev s_luck : Stmt := (topS 37)
theorem sc_luck : FnScope ["house"] ["house"] (C8.fnScope s_luck) := C8.fnScope_by (by decide +kernel)
abbrev s_luckiest : Stmt := (topS 38)
theorem sc_luckiest : FnScope ["house"] ["house"] (C8.fnScope s_luckiest) := C8.fnScope_by (by decide +kernel)
abbrev s_is_word : Stmt := (topS 47)
theorem sc_is_word : FnScope ["thing", "number"] ["thing"] (C8.fnScope s_is_word) := C8.fnScope_by (by decide +kernel)
abbrev s_is_answer : Stmt := (topS 48)
theorem sc_is_answer : FnScope ["worlds", "thing", "chance"] ["worlds", "thing"] (C8.fnScope s_is_answer) := C8.fnScope_by (by decide +kernel)
abbrev s_added_weights : Stmt := (topS 49)
theorem sc_added_weights : FnScope ["worlds", "question", "answer", "world"] ["worlds", "question"] (C8.fnScope s_added_weights) := C8.fnScope_by (by decide +kernel)
abbrev s_wrong_in_node : Stmt := (topS 50)
theorem sc_wrong_in_node : FnScope ["worlds", "node", "ahead", "place", "number", "question", "wrong"] ["worlds", "node", "ahead", "place"] (C8.fnScope s_wrong_in_node) := C8.fnScope_by (by decide +kernel)
abbrev s_wrong_in_question : Stmt := (topS 51)
theorem sc_wrong_in_question : FnScope ["worlds", "question", "ahead", "place", "number", "answer", "wrong"] ["worlds", "question", "ahead", "place"] (C8.fnScope s_wrong_in_question) := C8.fnScope_by (by decide +kernel)
abbrev s_count_answers : Stmt := (topS 52)
theorem sc_count_answers : FnScope ["node", "question", "answer"] ["node"] (C8.fnScope s_count_answers) := C8.fnScope_by (by decide +kernel)
abbrev s_House_init : Stmt := (inClass (topS 53) 0)
theorem sc_House_init : FnScope ["self", "worlds", "tree", "wrong"] ["self", "worlds", "tree"] (C8.fnScope s_House_init) := C8.fnScope_by (by decide +kernel)
abbrev s_House_eq : Stmt := (inClass (topS 53) 1)
theorem sc_House_eq : FnScope ["self", "other"] ["self", "other"] (C8.fnScope s_House_eq) := C8.fnScope_by (by decide +kernel)
abbrev s__law_bag : Stmt := (topS 55)
theorem sc__law_bag : FnScope ["_law_script", "_law_seed", "_law_cell", "_law_great", "_law_always"] ["_law_script"] (C8.fnScope s__law_bag) := C8.fnScope_by (by decide +kernel)
abbrev s__law_pick : Stmt := (topS 56)
theorem sc__law_pick : FnScope ["_law_bag_here", "_law_many", "_law_great", "_law_digit", "_law_number"] ["_law_bag_here", "_law_many"] (C8.fnScope s__law_pick) := C8.fnScope_by (by decide +kernel)
abbrev s__law_some : Stmt := (topS 57)
theorem sc__law_some : FnScope ["_law_bag_here", "_law_things"] ["_law_bag_here", "_law_things"] (C8.fnScope s__law_some) := C8.fnScope_by (by decide +kernel)
abbrev s__law_common : Stmt := (topS 58)
theorem sc__law_common : FnScope ["_law_one", "_law_other"] ["_law_one", "_law_other"] (C8.fnScope s__law_common) := C8.fnScope_by (by decide +kernel)
abbrev s__law_low : Stmt := (topS 59)
theorem sc__law_low : FnScope ["_law_top", "_law_bottom", "_law_common_here"] ["_law_top", "_law_bottom"] (C8.fnScope s__law_low) := C8.fnScope_by (by decide +kernel)
abbrev s__law_plus : Stmt := (topS 60)
theorem sc__law_plus : FnScope ["_law_one", "_law_other"] ["_law_one", "_law_other"] (C8.fnScope s__law_plus) := C8.fnScope_by (by decide +kernel)
abbrev s__law_times : Stmt := (topS 61)
theorem sc__law_times : FnScope ["_law_one", "_law_other"] ["_law_one", "_law_other"] (C8.fnScope s__law_times) := C8.fnScope_by (by decide +kernel)
abbrev s__law_total : Stmt := (topS 62)
theorem sc__law_total : FnScope ["_law_parts", "_law_found", "_law_part"] ["_law_parts"] (C8.fnScope s__law_total) := C8.fnScope_by (by decide +kernel)
abbrev s__law_below : Stmt := (topS 63)
theorem sc__law_below : FnScope ["_law_one", "_law_other"] ["_law_one", "_law_other"] (C8.fnScope s__law_below) := C8.fnScope_by (by decide +kernel)
abbrev s__law_shares : Stmt := (topS 64)
theorem sc__law_shares : FnScope ["_law_bag_here", "_law_many", "_law_least", "_law_parts", "_law_k", "_law_part"] ["_law_bag_here", "_law_many", "_law_least"] (C8.fnScope s__law_shares) := C8.fnScope_by (by decide +kernel)
abbrev s__law_question : Stmt := (topS 65)
theorem sc__law_question : FnScope ["_law_bag_here", "_law_worlds", "_law_ahead", "_law_rounds", "_law_left", "_law_many", "_law_rows", "_law_world", "_law_found", "_law_k", "_law_word", "_law_weights"] ["_law_bag_here", "_law_worlds", "_law_ahead", "_law_rounds", "_law_left"] (C8.fnScope s__law_question) := C8.fnScope_by (by decide +kernel)
abbrev s__law_node : Stmt := (topS 66)
theorem sc__law_node : FnScope ["_law_bag_here", "_law_worlds", "_law_ahead", "_law_rounds", "_law_left", "_law_k"] ["_law_bag_here", "_law_worlds", "_law_ahead", "_law_rounds", "_law_left"] (C8.fnScope s__law_node) := C8.fnScope_by (by decide +kernel)
abbrev s__law_tree : Stmt := (topS 67)
theorem sc__law_tree : FnScope ["_law_bag_here", "_law_worlds", "_law_rounds", "_law_answers", "_law_ahead", "_law_left", "_law_some_here", "_law_k"] ["_law_bag_here", "_law_worlds", "_law_rounds", "_law_answers"] (C8.fnScope s__law_tree) := C8.fnScope_by (by decide +kernel)
abbrev s__law_is : Stmt := (topS 68)
theorem sc__law_is : FnScope ["_law_found", "_law_due"] ["_law_found", "_law_due"] (C8.fnScope s__law_is) := C8.fnScope_by (by decide +kernel)
abbrev s__law_int : Stmt := (topS 69)
theorem sc__law_int : FnScope ["_law_thing", "_law_least", "_law_most_here"] ["_law_thing", "_law_least", "_law_most_here"] (C8.fnScope s__law_int) := C8.fnScope_by (by decide +kernel)
abbrev s__law_gains : Stmt := (topS 70)
theorem sc__law_gains : FnScope ["_law_bag_here", "_law_worlds", "_law_least", "_law_found", "_law_k", "_law_deed_here", "_law_world", "_law_top"] ["_law_bag_here", "_law_worlds", "_law_least"] (C8.fnScope s__law_gains) := C8.fnScope_by (by decide +kernel)
abbrev s__law_deed : Stmt := (topS 71)
theorem sc__law_deed : FnScope ["_law_prior", "_law_weights", "_law_deed_here", "_law_one", "_law_two", "_law_three"] ["_law_prior", "_law_weights", "_law_deed_here"] (C8.fnScope s__law_deed) := C8.fnScope_by (by decide +kernel)
abbrev s__law_most : Stmt := (topS 72)
theorem sc__law_most : FnScope ["_law_parts", "_law_found", "_law_part"] ["_law_parts"] (C8.fnScope s__law_most) := C8.fnScope_by (by decide +kernel)
abbrev s__law_worth : Stmt := (topS 73)
theorem sc__law_worth : FnScope ["_law_prior", "_law_gains_here", "_law_weights", "_law_node_here", "_law_some_here", "_law_deed_here", "_law_question_here", "_law_answer"] ["_law_prior", "_law_gains_here", "_law_weights", "_law_node_here"] (C8.fnScope s__law_worth) := C8.fnScope_by (by decide +kernel)
abbrev s__law_got : Stmt := (topS 74)
theorem sc__law_got : FnScope ["_law_prior", "_law_gains_here", "_law_weights", "_law_node_here", "_law_asker", "_law_found", "_law_answer", "_law_one"] ["_law_prior", "_law_gains_here", "_law_weights", "_law_node_here", "_law_asker"] (C8.fnScope s__law_got) := C8.fnScope_by (by decide +kernel)
abbrev s__law_is_asker : Stmt := (topS 75)
theorem sc__law_is_asker : FnScope ["_law_node_here", "_law_deeds", "_law_thing", "_law_question_here", "_law_answer", "_law_one"] ["_law_node_here", "_law_deeds", "_law_thing"] (C8.fnScope s__law_is_asker) := C8.fnScope_by (by decide +kernel)
abbrev s__law_luck : Stmt := (topS 76)
theorem sc__law_luck : FnScope ["_law_weights", "_law_node_here", "_law_some_here", "_law_question_here", "_law_answer"] ["_law_weights", "_law_node_here"] (C8.fnScope s__law_luck) := C8.fnScope_by (by decide +kernel)
abbrev s_law : Stmt := (topS 77)
theorem sc_law : FnScope ["_law_script", "_law_bag_here", "_law_turn", "_law_worlds", "_law_tree_here", "_law_house", "_law_ones", "_law_due", "_law_even", "_law_guesses", "_law_world", "_law_one", "_law_best", "_law_most_here", "_law_again", "_law_prior", "_law_gains_here", "_law_unasked", "_law_deed_here", "_law_got_here"] ["_law_script"] (C8.fnScope s_law) := C8.fnScope_by (by decide +kernel)
/-! what the top leaves -/
structure Txt (K : PySem.W.Frag) (mg : Str → Option Value) (aN aO aH : Addr) : Prop where
  lenZ : mg "len" = none
  isinstanceZ : mg "isinstance" = none
  absZ : mg "abs" = none
  allZ : mg "all" = none
  sumZ : mg "sum" = none
  tupleZ : mg "tuple" = none
  listZ : mg "list" = none
  intZ : mg "int" = none
  boolZ : mg "bool" = none
  strZ : mg "str" = none
  maxZ : mg "max" = none
  zipZ : mg "zip" = none
  enumerateZ : mg "enumerate" = none
  rangeZ : mg "range" = none
  reprZ : mg "repr" = none
  NOUGHT : mg "NOUGHT" = some (.ref aN)
  ONE : mg "ONE" = some (.ref aO)
  House : mg "House" = some (.ref aH)
  MOST_WORLDS_worths : ∃ u, mg "MOST_WORLDS_worths" = some u ∧ RelV (.int 5) u
  MOST_WORLDS_houses : ∃ u, mg "MOST_WORLDS_houses" = some u ∧ RelV (.int 5) u
  MOST_QUESTIONS : ∃ u, mg "MOST_QUESTIONS" = some u ∧ RelV (.int 5) u
  MOST_ANSWERS : ∃ u, mg "MOST_ANSWERS" = some u ∧ RelV (.int 12) u
  MOST_NUMBERS : ∃ u, mg "MOST_NUMBERS" = some u ∧ RelV (.int 8) u
  MOST_NUMBER : ∃ u, mg "MOST_NUMBER" = some u ∧ RelV (.int 99) u
  MOST_ROUNDS : ∃ u, mg "MOST_ROUNDS" = some u ∧ RelV (.int 8) u
  MOST_IN_ALL : ∃ u, mg "MOST_IN_ALL" = some u ∧ RelV (.int 1500) u
  nT : ∀ H, SqT K H aN [.int 0, .int 1]
  oT : ∀ H, SqT K H aO [.int 1, .int 1]
/-- a def of the module, called without defaults -/
structure Df (K : PySem.W.Frag) (mg : Str → Option Value) (x : Str) (st : Stmt) (ps : List Str) : Prop where
  ex : ∃ (f : Addr) (fd : FuncData), C8.Def K mg x st f fd ∧ Binds K fd ps []
theorem Df.cal {P : Program} {w : World} {K : PySem.W.Frag} {mg : Str → Option Value} {base : Heap} {x : Str} {st : Stmt} {N ps : List Str} {k : Nat} {sp : Sp} (d : Df K mg x st ps) (S : FnScope N ps (C8.fnScope st)) (len : ∀ vs H Q E, sp vs H Q E → vs.length = ps.length)
    (hbody : ∀ (f : Addr) (cdv : Value) (A : Around) (outer : List Env) (s : Shared) (H : Hp) (vs : List V) (Q : VK) (E : XK), Room k (A.deeper (envOfC x (C8.fnScope st) s.heap.objs.size f cdv)) → sp vs H Q E →
      ∃ t, PSs (cxOf C8.CX0 P w K mg base N x (C8.fnScope st) f cdv A outer s H E).nox (C8.fnBody st) t ∧ t { nx := fun _ H' => Q .non H', rt := Q } (L2.start N vs) H) : C8.Cal P w K mg base (k + 1) x sp [] := by
  obtain ⟨f, fd, D, b⟩ := d.ex
  exact C8.cal0 D b .nil S len fun cdv A outer s H vs Q E hr h => hbody f cdv A outer s H vs Q E hr h
end Q3
/-! Parametric promises, fractions' defs. -/
namespace Q3
open PySem PySem.Spec PyProof.Rows L2
/-! ### promises by a parameter -/
def spP {α : Type} (K : PySem.W.Frag) (enc : α → List D) (pre : α → Prop) (out : α → D) : Sp := fun vs H Q _ => ∃ x : α, RepL K H (enc x) vs ∧ pre x ∧ ∀ v H', Ex H H' → Rep K H' (out x) v → Q v H'
section
variable {α : Type} {K : PySem.W.Frag} {enc : α → List D} {pre : α → Prop} {out : α → D}
theorem spP_len {n : Nat} {vs : List V} {H : Hp} {Q : VK} {E : XK} (hn : ∀ x, (enc x).length = n) (h : spP K enc pre out vs H Q E) : vs.length = n := by
  obtain ⟨x, r, _⟩ := h
  rw [r.len, hn x]
theorem spP_body {N : List PySem.Str} {t : TS} {vs : List V} {H : Hp} {Q : VK} {E : XK} (h : spP K enc pre out vs H Q E) (hb : ∀ x, pre x → Es (Ct.pure K H) (nm0 N.length (enc x)) t (fun _ => out x = .sc .non) (Is (out x))) :
    t { nx := fun _ H' => Q .non H', rt := Q } (L2.start N vs) H := by
  obtain ⟨x, r, hp, q⟩ := h
  refine hb x hp _ H _ (sr0 r) (fun nm' σ' H' hn S' _ => q .non H' S'.le ?_) fun v d H' rd l _ p => q v H' l ?_
  · rw [hn]
    exact rfl
  · rw [← rd]
    exact p
theorem rc_P {C : Ct} {E : XK} (x : α) (hp : pre x) : Rc C (fun vs H Q => spP C.K enc pre out (vs ++ []) H Q E) (enc x) (Is (out x)) := fun H vs Q l i p q =>
  ⟨x, by rw [List.append_nil]; exact p, hp, fun v H' e pd => q v _ H' rfl e.le (C.exI i e) pd⟩
/-- a call of such a def -/
theorem ev_P {C : Ct} {nm : Nm} {E : XK} {t : TA} (x : α) (h : Ea C nm t (fun es => es = enc x)) (hp : pre x) : Ev C nm (tCall (spP C.K enc pre out) [] E t) (Is (out x)) := ev_callF h (rc_P x hp)
/-- the same of one list -/
def spQ (K : PySem.W.Frag) (enc : α → List D) (pre : α → Prop) (out : α → D) : Sp := fun vs H Q _ => ∃ (x : α) (p : Addr) (us : List V), vs = [.ref p] ∧ SqL K H p us ∧ RepL K H (enc x) us ∧ pre x ∧ ∀ v H', Ex H H' → Rep K H' (out x) v → Q v H'
theorem spQ_len {vs : List V} {H : Hp} {Q : VK} {E : XK} (h : spQ K enc pre out vs H Q E) : vs.length = 1 := by
  obtain ⟨x, p, us, rfl, _⟩ := h
  rfl
theorem spQ_body {N : List PySem.Str} {t : TS} {vs : List V} {H : Hp} {Q : VK} {E : XK} (h : spQ K enc pre out vs H Q E)
    (hb : ∀ x p us, SqL K H p us → RepL K H (enc x) us → pre x → Es (Ct.pure K H) (nm0 N.length [.sc (.ref p)]) t (fun _ => out x = .sc .non) (Is (out x))) :
    t { nx := fun _ H' => Q .non H', rt := Q } (L2.start N vs) H := by
  obtain ⟨x, p, us, rfl, hl, r, hp, q⟩ := h
  have r0 : RepL K H [.sc (.ref p)] [.ref p] := .cons rfl .nil
  refine hb x p us hl r hp _ H _ (sr0 r0) (fun nm' σ' H' hn S' _ => q .non H' S'.le ?_) fun v d H' rd l _ p => q v H' l ?_
  · rw [hn]
    exact rfl
  · rw [← rd]
    exact p
theorem ev_Q {C : Ct} {nm : Nm} {te : TE} {E : XK} (x : α) (h : El C nm te (fun es => es = enc x)) (hp : pre x) : Ev C nm (tCall (spQ C.K enc pre out) [] E (tCons te tNil)) (Is (out x)) :=
  ev_callFL h fun H p vs es Q e i l hl r q => by
    subst e
    exact ⟨x, p, vs, rfl, .inl (.inl hl), r, hp, fun v H' e pd => q v _ H' rfl e.le (C.exI i e) pd⟩
theorem ev_Qo {C : Ct} {nm : Nm} {k : Nat} {a : Addr} {E : XK} (x : α) (h : nm[k]? = some (some (.own a (enc x)))) (hp : pre x) : Ev C nm (tCall (spQ C.K enc pre out) [] E (tCons (tVar k) tNil)) (Is (out x)) := fun σ H Q S q => by
  obtain ⟨h1, h2, vs, h3, h4⟩ := S.own h
  exact ⟨.ref a, h1, x, a, vs, rfl, .inl (.inl h3), h4, hp, fun v H' e pd => q v _ H' rfl e.le (C.exI S.inv e) pd⟩
end
theorem hu64 {k : Nat} {A : Around} (hr : Room k A) : A.units + 64 < cLine := by have := hr.un; omega
theorem hu0 {k : Nat} {A : Around} (hr : Room k A) : A.units < cLine := by have := hr.un; omega
theorem es_while {C : Ct} {nm : Nm} {c : TT} {tb : TS} {N : Nm → Prop} {Rt : D → Prop} (P : Nat → Nm → Prop) (m0 : Nat) (h0 : P m0 nm)
    (hs : ∀ m nm', P m nm' → ∃ b, Et C nm' c b ∧ (b = true → Es C nm' tb (fun nm'' => ∃ m', m' < m ∧ P m' nm'') Rt) ∧ (b = false → N nm')) : Es C nm (tWhile c tb) N Rt := fun σ H Dd S q r =>
  ⟨fun m σ' H' => ∃ nm', P m nm' ∧ SR C nm' σ' H' ∧ Fx H H', ⟨m0, nm, h0, S, Fx.refl H⟩, fun m σ' H' ⟨nm', p, S', f⟩ => by
    obtain ⟨b, ht, h1, h2⟩ := hs m nm' p
    refine ht σ' H' _ S' fun H1 l i => ?_
    cases b with
    | true =>
      refine ⟨fun σ2 H2 => ∃ m', m' < m ∧ ∃ nm2, P m' nm2 ∧ SR C nm2 σ2 H2 ∧ Fx H H2, fun σ2 H2 ⟨m', lt, z⟩ => ⟨m', lt, z⟩, ?_⟩
      exact h1 rfl σ' H1 { Dd with nx := _, ct := _, bk := Dd.nx } (S'.step l i) (fun nm2 σ2 H2 ⟨m', lt, p2⟩ S2 f2 => ⟨m', lt, nm2, p2, S2, (f.trans l.fx).trans f2⟩) r
    | false => exact q nm' σ' H1 (h2 rfl) (S'.step l i) (f.trans l.fx)⟩
/-! ### fractions as data -/
def fr (q : Rat) : D := .tup [.i q.num, .i (q.den : Int)]
def frs (qs : List Rat) : D := .tup (qs.map fr)
end Q3
/-! the layer's rules with the written part named -/
namespace Q3
open PySem PySem.Spec PyProof.Rows L2
section
variable {X : Cx} {K : PySem.W.Frag}
theorem kIxT (h : X.K = K) : IxR X (rIxT K) := h ▸ ix_tup
theorem kIxL (h : X.K = K) : IxR X (rIxL K) := h ▸ ix_list
theorem kLen (h : X.K = K) : CallR X (.builtin "len") (rLenS K) := h ▸ call_len_seq
theorem kIsi (h : X.K = K) : CallR X (.builtin "isinstance") (rIsi K) := h ▸ call_isi
theorem kAll (h : X.K = K) (hc : X.calm = true) : CallR X (.builtin "all") (rAll K) := h ▸ cr_all hc
theorem kSum (h : X.K = K) (hc : X.calm = true) : CallR X (.builtin "sum") (rSum K) := h ▸ cr_sum hc
theorem kTuple (h : X.K = K) (hc : X.calm = true) : CallR X (.type "tuple") (rTupOf K) := h ▸ call_tuple_of
abbrev rListOf (K : PySem.W.Frag) : List V → Hp → VK → Prop := fun xs H Q => ∃ p ys, xs = [.ref p] ∧ (SqL K H p ys ∨ SqT K H p ys) ∧ ∀ l, H l = none → Q (.ref l) (upd H l (.lst ys))
theorem kList (h : X.K = K) (hc : X.calm = true) : CallR X (.type "list") (rListOf K) := h ▸ call_list_of
theorem kEqD (h : X.K = K) (hu : X.A.units + 64 < cLine) : OpR X (compareOp .Eq) (rEqD K) := h ▸ op_eqD hu
theorem kNeD (h : X.K = K) (hu : X.A.units + 64 < cLine) : OpR X (compareOp .NotEq) (rNeD K) := h ▸ op_neD hu
theorem kLtT (h : X.K = K) (hu : X.A.units < cLine) : OpR X (compareOp .Lt) (rLtT K) := h ▸ op_ltT hu
theorem kCat (h : X.K = K) : OpR X (binaryOp .Add) (rCatA K) := h ▸ op_catA
theorem kRep (h : X.K = K) : OpR X (binaryOp .Mult) (rRepA K) := h ▸ op_repA
theorem kSlL (h : X.K = K) : SlR X (rSlL K) := h ▸ sl_list
theorem kPiT {tg l : Expr} {tl : TE} (h : X.K = K) (hl : PE X l tl) : PI X tg l (iTup K tl) := h ▸ pi_tup hl
theorem kPiL {tg l : Expr} {tl : TE} (h : X.K = K) (hl : PE X l tl) : PI X tg l (iList K tl) := h ▸ pi_list hl
theorem kEnum {e : Expr} {ta : TA} {p pos tpos : Pos} {elts : List Expr} {kk : Nat} (h : X.K = K) (hg : Gl X "enumerate") (hm : X.mg "enumerate" = none) (ha : PA X [e] ta) (hs : starEach [e] X.env = [(false, eval e X.env)] := by rfl) :
    PI X (.Tuple elts kk tpos) (.Call (.Name "enumerate" p) [e] [] pos) (iEnumT K ta) := h ▸ pi_enumT hg hm ha hs
theorem kZip3 {e1 e2 e3 : Expr} {ta : TA} {p pos tpos : Pos} {elts : List Expr} {kk : Nat} (h : X.K = K) (hg : Gl X "zip") (hm : X.mg "zip" = none) (ha : PA X [e1, e2, e3] ta)
    (hs : starEach [e1, e2, e3] X.env = (false, eval e1 X.env) :: starEach [e2, e3] X.env := by rfl) (hpl : (backTo pos (starEach [e2, e3] X.env)).any (·.1) = false := by rfl) :
    PI X (.Tuple elts kk tpos) (.Call (.Name "zip" p) [e1, e2, e3] [] pos) (iZip3 K ta) := h ▸ pi_zip3 hg hm ha hs hpl
theorem kZip2 {e e2 : Expr} {ta : TA} {p pos tpos : Pos} {elts : List Expr} {kk : Nat} (h : X.K = K) (hg : Gl X "zip") (hm : X.mg "zip" = none) (ha : PA X [e, e2] ta)
    (hs : starEach [e, e2] X.env = (false, eval e X.env) :: starEach [e2] X.env := by rfl) (hpl : (backTo pos (starEach [e2] X.env)).any (·.1) = false := by rfl) :
    PI X (.Tuple elts kk tpos) (.Call (.Name "zip" p) [e, e2] [] pos) (RZ.iZipA K ta) := h ▸ RZ.pi_zipA hg hm ha hs hpl
theorem kTg {es : List Expr} {k : Nat} {t : TGs} {n : Nat} {pos : Pos} (h : X.K = K) (hc : X.calm = true) (h1 : PGs X es t) (hn : (assignEach es X.env).length = n := by rfl) (hst : (assignEach es X.env).findIdx? (·.1) = none := by rfl) : PG X (.Tuple es k pos) (gTup K n t) := h ▸ pg_tup hc h1 hn hst
theorem kFld {e : Expr} {ta : TE} {f : PySem.Str} {pos : Pos} (h : X.K = K) (he : PE X e ta) (hb : attributeBase e f X.env (eval e X.env) = eval e X.env) : PE X (.Attribute e f pos) (tFld K ta f) := h ▸ pe_fld he hb
theorem kMeth {o e : Expr} {es : List Expr} {to : TE} {t : TA} {name : Str} {apos cpos : Pos} {T id : String} {r : V → List V → Hp → VK → Prop} (h : X.K = K) (pa : PlainAttrs T) (slot : Slot T name id) (hty : typeOf (.builtin id) = pure (.type "method_descriptor")) (hm : MtR X id r) (ho : PE X o to) (ha : PA X (e :: es) t)
    (hbase : attributeBase o name X.env (eval o X.env) = eval o X.env := by rfl)
    (hfew : ((backTo cpos (starEach (e :: es) X.env)).all (fun x => !x.1) && (backToKw cpos (keywordEach [] X.env)).all (fun x => x.1.isSome)
      && decide ((e :: es).length + ([] : List Keyword).length + (if ([] : List Keyword).isEmpty then 0 else 1) < 30)) = true := by rfl)
    (hline : (apos.endLine == cpos.line) = true := by rfl) (hs : starEach (e :: es) X.env = (false, eval e X.env) :: starEach es X.env := by rfl) (hplain : (backTo cpos (starEach es X.env)).any (·.1) = false := by rfl) :
    PE X (.Call (.Attribute o name apos) (e :: es) [] cpos) (tBM K T r to t) := h ▸ pe_bm pa slot hty hm ho ha hbase hfew hline hs hplain
theorem kApp {o e : Expr} {es : List Expr} {to : TE} {t : TA} {apos cpos : Pos} (h : X.K = K) (ho : PE X o to) (ha : PA X (e :: es) t)
    (hbase : attributeBase o "append" X.env (eval o X.env) = eval o X.env := by rfl)
    (hfew : ((backTo cpos (starEach (e :: es) X.env)).all (fun x => !x.1) && (backToKw cpos (keywordEach [] X.env)).all (fun x => x.1.isSome)
      && decide ((e :: es).length + ([] : List Keyword).length + (if ([] : List Keyword).isEmpty then 0 else 1) < 30)) = true := by rfl)
    (hline : (apos.endLine == cpos.line) = true := by rfl) (hs : starEach (e :: es) X.env = (false, eval e X.env) :: starEach es X.env := by rfl) (hplain : (backTo cpos (starEach es X.env)).any (·.1) = false := by rfl) :
    PE X (.Call (.Attribute o "append" apos) (e :: es) [] cpos) (tBM K "list" rAppend to t) := kMeth h PySem.F.plainAttrs_list PySem.F.slot_list_append PySem.F.type_list_append mt_append ho ha hbase hfew hline hs hplain
end
end Q3
namespace Q3
open PySem PySem.Spec PyProof.Rows L2
/-! data compared -/
def pdV : V → PyData
  | .int i => .int i
  | .bl b => .bool b
  | .str x => .str x
  | _ => .none
mutual
def pd : D → PyData
  | .sc v => pdV v
  | .tup ds => .tuple (pdL ds)
def pdL : List D → List PyData
  | [] => []
  | d :: ds => pd d :: pdL ds
end
def plainV : V → Bool
  | .int _ => true
  | .bl _ => true
  | .non => true
  | _ => false
mutual
def plain : D → Bool
  | .sc v => plainV v
  | .tup ds => plainL ds
def plainL : List D → Bool
  | [] => true
  | d :: ds => plain d && plainL ds
end
mutual
def dep : D → Nat
  | .sc _ => 0
  | .tup ds => depL ds + 1
def depL : List D → Nat
  | [] => 0
  | d :: ds => max (dep d) (depL ds)
end
mutual
theorem dp_of {K : PySem.W.Frag} {H : Hp} : ∀ (d : D) (v : V), plain d = true → Rep K H d v → Dp K H v (pd d)
  | .sc u, v, hp, h => by
    have h : v = u := h
    subst h
    have hp : plainV v = true := hp
    cases v with
    | int i => exact .int i
    | bl b => exact .bl b
    | non => exact .non
    | str x => cases hp
    | byt x => cases hp
    | flt x => cases hp
    | ref a => cases hp
    | ty n => cases hp
  | .tup ds, v, hp, h => by
    obtain ⟨a, vs, rfl, hs, hr⟩ := h
    exact .tup hs (dpL_of ds vs hp hr)
theorem dpL_of {K : PySem.W.Frag} {H : Hp} : ∀ (ds : List D) (vs : List V), plainL ds = true → RepL K H ds vs → DpAll K H vs (pdL ds)
  | [], vs, hp, h => by
    have h : vs = [] := h
    subst h
    exact .nil
  | d :: ds, vs, hp, h => by
    obtain ⟨v, r, rfl, h1, h2⟩ := h
    have hp : (plain d && plainL ds) = true := hp
    rw [Bool.and_eq_true] at hp
    exact .cons (dp_of d v hp.1 h1) (dpL_of ds r hp.2 h2)
end
mutual
theorem lay_of : ∀ d : D, plain d = true → (pd d).canLay0 = true
  | .sc v, hp => by
    have hp : plainV v = true := hp
    cases v with
    | int i => show PyData.canLay0 (.int i) = true; simp only [PyData.canLay0]
    | bl b => show PyData.canLay0 (.bool b) = true; simp only [PyData.canLay0]
    | non => show PyData.canLay0 .none = true; simp only [PyData.canLay0]
    | str x => cases hp
    | byt x => cases hp
    | flt x => cases hp
    | ref a => cases hp
    | ty n => cases hp
  | .tup ds, hp => by
    show PyData.canLay0 (.tuple (pdL ds)) = true
    simp only [PyData.canLay0]
    exact layL_of ds hp
theorem layL_of : ∀ ds : List D, plainL ds = true → PyData.canLayAll0 (pdL ds) = true
  | [], _ => by show PyData.canLayAll0 [] = true; simp only [PyData.canLayAll0]
  | d :: ds, hp => by
    have hp : (plain d && plainL ds) = true := hp
    rw [Bool.and_eq_true] at hp
    show PyData.canLayAll0 (pd d :: pdL ds) = true
    simp only [PyData.canLayAll0, lay_of d hp.1, layL_of ds hp.2, Bool.and_self]
end
mutual
theorem dep_of : ∀ d : D, (pd d).depth = dep d
  | .sc v => by cases v <;> (show PyData.depth _ = 0; simp only [pd, pdV, PyData.depth])
  | .tup ds => by
    show PyData.depth (.tuple (pdL ds)) = depL ds + 1
    simp only [PyData.depth, depL_of ds]
theorem depL_of : ∀ ds : List D, PyData.depthAll (pdL ds) = depL ds
  | [] => by show PyData.depthAll [] = 0; simp only [PyData.depthAll]
  | d :: ds => by
    show PyData.depthAll (pd d :: pdL ds) = max (dep d) (depL ds)
    simp only [PyData.depthAll, dep_of d, depL_of ds]
end
mutual
theorem eqv_self : ∀ d : D, plain d = true → PyData.eqv (pd d) (pd d) = true
  | .sc v, hp => by
    have hp : plainV v = true := hp
    cases v with
    | int i => simp [pd, pdV, PyData.eqv]
    | bl b => simp [pd, pdV, PyData.eqv]
    | non => simp [pd, pdV, PyData.eqv]
    | str x => cases hp
    | byt x => cases hp
    | flt x => cases hp
    | ref a => cases hp
    | ty n => cases hp
  | .tup ds, hp => by
    show PyData.eqv (.tuple (pdL ds)) (.tuple (pdL ds)) = true
    rw [PyData.eqv]
    exact eqvL_self ds hp
theorem eqvL_self : ∀ ds : List D, plainL ds = true → PyData.eqvAll (pdL ds) (pdL ds) = true
  | [], _ => by simp [pdL, PyData.eqvAll]
  | d :: ds, hp => by
    have hp : (plain d && plainL ds) = true := hp
    rw [Bool.and_eq_true] at hp
    show PyData.eqvAll (pd d :: pdL ds) (pd d :: pdL ds) = true
    rw [PyData.eqvAll, eqv_self d hp.1, eqvL_self ds hp.2] <;> rfl
end
theorem shaped_of {d : D} (hp : plain d = true) (hd : dep d ≤ 64) : SeqAt.shaped (pd d) = true := by
  unfold SeqAt.shaped
  rw [lay_of d hp, dep_of d, decide_eq_true hd] <;> rfl
section
variable {C : Ct} {nm : Nm} {ta tb : TE} {d : D}
theorem rv_eqD (hp : plain d = true) (hd : dep d ≤ 64) : Rv C (rEqD C.K) d d (Is (.b true)) := fun H vx vy Q _ I p1 p2 q => by
  refine ⟨pd d, pd d, dp_of d vx hp p1, dp_of d vy hp p2, shaped_of hp hd, shaped_of hp hd, ?_⟩
  rw [eqv_self d hp]
  exact q _ _ H rfl (Le.refl _ _) I rfl
theorem rv_neD (hp : plain d = true) (hd : dep d ≤ 64) : Rv C (rNeD C.K) d d (Is (.b false)) := fun H vx vy Q _ I p1 p2 q => by
  refine ⟨pd d, pd d, dp_of d vx hp p1, dp_of d vy hp p2, shaped_of hp hd, shaped_of hp hd, ?_⟩
  rw [eqv_self d hp]
  exact q _ _ H rfl (Le.refl _ _) I rfl
theorem ev_eqD (ha : Ev C nm ta (Is d)) (hb : Ev C nm tb (Is d)) (hp : plain d = true) (hd : dep d ≤ 64) : Ev C nm (tOp (rEqD C.K) ta tb) (Is (.b true)) := ev_op ha hb (rv_eqD hp hd)
theorem ev_neD (ha : Ev C nm ta (Is d)) (hb : Ev C nm tb (Is d)) (hp : plain d = true) (hd : dep d ≤ 64) : Ev C nm (tOp (rNeD C.K) ta tb) (Is (.b false)) := ev_op ha hb (rv_neD hp hd)
end
theorem plain_fr (q : Rat) : plain (fr q) = true := rfl
theorem dep_fr (q : Rat) : dep (fr q) = 1 := rfl
theorem plain_frs : ∀ qs : List Rat, plainL (qs.map fr) = true
  | [] => rfl
  | q :: qs => by
    show (plain (fr q) && plainL (qs.map fr)) = true
    rw [plain_fr, plain_frs qs] <;> rfl
theorem dep_frs : ∀ qs : List Rat, depL (qs.map fr) ≤ 1
  | [] => by show 0 ≤ 1; decide
  | q :: qs => by
    show max (dep (fr q)) (depL (qs.map fr)) ≤ 1
    have := dep_frs qs
    rw [dep_fr]
    omega
end Q3
namespace Q3
open PySem PySem.Spec PyProof.Rows L2
/-! rules for built-ins on data -/
section
variable {C : Ct} {nm : Nm} {te : TE}
theorem rc_abs {i : Int} : Rc C (fun xs H Q => ∃ i, xs = [.int i] ∧ Q (.int (if i < 0 then -i else i)) H) [.i i] (Is (.i i.natAbs)) := fun H vs Q l ii p q => by
  obtain ⟨v, r, rfl, e1, e⟩ := p
  have e : r = [] := e
  have e1 : v = .int i := e1
  subst e e1
  refine ⟨i, rfl, ?_⟩
  have z : (if i < 0 then -i else i) = (i.natAbs : Int) := by split <;> omega
  rw [z]
  exact q _ _ H rfl (Le.refl _ _) ii rfl
theorem ev_abs {i : Int} (h : Ev C nm te (Is (.i i))) : Ev C nm (tCB (fun xs H Q => ∃ i, xs = [.int i] ∧ Q (.int (if i < 0 then -i else i)) H) (tCons te tNil)) (Is (.i i.natAbs)) := ev_callB (ea_cons h ea_nil) rc_abs
/-- a tuple's item -/
theorem ev_ix {ta tb : TE} {ds : List D} {d : D} (j : Nat) (ha : Ev C nm ta (Is (.tup ds))) (hb : Ev C nm tb (Is (.i (j : Int)))) (h : ds[j]? = some d) : Ev C nm (tOp (rIxT C.K) ta tb) (Is d) := ev_op ha hb (rv_ixT h)
theorem ev_ixc {ta : TE} {ds : List D} {d : D} (j : Nat) (ha : Ev C nm ta (Is (.tup ds))) (h : ds[j]? = some d) : Ev C nm (tOp (rIxT C.K) ta (tC (.int (j : Int)))) (Is d) := ev_ix j ha ev_c h
theorem ev_num {ta : TE} {q : Rat} (ha : Ev C nm ta (Is (fr q))) : Ev C nm (tOp (rIxT C.K) ta (tC (.int 0))) (Is (.i q.num)) := ev_ixc 0 ha rfl
theorem ev_den {ta : TE} {q : Rat} (ha : Ev C nm ta (Is (fr q))) : Ev C nm (tOp (rIxT C.K) ta (tC (.int 1))) (Is (.i (q.den : Int))) := ev_ixc 1 ha rfl
theorem ev_add {ta tb : TE} {i j : Int} (ha : Ev C nm ta (Is (.i i))) (hb : Ev C nm tb (Is (.i j))) : Ev C nm (tOp (rI0 fun i j => .int (i + j)) ta tb) (Is (.i (i + j))) := ev_op ha hb rv_I0
theorem ev_sub {ta tb : TE} {i j : Int} (ha : Ev C nm ta (Is (.i i))) (hb : Ev C nm tb (Is (.i j))) : Ev C nm (tOp (rI0 fun i j => .int (i - j)) ta tb) (Is (.i (i - j))) := ev_op ha hb rv_I0
theorem ev_mul {ta tb : TE} {i j : Int} (ha : Ev C nm ta (Is (.i i))) (hb : Ev C nm tb (Is (.i j))) (h : CMulW i j) : Ev C nm (tOp (rI CMulW fun i j => .int (i * j)) ta tb) (Is (.i (i * j))) := ev_op ha hb (rv_I h)
theorem ev_div {ta tb : TE} {i j : Int} (ha : Ev C nm ta (Is (.i i))) (hb : Ev C nm tb (Is (.i j))) (h : CDivW i j) : Ev C nm (tOp (rI CDivW fun i j => .int (i / j)) ta tb) (Is (.i (i / j))) := ev_op ha hb (rv_I h)
theorem ev_mod {ta tb : TE} {i j : Int} (ha : Ev C nm ta (Is (.i i))) (hb : Ev C nm tb (Is (.i j))) (h : j ≠ 0) : Ev C nm (tOp (rI (fun _ j => j ≠ 0) fun i j => .int (i.fmod j)) ta tb) (Is (.i (i.fmod j))) := ev_op ha hb (rv_I h)
theorem ev_b {ta tb : TE} {i j : Int} {g : Int → Int → Bool} {b : Bool} (ha : Ev C nm ta (Is (.i i))) (hb : Ev C nm tb (Is (.i j))) (h : g i j = b) : Ev C nm (tOp (rI0 fun i j => .bl (g i j)) ta tb) (Is (.b b)) := by
  rw [← h]
  exact ev_op ha hb rv_I0
theorem ev_eqI {ta tb : TE} {i j : Int} {b : Bool} (ha : Ev C nm ta (Is (.i i))) (hb : Ev C nm tb (Is (.i j))) (h : decide (i = j) = b) : Ev C nm (tOp rEq ta tb) (Is (.b b)) := by
  have e : decide (V.int i = V.int j) = b := by
    rw [← h]
    exact decide_eq_decide.mpr ⟨fun z => V.int.inj z, fun z => by rw [z]⟩
  rw [← e]
  exact ev_op ha hb (rv_eq rfl)
theorem ev_neI {ta tb : TE} {i j : Int} {b : Bool} (ha : Ev C nm ta (Is (.i i))) (hb : Ev C nm tb (Is (.i j))) (h : (!decide (i = j)) = b) : Ev C nm (tOp rNe ta tb) (Is (.b b)) := by
  have e : (!decide (V.int i = V.int j)) = b := by
    rw [← h]
    exact congrArg (!·) (decide_eq_decide.mpr ⟨fun z => V.int.inj z, fun z => by rw [z]⟩)
  rw [← e]
  exact ev_op ha hb (rv_ne rfl)
theorem tyx_tup {K : PySem.W.Frag} {ds : List D} (H : Hp) (v : V) (h : Rep K H (.tup ds) v) : TyX K H v (.type "tuple") := by
  obtain ⟨a, vs, rfl, hs, _⟩ := h
  rcases hs with (h | ⟨o, h⟩) | ⟨o, its, n, h, c, _⟩
  · exact .base (.tup h)
  · exact .fTuple h
  · exact .kTuple h c
theorem tyx_int {K : PySem.W.Frag} {n : Int} (H : Hp) (v : V) (h : Rep K H (.i n) v) : TyX K H v (.type "int") := by
  have h : v = .int n := h
  rw [h]
  exact .base (.int n)
theorem tyx_str {K : PySem.W.Frag} {n : PySem.Str} (H : Hp) (v : V) (h : Rep K H (.s n) v) : TyX K H v (.type "str") := by
  have h : v = .str n := h
  rw [h]
  exact .base (.str n)
end
/-! the numbers' mathematics -/
theorem fr_num_mk (t : Int) (b : Nat) (h : b ≠ 0) : (mkRat t b).num = t / (Int.gcd t (b : Int) : Int) ∧ ((mkRat t b).den : Int) = (b : Int) / (Int.gcd t (b : Int) : Int) := by
  have e : Int.gcd t (b : Int) = b.gcd t.natAbs := by rw [Int.gcd, Int.natAbs_natCast, Nat.gcd_comm]
  constructor
  · rw [Rat.num_mkRat, if_neg h, e]
  · rw [Rat.den_mkRat, if_neg h, e] <;> simp
theorem mk_add (a b : Rat) : mkRat (a.num * (b.den : Int) + b.num * (a.den : Int)) (a.den * b.den) = a + b := by
  rw [Rat.add_def, Rat.normalize_eq_mkRat]
theorem mk_mul (a b : Rat) : mkRat (a.num * b.num) (a.den * b.den) = a * b := by
  rw [Rat.mul_def, Rat.normalize_eq_mkRat]
theorem one_fr : fr 1 = .tup [.i 1, .i 1] := rfl
theorem zero_fr : fr 0 = .tup [.i 0, .i 1] := rfl
theorem Sz.mulW {n m : Nat} {i j : Int} (hi : i.natAbs < 2 ^ n) (hj : j.natAbs < 2 ^ m) (hn : n ≤ 4000) (hm : m ≤ 4000) : CMulW i j :=
  wide_mul (a := n + 1) (b := m + 1) (Nat.lt_of_lt_of_le hi (Nat.pow_le_pow_right (by decide) (by omega))) (Nat.lt_of_lt_of_le hj (Nat.pow_le_pow_right (by decide) (by omega))) (by omega) (by omega) (by omega)
section
variable {P : Program} {w : World} {K : PySem.W.Frag} {mg : Str → Option Value} {base : Heap} {aN aO aH : Addr}
theorem rep_nought (T : Txt K mg aN aO aH) (H : Hp) : Rep K H (fr 0) (.ref aN) := .tup (T.nT H) (.cons rfl (.cons rfl .nil))
theorem rep_one (T : Txt K mg aN aO aH) (H : Hp) : Rep K H (fr 1) (.ref aO) := .tup (T.oT H) (.cons rfl (.cons rfl .nil))
abbrev spIsInt (K : PySem.W.Frag) : Sp := spP K (fun n : Int => [.i n]) (fun _ => True) (fun _ => .b true)
theorem cal_is_integer (T : Txt K mg aN aO aH) (d : Df K mg "is_integer" s_is_integer ["thing"]) : C8.Cal P w K mg base 1 "is_integer" (spIsInt K) [] := by
  refine d.cal sc_is_integer (fun vs H Q E h => spP_len (fun _ => rfl) h) fun f cdv A outer s H vs Q E hr h => ?_
  refine ⟨_, (pss_one (ps_ret (pe_and (pe_callB (kIsi (K := K) rfl) (by rfl) T.isinstanceZ (by decide +kernel) (pa_cons (pv 0) (pa_cons (pe_bltn (v := .ty "int") (u := .type "int") (by rfl) T.intZ (by decide +kernel) rfl) pa_nil))) (pe_one (pe_not (pe_callB (kIsi (K := K) rfl) (by rfl) T.isinstanceZ (by decide +kernel) (pa_cons (pv 0) (pa_cons (pe_bltn (v := .ty "bool") (u := .type "bool") (by rfl) T.boolZ (by decide +kernel) rfl) pa_nil)))))))), spP_body h fun n _ => ?_⟩
  exact es_ret (ev_and (a := true) (b := true) (ev_isi (t := "int") (ev_var rfl) ev_c tyx_int (by decide +kernel)) (fun _ => ev_not (a := false) (ev_isi (t := "int") (ev_var rfl) ev_c tyx_int (by decide +kernel))) rfl)
abbrev spWithin (K : PySem.W.Frag) : Sp := spP K (fun x : Int × Int × Int => [.i x.1, .i x.2.1, .i x.2.2]) (fun _ => True) (fun x => .b (decide (x.2.1 ≤ x.1) && decide (x.1 ≤ x.2.2)))
theorem cal_is_within (d : Df K mg "is_within" s_is_within ["thing", "least", "most"]) (c_is_integer : C8.Cal P w K mg base 1 "is_integer" (spIsInt K) []) : C8.Cal P w K mg base 2 "is_within" (spWithin K) [] := by
  refine d.cal sc_is_within (fun vs H Q E h => spP_len (fun _ => rfl) h) fun f cdv A outer s H vs Q E hr h => ?_
  refine ⟨_, (pss_one (ps_ret (pe_and (C8.pe_c c_is_integer hr (by decide) rfl (pa_cons (pv 0) pa_nil)) (pe_one (pe_chain op_le op_le (pv 1) (pv 0) (pv 2)))))), spP_body h fun x _ => ?_⟩
  exact es_ret (ev_and (a := true) (ev_P x.1 (ea_cons (ev_var rfl) ea_nil) trivial) (fun _ => ev_chain (ev_var rfl) (ev_var rfl) (ev_var rfl)) rfl)
abbrev spSized (K : PySem.W.Frag) : Sp := spP K (fun x : List D × Int × Int => [.tup x.1, .i x.2.1, .i x.2.2]) (fun _ => True) (fun x => .b (decide (x.2.1 ≤ (x.1.length : Int)) && decide ((x.1.length : Int) ≤ x.2.2)))
theorem cal_is_sized (T : Txt K mg aN aO aH) (d : Df K mg "is_sized" s_is_sized ["thing", "least", "most"]) : C8.Cal P w K mg base 1 "is_sized" (spSized K) [] := by
  refine d.cal sc_is_sized (fun vs H Q E h => spP_len (fun _ => rfl) h) fun f cdv A outer s H vs Q E hr h => ?_
  refine ⟨_, (pss_one (ps_ret (pe_and (pe_callB (kIsi (K := K) rfl) (by rfl) T.isinstanceZ (by decide +kernel) (pa_cons (pv 0) (pa_cons (pe_bltn (v := .ty "tuple") (u := .type "tuple") (by rfl) T.tupleZ (by decide +kernel) rfl) pa_nil))) (pe_one (pe_chain op_le op_le (pv 1) (pe_callB (kLen (K := K) rfl) (by rfl) T.lenZ PySem.boot_len (pa_cons (pv 0) pa_nil)) (pv 2)))))), spP_body h fun x _ => ?_⟩
  exact es_ret (ev_and (a := true) (ev_isi (t := "tuple") (ev_var rfl) ev_c tyx_tup (by decide +kernel)) (fun _ => ev_chain (ev_var rfl) (ev_len (ev_var rfl)) (ev_var rfl)) rfl)
abbrev spPair (K : PySem.W.Frag) : Sp := spP K (fun x : List D => [.tup x]) (fun _ => True) (fun x => .b (decide ((x.length : Int) = 2)))
theorem cal_is_pair (T : Txt K mg aN aO aH) (d : Df K mg "is_pair" s_is_pair ["thing"]) : C8.Cal P w K mg base 1 "is_pair" (spPair K) [] := by
  refine d.cal sc_is_pair (fun vs H Q E h => spP_len (fun _ => rfl) h) fun f cdv A outer s H vs Q E hr h => ?_
  refine ⟨_, (pss_one (ps_ret (pe_and (pe_callB (kIsi (K := K) rfl) (by rfl) T.isinstanceZ (by decide +kernel) (pa_cons (pv 0) (pa_cons (pe_bltn (v := .ty "tuple") (u := .type "tuple") (by rfl) T.tupleZ (by decide +kernel) rfl) pa_nil))) (pe_one (pe_cmpR op_eq (pe_callB (kLen (K := K) rfl) (by rfl) T.lenZ PySem.boot_len (pa_cons (pv 0) pa_nil)) pe_int (nomark _)))))), spP_body h fun x _ => ?_⟩
  exact es_ret (ev_and (a := true) (ev_isi (t := "tuple") (ev_var rfl) ev_c tyx_tup (by decide +kernel)) (fun _ => ev_eqI (ev_len (ev_var rfl)) ev_c rfl) rfl)
abbrev spTriple (K : PySem.W.Frag) : Sp := spP K (fun x : List D => [.tup x]) (fun _ => True) (fun x => .b (decide ((x.length : Int) = 3)))
theorem cal_is_triple (T : Txt K mg aN aO aH) (d : Df K mg "is_triple" s_is_triple ["thing"]) : C8.Cal P w K mg base 1 "is_triple" (spTriple K) [] := by
  refine d.cal sc_is_triple (fun vs H Q E h => spP_len (fun _ => rfl) h) fun f cdv A outer s H vs Q E hr h => ?_
  refine ⟨_, (pss_one (ps_ret (pe_and (pe_callB (kIsi (K := K) rfl) (by rfl) T.isinstanceZ (by decide +kernel) (pa_cons (pv 0) (pa_cons (pe_bltn (v := .ty "tuple") (u := .type "tuple") (by rfl) T.tupleZ (by decide +kernel) rfl) pa_nil))) (pe_one (pe_cmpR op_eq (pe_callB (kLen (K := K) rfl) (by rfl) T.lenZ PySem.boot_len (pa_cons (pv 0) pa_nil)) pe_int (nomark _)))))), spP_body h fun x _ => ?_⟩
  exact es_ret (ev_and (a := true) (ev_isi (t := "tuple") (ev_var rfl) ev_c tyx_tup (by decide +kernel)) (fun _ => ev_eqI (ev_len (ev_var rfl)) ev_c rfl) rfl)
/-! divisor, lowest -/
theorem euclid {C : Ct} {a b : Nat} {g : Nat} (hg : Nat.gcd a b = g) {t : TS} {N : Nm → Prop} {Rt : D → Prop} (ht : ∀ a : Nat, a = g → Es C [some (.val (.i (a : Int))), some (.val (.i 0))] t N Rt) :
    Es C [some (.val (.i (a : Int))), some (.val (.i (b : Int)))] (tSeq (tWhile (tTest (tOp rNe (tVar 1) (tC (.int 0)))) (tPar 0 1 (tCons (tVar 1) (tCons (tOp (rI (fun _ j => j ≠ 0) fun i j => .int (i.fmod j)) (tVar 0) (tVar 1)) tNil)))) t) N Rt := by
  refine es_seq (N1 := fun nm' => ∃ a : Nat, a = g ∧ nm' = [some (.val (.i (a : Int))), some (.val (.i 0))]) ?_ ?_
  · refine es_while (fun m nm' => ∃ a b : Nat, Nat.gcd a b = g ∧ m = b ∧ nm' = [some (.val (.i (a : Int))), some (.val (.i (b : Int)))]) b ⟨a, b, hg, rfl, rfl⟩ fun m nm' h => ?_
    obtain ⟨a, b, h1, rfl, rfl⟩ := h
    refine ⟨_, et_test (ev_neI (i := (m : Int)) (j := 0) (ev_var rfl) ev_c rfl), fun hb => ?_, fun hb => ?_⟩
    · have hm : m ≠ 0 := fun z => by
        subst z
        simp at hb
      refine es_par (ea_cons (ev_var rfl) (ea_cons (ev_mod (ev_var rfl) (ev_var rfl) (by omega)) ea_nil)) ⟨a % m, Nat.mod_lt _ (by omega), m, a % m, ?_, rfl, ?_⟩
      · rw [← h1, Nat.gcd_comm m, ← Nat.gcd_rec, Nat.gcd_comm]
      · rw [Int.fmod_eq_emod_of_nonneg _ (by omega)]
        rfl
    · have hm : m = 0 := by
        simp at hb
        exact hb
      subst hm
      exact ⟨a, by rw [← h1, Nat.gcd_zero_right], rfl⟩
  · rintro nm' ⟨a, h, rfl⟩
    exact ht a h
abbrev spDivisor (K : PySem.W.Frag) : Sp := spP K (fun x : Int × Int => [.i x.1, .i x.2]) (fun _ => True) (fun x => .i (Int.gcd x.1 x.2 : Nat))
theorem cal_divisor (T : Txt K mg aN aO aH) (d : Df K mg "divisor" s_divisor ["one", "other"]) : C8.Cal P w K mg base 1 "divisor" (spDivisor K) [] := by
  refine d.cal sc_divisor (fun vs H Q E h => spP_len (fun _ => rfl) h) fun f cdv A outer s H vs Q E hr h => ?_
  refine ⟨_, (pss_cons (ps_par (i := 0) (j := 1) (by rfl) sc_divisor.nd rfl rfl (by decide) rfl rfl (pa_cons (pe_callB call_abs (by rfl) T.absZ (by decide +kernel) (pa_cons (pv 0) pa_nil)) (pa_cons (pe_callB call_abs (by rfl) T.absZ (by decide +kernel) (pa_cons (pv 1) pa_nil)) pa_nil)) (by rfl))
      (pss_cons (ps_while PassesOwn.never (pt_cmpR op_ne (pv 1) pe_int (nomark _)) (pss_one (ps_par (i := 0) (j := 1) (by rfl) sc_divisor.nd rfl rfl (by decide) rfl rfl (pa_cons (pv 1) (pa_cons (pe_op op_modN (pv 0) (pv 1)) pa_nil)) (by rfl))))
      (pss_one (ps_ret (pv 0))))), spP_body h fun x _ => ?_⟩
  refine es_seq (N1 := fun nm' => nm' = [some (.val (.i x.1.natAbs)), some (.val (.i x.2.natAbs))]) (es_par (ea_cons (ev_abs (ev_var rfl)) (ea_cons (ev_abs (ev_var rfl)) ea_nil)) rfl) ?_
  rintro nm' rfl
  refine euclid (g := Int.gcd x.1 x.2) rfl fun a ha => es_ret ?_
  subst ha
  exact ev_var rfl
abbrev spCommon (K : PySem.W.Frag) : Sp := spP K (fun x : Nat × Nat => [.i x.1, .i x.2]) (fun _ => True) (fun x => .i (Nat.gcd x.1 x.2 : Nat))
theorem cal_law_common (d : Df K mg "_law_common" s__law_common ["_law_one", "_law_other"]) : C8.Cal P w K mg base 1 "_law_common" (spCommon K) [] := by
  refine d.cal sc__law_common (fun vs H Q E h => spP_len (fun _ => rfl) h) fun f cdv A outer s H vs Q E hr h => ?_
  refine ⟨_, (pss_cons (ps_while PassesOwn.never (pt_cmpR op_ne (pv 1) pe_int (nomark _)) (pss_one (ps_par (i := 0) (j := 1) (by rfl) sc__law_common.nd rfl rfl (by decide) rfl rfl (pa_cons (pv 1) (pa_cons (pe_op op_modN (pv 0) (pv 1)) pa_nil)) (by rfl))))
      (pss_one (ps_ret (pv 0)))), spP_body h fun x _ => ?_⟩
  refine euclid (g := Nat.gcd x.1 x.2) rfl fun a ha => es_ret ?_
  subst ha
  exact ev_var rfl
theorem gcd_div {t : Int} {b : Nat} (h0 : b ≠ 0) (hb : b < 2 ^ 8001) (i : Int) : CDivW i (Int.gcd t (b : Int) : Int) := by
  have h1 : 0 < Int.gcd t (b : Int) := by
    rw [Int.gcd, Int.natAbs_natCast]
    exact Nat.gcd_pos_of_pos_right _ (by omega)
  have h2 : Int.gcd t (b : Int) ≤ b := by
    rw [Int.gcd, Int.natAbs_natCast]
    exact Nat.gcd_le_right _ (by omega)
  exact wide_div (b := 8001) (by omega) (by rw [Int.natAbs_natCast]; exact Nat.lt_of_le_of_lt h2 hb) (by decide) (by decide)
abbrev spLowest (K : PySem.W.Frag) : Sp := spP K (fun x : Int × Nat => [.i x.1, .i (x.2 : Int)]) (fun x => x.2 ≠ 0 ∧ x.2 < 2 ^ 8001) (fun x => fr (mkRat x.1 x.2))
theorem cal_lowest (d : Df K mg "lowest" s_lowest ["top", "bottom"]) (c_divisor : C8.Cal P w K mg base 1 "divisor" (spDivisor K) []) : C8.Cal P w K mg base 2 "lowest" (spLowest K) [] := by
  refine d.cal sc_lowest (fun vs H Q E h => spP_len (fun _ => rfl) h) fun f cdv A outer s H vs Q E hr h => ?_
  refine ⟨_, (pss_cons (ps_set (i := 2) sc_lowest.nd rfl (Or.inl rfl) (pe_ifExp (pt_cmpR op_gt (pv 1) pe_int (nomark _)) (C8.pe_c c_divisor hr (by decide) rfl (pa_cons (pv 0) (pa_cons (pv 1) pa_nil))) (pe_un un_neg (C8.pe_c c_divisor hr (by decide) rfl (pa_cons (pv 0) (pa_cons (pv 1) pa_nil))))))
      (pss_one (ps_ret (pe_tup (pa_cons (pe_op op_fdivW (pv 0) (pv 2)) (pa_cons (pe_op op_fdivW (pv 1) (pv 2)) pa_nil)))))), spP_body h fun x hx => ?_⟩
  obtain ⟨t, b⟩ := x
  obtain ⟨h0, hb⟩ := hx
  have hbp : (0 : Int) < (b : Int) := by have : b ≠ 0 := h0; omega
  refine es_seq (N1 := fun nm' => nm' = [some (.val (.i t)), some (.val (.i (b : Int))), some (.val (.i (Int.gcd t (b : Int) : Nat)))])
    (es_asg (ev_if (b := true) (et_test (ev_b (ev_var rfl) ev_c (decide_eq_true hbp))) (fun _ => ev_P (t, (b : Int)) (ea_cons (ev_var rfl) (ea_cons (ev_var rfl) ea_nil)) trivial) (fun z => nomatch z)) rfl) ?_
  rintro nm' rfl
  have e : fr (mkRat t b) = .tup [.i (t / (Int.gcd t (b : Int) : Int)), .i ((b : Int) / (Int.gcd t (b : Int) : Int))] := by
    obtain ⟨e1, e2⟩ := fr_num_mk t b h0
    unfold fr
    rw [e1, e2]
  show Es _ _ _ _ (Is (fr (mkRat t b)))
  rw [e]
  exact es_ret (ev_tup (ea_cons (ev_div (ev_var rfl) (ev_var rfl) (gcd_div h0 hb _)) (ea_cons (ev_div (ev_var rfl) (ev_var rfl) (gcd_div h0 hb _)) ea_nil)) (by simp))
abbrev spLow (K : PySem.W.Frag) : Sp := spLowest K
theorem cal_law_low (T : Txt K mg aN aO aH) (d : Df K mg "_law_low" s__law_low ["_law_top", "_law_bottom"]) (c__law_common : C8.Cal P w K mg base 1 "_law_common" (spCommon K) []) : C8.Cal P w K mg base 2 "_law_low" (spLow K) [] := by
  refine d.cal sc__law_low (fun vs H Q E h => spP_len (fun _ => rfl) h) fun f cdv A outer s H vs Q E hr h => ?_
  refine ⟨_, (pss_cons (ps_set (i := 2) sc__law_low.nd rfl (Or.inl rfl) (C8.pe_c c__law_common hr (by decide) rfl (pa_cons (pe_callB call_abs (by rfl) T.absZ (by decide +kernel) (pa_cons (pv 0) pa_nil)) (pa_cons (pv 1) pa_nil))))
      (pss_one (ps_ret (pe_tup (pa_cons (pe_op op_fdivW (pv 0) (pv 2)) (pa_cons (pe_op op_fdivW (pv 1) (pv 2)) pa_nil)))))), spP_body h fun x hx => ?_⟩
  obtain ⟨t, b⟩ := x
  obtain ⟨h0, hb⟩ := hx
  refine es_seq (N1 := fun nm' => nm' = [some (.val (.i t)), some (.val (.i (b : Int))), some (.val (.i (Int.gcd t (b : Int) : Nat)))])
    (es_asg (ev_P (t.natAbs, b) (ea_cons (ev_abs (ev_var rfl)) (ea_cons (ev_var rfl) ea_nil)) trivial) rfl) ?_
  rintro nm' rfl
  have e : fr (mkRat t b) = .tup [.i (t / (Int.gcd t (b : Int) : Int)), .i ((b : Int) / (Int.gcd t (b : Int) : Int))] := by
    obtain ⟨e1, e2⟩ := fr_num_mk t b h0
    unfold fr
    rw [e1, e2]
  show Es _ _ _ _ (Is (fr (mkRat t b)))
  rw [e]
  exact es_ret (ev_tup (ea_cons (ev_div (ev_var rfl) (ev_var rfl) (gcd_div h0 hb _)) (ea_cons (ev_div (ev_var rfl) (ev_var rfl) (gcd_div h0 hb _)) ea_nil)) (by simp))
/-! plus, times, is_below, greater -/
abbrev e2 (x : Rat × Rat) : List D := [fr x.1, fr x.2]
abbrev Sz2 (x : Rat × Rat) : Prop := Sz 4000 x.1 ∧ Sz 4000 x.2
theorem den_ne (a b : Rat) : a.den * b.den ≠ 0 := Nat.mul_ne_zero a.den_nz b.den_nz
theorem den_lt {a b : Rat} (h : Sz2 (a, b)) : a.den * b.den < 2 ^ 8001 := Nat.lt_of_lt_of_le (mul_lt_pow h.1.2 h.2.2) (Nat.pow_le_pow_right (by decide) (by decide))
abbrev spPlus (K : PySem.W.Frag) : Sp := spP K e2 Sz2 (fun x => fr (x.1 + x.2))
theorem ev_crossW {C : Ct} {nm : Nm} {ta tb : TE} {a b : Rat} (ha : Ev C nm ta (Is (fr a))) (hb : Ev C nm tb (Is (fr b))) (h : Sz2 (a, b)) : Ev C nm (tOp (rI CMulW fun i j => .int (i * j)) (tOp (rIxT C.K) ta (tC (.int 0))) (tOp (rIxT C.K) tb (tC (.int 1)))) (Is (.i (a.num * (b.den : Int)))) :=
  ev_mul (ev_num ha) (ev_den hb) (Sz.mulW h.1.1 (by rw [Int.natAbs_natCast]; exact h.2.2) (Nat.le_refl _) (Nat.le_refl _))
theorem ev_densW {C : Ct} {nm : Nm} {ta tb : TE} {a b : Rat} (ha : Ev C nm ta (Is (fr a))) (hb : Ev C nm tb (Is (fr b))) (h : Sz2 (a, b)) : Ev C nm (tOp (rI CMulW fun i j => .int (i * j)) (tOp (rIxT C.K) ta (tC (.int 1))) (tOp (rIxT C.K) tb (tC (.int 1)))) (Is (.i ((a.den * b.den : Nat) : Int))) := by
  rw [Int.natCast_mul]
  exact ev_mul (ev_den ha) (ev_den hb) (Sz.mulW (by rw [Int.natAbs_natCast]; exact h.1.2) (by rw [Int.natAbs_natCast]; exact h.2.2) (Nat.le_refl _) (Nat.le_refl _))
theorem ev_numsW {C : Ct} {nm : Nm} {ta tb : TE} {a b : Rat} (ha : Ev C nm ta (Is (fr a))) (hb : Ev C nm tb (Is (fr b))) (h : Sz2 (a, b)) : Ev C nm (tOp (rI CMulW fun i j => .int (i * j)) (tOp (rIxT C.K) ta (tC (.int 0))) (tOp (rIxT C.K) tb (tC (.int 0)))) (Is (.i (a.num * b.num))) :=
  ev_mul (ev_num ha) (ev_num hb) (Sz.mulW h.1.1 h.2.1 (Nat.le_refl _) (Nat.le_refl _))
theorem cal_plus (d : Df K mg "plus" s_plus ["one", "other"]) (c_lowest : C8.Cal P w K mg base 2 "lowest" (spLowest K) []) : C8.Cal P w K mg base 3 "plus" (spPlus K) [] := by
  refine d.cal sc_plus (fun vs H Q E h => spP_len (fun _ => rfl) h) fun f cdv A outer s H vs Q E hr h => ?_
  refine ⟨_, (pss_one (ps_ret (C8.pe_c c_lowest hr (by decide) rfl (pa_cons (pe_op op_add (pe_op op_mulW (pe_ix (kIxT (K := K) rfl) (pv 0) pe_int (fun _ _ => rfl)) (pe_ix (kIxT (K := K) rfl) (pv 1) pe_int (fun _ _ => rfl))) (pe_op op_mulW (pe_ix (kIxT (K := K) rfl) (pv 1) pe_int (fun _ _ => rfl)) (pe_ix (kIxT (K := K) rfl) (pv 0) pe_int (fun _ _ => rfl)))) (pa_cons (pe_op op_mulW (pe_ix (kIxT (K := K) rfl) (pv 0) pe_int (fun _ _ => rfl)) (pe_ix (kIxT (K := K) rfl) (pv 1) pe_int (fun _ _ => rfl))) pa_nil))))), spP_body h fun x hx => ?_⟩
  obtain ⟨a, b⟩ := x
  have hx' : Sz2 (b, a) := ⟨hx.2, hx.1⟩
  show Es _ _ _ _ (Is (fr (a + b)))
  rw [← mk_add a b]
  exact es_ret (ev_P (_, a.den * b.den) (ea_cons (ev_add (ev_crossW (ev_var rfl) (ev_var rfl) hx) (ev_crossW (ev_var rfl) (ev_var rfl) hx')) (ea_cons (ev_densW (ev_var rfl) (ev_var rfl) hx) ea_nil)) ⟨den_ne a b, den_lt hx⟩)
theorem cal_law_plus (d : Df K mg "_law_plus" s__law_plus ["_law_one", "_law_other"]) (c__law_low : C8.Cal P w K mg base 2 "_law_low" (spLow K) []) : C8.Cal P w K mg base 3 "_law_plus" (spPlus K) [] := by
  refine d.cal sc__law_plus (fun vs H Q E h => spP_len (fun _ => rfl) h) fun f cdv A outer s H vs Q E hr h => ?_
  refine ⟨_, (pss_one (ps_ret (C8.pe_c c__law_low hr (by decide) rfl (pa_cons (pe_op op_add (pe_op op_mulW (pe_ix (kIxT (K := K) rfl) (pv 0) pe_int (fun _ _ => rfl)) (pe_ix (kIxT (K := K) rfl) (pv 1) pe_int (fun _ _ => rfl))) (pe_op op_mulW (pe_ix (kIxT (K := K) rfl) (pv 1) pe_int (fun _ _ => rfl)) (pe_ix (kIxT (K := K) rfl) (pv 0) pe_int (fun _ _ => rfl)))) (pa_cons (pe_op op_mulW (pe_ix (kIxT (K := K) rfl) (pv 0) pe_int (fun _ _ => rfl)) (pe_ix (kIxT (K := K) rfl) (pv 1) pe_int (fun _ _ => rfl))) pa_nil))))), spP_body h fun x hx => ?_⟩
  obtain ⟨a, b⟩ := x
  have hx' : Sz2 (b, a) := ⟨hx.2, hx.1⟩
  show Es _ _ _ _ (Is (fr (a + b)))
  rw [← mk_add a b]
  exact es_ret (ev_P (_, a.den * b.den) (ea_cons (ev_add (ev_crossW (ev_var rfl) (ev_var rfl) hx) (ev_crossW (ev_var rfl) (ev_var rfl) hx')) (ea_cons (ev_densW (ev_var rfl) (ev_var rfl) hx) ea_nil)) ⟨den_ne a b, den_lt hx⟩)
abbrev spTimes (K : PySem.W.Frag) : Sp := spP K e2 Sz2 (fun x => fr (x.1 * x.2))
theorem cal_times (d : Df K mg "times" s_times ["one", "other"]) (c_lowest : C8.Cal P w K mg base 2 "lowest" (spLowest K) []) : C8.Cal P w K mg base 3 "times" (spTimes K) [] := by
  refine d.cal sc_times (fun vs H Q E h => spP_len (fun _ => rfl) h) fun f cdv A outer s H vs Q E hr h => ?_
  refine ⟨_, (pss_one (ps_ret (C8.pe_c c_lowest hr (by decide) rfl (pa_cons (pe_op op_mulW (pe_ix (kIxT (K := K) rfl) (pv 0) pe_int (fun _ _ => rfl)) (pe_ix (kIxT (K := K) rfl) (pv 1) pe_int (fun _ _ => rfl))) (pa_cons (pe_op op_mulW (pe_ix (kIxT (K := K) rfl) (pv 0) pe_int (fun _ _ => rfl)) (pe_ix (kIxT (K := K) rfl) (pv 1) pe_int (fun _ _ => rfl))) pa_nil))))), spP_body h fun x hx => ?_⟩
  obtain ⟨a, b⟩ := x
  show Es _ _ _ _ (Is (fr (a * b)))
  rw [← mk_mul a b]
  exact es_ret (ev_P (_, a.den * b.den) (ea_cons (ev_numsW (ev_var rfl) (ev_var rfl) hx) (ea_cons (ev_densW (ev_var rfl) (ev_var rfl) hx) ea_nil)) ⟨den_ne a b, den_lt hx⟩)
theorem cal_law_times (d : Df K mg "_law_times" s__law_times ["_law_one", "_law_other"]) (c__law_low : C8.Cal P w K mg base 2 "_law_low" (spLow K) []) : C8.Cal P w K mg base 3 "_law_times" (spTimes K) [] := by
  refine d.cal sc__law_times (fun vs H Q E h => spP_len (fun _ => rfl) h) fun f cdv A outer s H vs Q E hr h => ?_
  refine ⟨_, (pss_one (ps_ret (C8.pe_c c__law_low hr (by decide) rfl (pa_cons (pe_op op_mulW (pe_ix (kIxT (K := K) rfl) (pv 0) pe_int (fun _ _ => rfl)) (pe_ix (kIxT (K := K) rfl) (pv 1) pe_int (fun _ _ => rfl))) (pa_cons (pe_op op_mulW (pe_ix (kIxT (K := K) rfl) (pv 0) pe_int (fun _ _ => rfl)) (pe_ix (kIxT (K := K) rfl) (pv 1) pe_int (fun _ _ => rfl))) pa_nil))))), spP_body h fun x hx => ?_⟩
  obtain ⟨a, b⟩ := x
  show Es _ _ _ _ (Is (fr (a * b)))
  rw [← mk_mul a b]
  exact es_ret (ev_P (_, a.den * b.den) (ea_cons (ev_numsW (ev_var rfl) (ev_var rfl) hx) (ea_cons (ev_densW (ev_var rfl) (ev_var rfl) hx) ea_nil)) ⟨den_ne a b, den_lt hx⟩)
abbrev spBelow (K : PySem.W.Frag) : Sp := spP K e2 Sz2 (fun x => .b (decide (x.1 < x.2)))
theorem lt_dec (a b : Rat) : decide (a.num * (b.den : Int) < b.num * (a.den : Int)) = decide (a < b) := decide_eq_decide.mpr (Rat.lt_iff a b).symm
theorem cal_is_below (d : Df K mg "is_below" s_is_below ["one", "other"]) : C8.Cal P w K mg base 1 "is_below" (spBelow K) [] := by
  refine d.cal sc_is_below (fun vs H Q E h => spP_len (fun _ => rfl) h) fun f cdv A outer s H vs Q E hr h => ?_
  refine ⟨_, (pss_one (ps_ret (pe_cmpR op_lt (pe_op op_mulW (pe_ix (kIxT (K := K) rfl) (pv 0) pe_int (fun _ _ => rfl)) (pe_ix (kIxT (K := K) rfl) (pv 1) pe_int (fun _ _ => rfl))) (pe_op op_mulW (pe_ix (kIxT (K := K) rfl) (pv 1) pe_int (fun _ _ => rfl)) (pe_ix (kIxT (K := K) rfl) (pv 0) pe_int (fun _ _ => rfl))) (nomark _)))), spP_body h fun x hx => ?_⟩
  obtain ⟨a, b⟩ := x
  exact es_ret (ev_b (ev_crossW (ev_var rfl) (ev_var rfl) hx) (ev_crossW (ev_var rfl) (ev_var rfl) ⟨hx.2, hx.1⟩) (lt_dec a b))
theorem cal_law_below (d : Df K mg "_law_below" s__law_below ["_law_one", "_law_other"]) : C8.Cal P w K mg base 1 "_law_below" (spBelow K) [] := by
  refine d.cal sc__law_below (fun vs H Q E h => spP_len (fun _ => rfl) h) fun f cdv A outer s H vs Q E hr h => ?_
  refine ⟨_, (pss_one (ps_ret (pe_cmpR op_lt (pe_op op_mulW (pe_ix (kIxT (K := K) rfl) (pv 0) pe_int (fun _ _ => rfl)) (pe_ix (kIxT (K := K) rfl) (pv 1) pe_int (fun _ _ => rfl))) (pe_op op_mulW (pe_ix (kIxT (K := K) rfl) (pv 1) pe_int (fun _ _ => rfl)) (pe_ix (kIxT (K := K) rfl) (pv 0) pe_int (fun _ _ => rfl))) (nomark _)))), spP_body h fun x hx => ?_⟩
  obtain ⟨a, b⟩ := x
  exact es_ret (ev_b (ev_crossW (ev_var rfl) (ev_var rfl) hx) (ev_crossW (ev_var rfl) (ev_var rfl) ⟨hx.2, hx.1⟩) (lt_dec a b))
abbrev spGreater (K : PySem.W.Frag) : Sp := spP K e2 Sz2 (fun x => fr (mx x.1 x.2))
theorem cal_greater (d : Df K mg "greater" s_greater ["one", "other"]) (c_is_below : C8.Cal P w K mg base 1 "is_below" (spBelow K) []) : C8.Cal P w K mg base 2 "greater" (spGreater K) [] := by
  refine d.cal sc_greater (fun vs H Q E h => spP_len (fun _ => rfl) h) fun f cdv A outer s H vs Q E hr h => ?_
  refine ⟨_, (pss_one (ps_ret (pe_ifExp (pt_val (C8.pe_c c_is_below hr (by decide) rfl (pa_cons (pv 0) (pa_cons (pv 1) pa_nil)))) (pv 1) (pv 0)))), spP_body h fun x hx => ?_⟩
  obtain ⟨a, b⟩ := x
  refine es_ret (ev_if (et_val (ev_P (a, b) (ea_cons (ev_var rfl) (ea_cons (ev_var rfl) ea_nil)) hx)) (fun h => ?_) fun h => ?_)
  · have e : mx a b = b := if_pos (of_decide_eq_true h)
    show Ev _ _ _ (Is (fr (mx a b)))
    rw [e]
    exact ev_var rfl
  · have e : mx a b = a := if_neg (of_decide_eq_false h)
    show Ev _ _ _ (Is (fr (mx a b)))
    rw [e]
    exact ev_var rfl
end
end Q3
namespace Q3
open PySem PySem.Spec PyProof.Rows L2
section
variable {P : Program} {w : World} {K : PySem.W.Frag} {mg : Str → Option Value} {base : Heap} {aN aO aH : Addr}
theorem fr_at {qs : List Rat} {i : Nat} {d : D} (h : (qs.map fr)[i]? = some d) : ∃ q, qs[i]? = some q ∧ d = fr q := by
  rw [List.getElem?_map] at h
  cases e : qs[i]? with
  | none => rw [e] at h; cases h
  | some q =>
    rw [e] at h
    exact ⟨q, rfl, (Option.some.inj h).symm⟩
/-- some fractions of a size, a bound of their sum's size -/
abbrev NL := Nat × List Rat
abbrev NLok (x : NL) : Prop := (∀ q ∈ x.2, Sz x.1 q) ∧ 1 + x.2.length * (x.1 + 1) ≤ 4000
theorem NLok.part {x : NL} (h : NLok x) {i : Nat} {q : Rat} (e : x.2[i]? = some q) : Sz2 (tot (x.2.take i), q) := by
  have hi := (List.getElem?_eq_some_iff.mp e).1
  have h1 : 1 * (x.1 + 1) ≤ x.2.length * (x.1 + 1) := Nat.mul_le_mul_right _ (by omega)
  have h2 := h.2
  refine ⟨(tot_sz (n := x.1) fun y hy => h.1 y (List.mem_of_mem_take hy)).mono ?_, (h.1 q (List.mem_of_getElem? e)).mono (by omega)⟩
  have h3 : (x.2.take i).length * (x.1 + 1) ≤ x.2.length * (x.1 + 1) := Nat.mul_le_mul_right _ (by rw [List.length_take]; omega)
  omega
abbrev spTotal (K : PySem.W.Frag) : Sp := spQ K (fun x : NL => x.2.map fr) NLok (fun x => fr (tot x.2))
abbrev spTotalT (K : PySem.W.Frag) : Sp := spP K (fun x : NL => [frs x.2]) NLok (fun x => fr (tot x.2))
theorem cal_total (T : Txt K mg aN aO aH) (d : Df K mg "total" s_total ["fractions"]) (c_plus : C8.Cal P w K mg base 3 "plus" (spPlus K) []) : C8.Cal P w K mg base 4 "total" (spTotal K) [] := by
  refine d.cal sc_total (fun vs H Q E h => spQ_len h) fun f cdv A outer s H vs Q E hr h => ?_
  refine ⟨_, (pss_cons (ps_set (i := 1) sc_total.nd rfl (Or.inl rfl) (pe_glob (v := .ref aN) rfl T.NOUGHT rfl))
      (pss_cons (ps_for PassesOwn.never rfl (kPiL (K := K) rfl (pv 0)) (pg_name (i := 2) sc_total.nd rfl (Or.inl rfl)) (pss_one (ps_set (i := 1) sc_total.nd rfl (Or.inl rfl) (C8.pe_c c_plus hr (by decide) rfl (pa_cons (pv 1) (pa_cons (pv 2) pa_nil))))))
      (pss_one (ps_ret (pv 1))))), spQ_body h fun x p us hl r hx => ?_⟩
  refine es_seq (N1 := fun nm' => ∃ e, nm' = [some (.val (.sc (.ref p))), some (.val (fr (tot (x.2.take 0)))), e]) (es_asg (ev_cK (rep_nought T H)) ⟨none, rfl⟩) ?_
  rintro nm' ⟨e, rfl⟩
  refine es_seq (N1 := fun nm' => ∃ e, nm' = [some (.val (.sc (.ref p))), some (.val (fr (tot x.2))), e])
    (es_for (ei_lst (ds := x.2.map fr) (ev_var rfl) hl (by simp [Ct.pure]) r) (fun i nm' => ∃ e, nm' = [some (.val (.sc (.ref p))), some (.val (fr (tot (x.2.take i)))), e]) ⟨e, rfl⟩ (fun _ _ _ => trivial) (fun i d nm' hd hP => ?_) fun nm' hP => ?_) ?_
  · obtain ⟨e, rfl⟩ := hP
    obtain ⟨q, hq, rfl⟩ := fr_at hd
    refine ⟨_, _, eg_name, es_asg (ev_P (tot (x.2.take i), q) (ea_cons (ev_var rfl) (ea_cons (ev_var rfl) ea_nil)) (NLok.part hx hq)) ⟨some (.val (fr q)), ?_⟩⟩
    rw [tot_take hq]
    rfl
  · obtain ⟨e, rfl⟩ := hP
    exact ⟨e, by rw [List.length_map, List.take_length]⟩
  · rintro nm' ⟨e, rfl⟩
    exact es_ret (ev_var rfl)
theorem cal_totalT (T : Txt K mg aN aO aH) (d : Df K mg "total" s_total ["fractions"]) (c_plus : C8.Cal P w K mg base 3 "plus" (spPlus K) []) : C8.Cal P w K mg base 4 "total" (spTotalT K) [] := by
  refine d.cal sc_total (fun vs H Q E h => spP_len (fun _ => rfl) h) fun f cdv A outer s H vs Q E hr h => ?_
  refine ⟨_, (pss_cons (ps_set (i := 1) sc_total.nd rfl (Or.inl rfl) (pe_glob (v := .ref aN) rfl T.NOUGHT rfl))
      (pss_cons (ps_for PassesOwn.never rfl (kPiT (K := K) rfl (pv 0)) (pg_name (i := 2) sc_total.nd rfl (Or.inl rfl)) (pss_one (ps_set (i := 1) sc_total.nd rfl (Or.inl rfl) (C8.pe_c c_plus hr (by decide) rfl (pa_cons (pv 1) (pa_cons (pv 2) pa_nil))))))
      (pss_one (ps_ret (pv 1))))), spP_body h fun x hx => ?_⟩
  refine es_seq (N1 := fun nm' => ∃ e, nm' = [some (.val (frs x.2)), some (.val (fr (tot (x.2.take 0)))), e]) (es_asg (ev_cK (rep_nought T H)) ⟨none, rfl⟩) ?_
  rintro nm' ⟨e, rfl⟩
  refine es_seq (N1 := fun nm' => ∃ e, nm' = [some (.val (frs x.2)), some (.val (fr (tot x.2))), e])
    (es_for (ei_tup (ds := x.2.map fr) (ev_var rfl)) (fun i nm' => ∃ e, nm' = [some (.val (frs x.2)), some (.val (fr (tot (x.2.take i)))), e]) ⟨e, rfl⟩ (fun _ _ _ => trivial) (fun i d nm' hd hP => ?_) fun nm' hP => ?_) ?_
  · obtain ⟨e, rfl⟩ := hP
    obtain ⟨q, hq, rfl⟩ := fr_at hd
    refine ⟨_, _, eg_name, es_asg (ev_P (tot (x.2.take i), q) (ea_cons (ev_var rfl) (ea_cons (ev_var rfl) ea_nil)) (NLok.part hx hq)) ⟨some (.val (fr q)), ?_⟩⟩
    rw [tot_take hq]
    rfl
  · obtain ⟨e, rfl⟩ := hP
    exact ⟨e, by rw [List.length_map, List.take_length]⟩
  · rintro nm' ⟨e, rfl⟩
    exact es_ret (ev_var rfl)
theorem cal_law_total (d : Df K mg "_law_total" s__law_total ["_law_parts"]) (c__law_plus : C8.Cal P w K mg base 3 "_law_plus" (spPlus K) []) : C8.Cal P w K mg base 4 "_law_total" (spTotal K) [] := by
  refine d.cal sc__law_total (fun vs H Q E h => spQ_len h) fun f cdv A outer s H vs Q E hr h => ?_
  refine ⟨_, (pss_cons (ps_set (i := 1) sc__law_total.nd rfl (Or.inl rfl) (pe_tup (pa_cons pe_int (pa_cons pe_int pa_nil))))
      (pss_cons (ps_for PassesOwn.never rfl (kPiL (K := K) rfl (pv 0)) (pg_name (i := 2) sc__law_total.nd rfl (Or.inl rfl)) (pss_one (ps_set (i := 1) sc__law_total.nd rfl (Or.inl rfl) (C8.pe_c c__law_plus hr (by decide) rfl (pa_cons (pv 1) (pa_cons (pv 2) pa_nil))))))
      (pss_one (ps_ret (pv 1))))), spQ_body h fun x p us hl r hx => ?_⟩
  refine es_seq (N1 := fun nm' => ∃ e, nm' = [some (.val (.sc (.ref p))), some (.val (fr (tot (x.2.take 0)))), e]) (es_asg (d := fr 0) (ev_tup (ds := [.i 0, .i 1]) (ea_cons ev_c (ea_cons ev_c ea_nil)) (by simp)) ⟨none, rfl⟩) ?_
  rintro nm' ⟨e, rfl⟩
  refine es_seq (N1 := fun nm' => ∃ e, nm' = [some (.val (.sc (.ref p))), some (.val (fr (tot x.2))), e])
    (es_for (ei_lst (ds := x.2.map fr) (ev_var rfl) hl (by simp [Ct.pure]) r) (fun i nm' => ∃ e, nm' = [some (.val (.sc (.ref p))), some (.val (fr (tot (x.2.take i)))), e]) ⟨e, rfl⟩ (fun _ _ _ => trivial) (fun i d nm' hd hP => ?_) fun nm' hP => ?_) ?_
  · obtain ⟨e, rfl⟩ := hP
    obtain ⟨q, hq, rfl⟩ := fr_at hd
    refine ⟨_, _, eg_name, es_asg (ev_P (tot (x.2.take i), q) (ea_cons (ev_var rfl) (ea_cons (ev_var rfl) ea_nil)) (NLok.part hx hq)) ⟨some (.val (fr q)), ?_⟩⟩
    rw [tot_take hq]
    rfl
  · obtain ⟨e, rfl⟩ := hP
    exact ⟨e, by rw [List.length_map, List.take_length]⟩
  · rintro nm' ⟨e, rfl⟩
    exact es_ret (ev_var rfl)
/-! the greatest of a list -/
abbrev NMok (x : NL) : Prop := (∀ q ∈ x.2, Sz x.1 q) ∧ x.1 ≤ 4000 ∧ x.2 ≠ []
abbrev spMost (K : PySem.W.Frag) : Sp := spQ K (fun x : NL => x.2.map fr) NMok (fun x => fr (mostL x.2))
theorem most_take {xs : List Rat} {i : Nat} {x a : Rat} (h : xs[i]? = some x) : most a (xs.take (i + 1)) = mx (most a (xs.take i)) x := by
  rw [List.take_add_one, h]
  show most a (xs.take i ++ [x]) = _
  rw [most_append] <;> rfl
theorem cal_law_most (d : Df K mg "_law_most" s__law_most ["_law_parts"]) (c__law_below : C8.Cal P w K mg base 1 "_law_below" (spBelow K) []) : C8.Cal P w K mg base 2 "_law_most" (spMost K) [] := by
  refine d.cal sc__law_most (fun vs H Q E h => spQ_len h) fun f cdv A outer s H vs Q E hr h => ?_
  refine ⟨_, (pss_cons (ps_set (i := 1) sc__law_most.nd rfl (Or.inl rfl) (pe_ix (kIxL (K := K) rfl) (pv 0) pe_int (fun _ _ => rfl)))
      (pss_cons (ps_for PassesOwn.never rfl (kPiL (K := K) rfl (pv 0)) (pg_name (i := 2) sc__law_most.nd rfl (Or.inl rfl)) (pss_one (ps_set (i := 1) sc__law_most.nd rfl (Or.inl rfl) (pe_ifExp (pt_val (C8.pe_c c__law_below hr (by decide) rfl (pa_cons (pv 1) (pa_cons (pv 2) pa_nil)))) (pv 2) (pv 1)))))
      (pss_one (ps_ret (pv 1))))), spQ_body h fun x p us hl r hx => ?_⟩
  obtain ⟨n, xs⟩ := x
  obtain ⟨h1, h2, h3⟩ := hx
  cases xs with
  | nil => exact absurd rfl h3
  | cons x0 xs =>
  refine es_seq (N1 := fun nm' => ∃ e, nm' = [some (.val (.sc (.ref p))), some (.val (fr (most x0 ((x0 :: xs).take 0)))), e]) (es_asg (d := fr x0) (ev_op (x := .sc (.ref p)) (ev_var rfl) (ev_c (v := .int ((0 : Nat) : Int))) (rv_ixL (d := fr x0) hl (by simp [Ct.pure]) r rfl)) ⟨none, rfl⟩) ?_
  rintro nm' ⟨e, rfl⟩
  refine es_seq (N1 := fun nm' => ∃ e, nm' = [some (.val (.sc (.ref p))), some (.val (fr (mostL (x0 :: xs)))), e])
    (es_for (ei_lst (ds := (x0 :: xs).map fr) (ev_var rfl) hl (by simp [Ct.pure]) r) (fun i nm' => ∃ e, nm' = [some (.val (.sc (.ref p))), some (.val (fr (most x0 ((x0 :: xs).take i)))), e]) ⟨e, rfl⟩ (fun _ _ _ => trivial) (fun i d nm' hd hP => ?_) fun nm' hP => ?_) ?_
  · obtain ⟨e, rfl⟩ := hP
    obtain ⟨q, hq, rfl⟩ := fr_at hd
    have z1 : Sz 4000 (most x0 ((x0 :: xs).take i)) := (most_sz (n := n) (h1 x0 List.mem_cons_self) fun y hy => h1 y (List.mem_of_mem_take hy)).mono h2
    have z2 : Sz 4000 q := (h1 q (List.mem_of_getElem? hq)).mono h2
    refine ⟨_, _, eg_name, es_asg (d := fr (mx (most x0 ((x0 :: xs).take i)) q)) (ev_if (et_val (ev_P (most x0 ((x0 :: xs).take i), q) (ea_cons (ev_var rfl) (ea_cons (ev_var rfl) ea_nil)) ⟨z1, z2⟩)) (fun h => ?_) fun h => ?_) ⟨some (.val (fr q)), ?_⟩⟩
    · have e : mx (most x0 ((x0 :: xs).take i)) q = q := if_pos (of_decide_eq_true h)
      rw [e]
      exact ev_var rfl
    · have e : mx (most x0 ((x0 :: xs).take i)) q = most x0 ((x0 :: xs).take i) := if_neg (of_decide_eq_false h)
      rw [e]
      exact ev_var rfl
    · rw [most_take hq]
      rfl
  · obtain ⟨e, rfl⟩ := hP
    refine ⟨e, ?_⟩
    rw [List.length_map, List.take_length, most_again]
    rfl
  · rintro nm' ⟨e, rfl⟩
    exact es_ret (ev_var rfl)
/-! what is a fraction, a chance -/
abbrev spIsFrac (K : PySem.W.Frag) : Sp := spP K (fun q : Rat => [fr q]) (fun _ => True) (fun _ => .b true)
theorem cal_is_fraction (d : Df K mg "is_fraction" s_is_fraction ["thing"]) (c_is_pair : C8.Cal P w K mg base 1 "is_pair" (spPair K) []) (c_is_integer : C8.Cal P w K mg base 1 "is_integer" (spIsInt K) []) (c_divisor : C8.Cal P w K mg base 1 "divisor" (spDivisor K) []) : C8.Cal P w K mg base 2 "is_fraction" (spIsFrac K) [] := by
  refine d.cal sc_is_fraction (fun vs H Q E h => spP_len (fun _ => rfl) h) fun f cdv A outer s H vs Q E hr h => ?_
  refine ⟨_, (pss_cons (ps_if (PW.pt (pw_or (pt_not (pt_val (C8.pe_c c_is_pair hr (by decide) rfl (pa_cons (pv 0) pa_nil)))) (pw_or (pt_not (pt_val (C8.pe_c c_is_integer hr (by decide) rfl (pa_cons (pe_ix (kIxT (K := K) rfl) (pv 0) pe_int (fun _ _ => rfl)) pa_nil)))) (pw_or1 (pt_not (pt_val (C8.pe_c c_is_integer hr (by decide) rfl (pa_cons (pe_ix (kIxT (K := K) rfl) (pv 0) pe_int (fun _ _ => rfl)) pa_nil)))))))) (pss_one (ps_ret pe_bl)) pss_nil)
      (pss_one (ps_ret (pe_and (pe_cmpR op_gt (pe_ix (kIxT (K := K) rfl) (pv 0) pe_int (fun _ _ => rfl)) pe_int (nomark _)) (pe_one (pe_cmpR op_eq (C8.pe_c c_divisor hr (by decide) rfl (pa_cons (pe_ix (kIxT (K := K) rfl) (pv 0) pe_int (fun _ _ => rfl)) (pa_cons (pe_ix (kIxT (K := K) rfl) (pv 0) pe_int (fun _ _ => rfl)) pa_nil))) pe_int (nomark _))))))), spP_body h fun q _ => ?_⟩
  refine es_seq (N1 := fun nm' => nm' = [some (.val (fr q))]) (es_if (b := false) (et_or (a := false) (et_not (a := true) (et_val (ev_P [.i q.num, .i (q.den : Int)] (ea_cons (ev_var rfl) ea_nil) trivial)))
    (fun _ => et_or (a := false) (et_not (a := true) (et_val (ev_P q.num (ea_cons (ev_num (ev_var rfl)) ea_nil) trivial))) (fun _ => et_not (a := true) (et_val (ev_P (q.den : Int) (ea_cons (ev_den (ev_var rfl)) ea_nil) trivial))) rfl) rfl) (fun z => nomatch z) fun _ => es_next rfl) ?_
  rintro nm' rfl
  refine es_ret (ev_and (a := true) (ev_b (ev_den (ev_var rfl)) ev_c (decide_eq_true (by have := q.den_pos; omega))) (fun _ => ev_eqI (ev_P (q.num, (q.den : Int)) (ea_cons (ev_num (ev_var rfl)) (ea_cons (ev_den (ev_var rfl)) ea_nil)) trivial) ev_c (decide_eq_true ?_)) rfl)
  show ((Int.gcd q.num (q.den : Int) : Nat) : Int) = 1
  have e : Int.gcd q.num (q.den : Int) = 1 := by
    rw [Int.gcd, Int.natAbs_natCast]
    exact q.reduced
  rw [e] <;> rfl
theorem num_nn {q : Rat} (h : 0 ≤ q) : 0 ≤ q.num := Rat.num_nonneg.mpr h
theorem num_le {q : Rat} (h : q ≤ 1) : q.num ≤ (q.den : Int) := by
  have z := (Rat.le_iff q 1).mp h
  have e1 : (1 : Rat).num = 1 := rfl
  have e2 : (1 : Rat).den = 1 := rfl
  rw [e1, e2] at z
  omega
abbrev spIsChance (K : PySem.W.Frag) : Sp := spP K (fun q : Rat => [fr q]) (fun q => 0 ≤ q ∧ q ≤ 1) (fun _ => .b true)
theorem cal_is_chance (d : Df K mg "is_chance" s_is_chance ["thing"]) (c_is_fraction : C8.Cal P w K mg base 2 "is_fraction" (spIsFrac K) []) : C8.Cal P w K mg base 3 "is_chance" (spIsChance K) [] := by
  refine d.cal sc_is_chance (fun vs H Q E h => spP_len (fun _ => rfl) h) fun f cdv A outer s H vs Q E hr h => ?_
  refine ⟨_, (pss_one (ps_ret (pe_and (C8.pe_c c_is_fraction hr (by decide) rfl (pa_cons (pv 0) pa_nil)) (pe_one (pe_chain op_le op_le pe_int (pe_ix (kIxT (K := K) rfl) (pv 0) pe_int (fun _ _ => rfl)) (pe_ix (kIxT (K := K) rfl) (pv 0) pe_int (fun _ _ => rfl))))))), spP_body h fun q hq => ?_⟩
  refine es_ret (ev_and (a := true) (ev_P q (ea_cons (ev_var rfl) ea_nil) trivial) (fun _ => ev_chain ev_c (ev_num (ev_var rfl)) (ev_den (ev_var rfl))) ?_)
  rw [decide_eq_true (num_nn hq.1), decide_eq_true (num_le hq.2)] <;> rfl
end
end Q3
namespace Q3
open PySem PySem.Spec PyProof.Rows L2
/-! what enumerate, zip walk, as data -/
section
variable {C : Ct} {nm : Nm} {ta : TA} {ds es fs : List D}
theorem a1 {K : PySem.W.Frag} {H : Hp} {d : D} {vs : List V} (h : RepL K H [d] vs) : ∃ v, vs = [v] ∧ Rep K H d v := by
  obtain ⟨v, r, e, p, q⟩ := h
  have q : r = [] := q
  rw [q] at e
  exact ⟨v, e, p⟩
theorem a2 {K : PySem.W.Frag} {H : Hp} {d e : D} {vs : List V} (h : RepL K H [d, e] vs) : ∃ v u, vs = [v, u] ∧ Rep K H d v ∧ Rep K H e u := by
  obtain ⟨v, r, e, p, q⟩ := h
  obtain ⟨u, rfl, q2⟩ := a1 q
  exact ⟨v, u, e, p, q2⟩
theorem a3 {K : PySem.W.Frag} {H : Hp} {d e f : D} {vs : List V} (h : RepL K H [d, e, f] vs) : ∃ v u w, vs = [v, u, w] ∧ Rep K H d v ∧ Rep K H e u ∧ Rep K H f w := by
  obtain ⟨v, r, e, p, q⟩ := h
  obtain ⟨u, w, rfl, q2⟩ := a2 q
  exact ⟨v, u, w, e, p, q2⟩
def enD (ds : List D) : List D := ds.mapIdx fun i d => .tup [.i (i : Int), d]
theorem enD_len : (enD ds).length = ds.length := List.length_mapIdx
theorem enD_at {i : Nat} {d : D} (h : (enD ds)[i]? = some d) : ∃ e, ds[i]? = some e ∧ d = .tup [.i (i : Int), e] := by
  unfold enD at h
  rw [List.getElem?_mapIdx] at h
  cases q : ds[i]? with
  | none => rw [q] at h; cases h
  | some e =>
    rw [q] at h
    exact ⟨e, rfl, (Option.some.inj h).symm⟩
theorem ei_enum (h : Ea C nm ta (fun xs => xs = [.tup ds])) : Ei C nm (iEnumT C.K ta) (enD ds) (fun _ => True) := fun σ H R S q => h σ H _ S fun vs xs H1 e l ii p => by
  subst e
  obtain ⟨v, rfl, a, us, rfl, hs, r⟩ := a1 p
  refine ⟨a, us, rfl, hs, q _ H1 (fun H' => SqT C.K H' a us ∧ RepL C.K H' ds us) l ii ⟨fun i H' hi g => ?_, fun H' g => ⟨us, g.1, by rw [g.2.len, enD_len]⟩, fun i H' x H2 hi g y => ?_⟩ fun _ _ _ _ _ f => ⟨f.t hs, r.to f⟩⟩
  · rw [enD_len] at hi
    exact ⟨us, us[i]'(by rw [g.2.len]; exact hi), g.1, List.getElem?_eq_getElem _⟩
  · obtain ⟨T, x, rfl, nT, rfl, hx⟩ := y
    obtain ⟨d, h1, h2⟩ := g.2.getV (hx us g.1)
    have ex : Ex H' (upd H' T (.tup [.int (i : Nat), x])) := Ex.new nT
    refine ⟨ex, .tup [.i (i : Int), d], ?_, .tup (.inl (.inl upd_same)) (.cons rfl (.cons (h2.to ex.fx) .nil))⟩
    unfold enD
    rw [List.getElem?_mapIdx, h1] <;> rfl
def z3D : List D → List D → List D → List D
  | a :: as, b :: bs, c :: cs => .tup [a, b, c] :: z3D as bs cs
  | _, _, _ => []
theorem z3D_len : ∀ {as bs cs : List D}, (z3D as bs cs).length = min (min as.length bs.length) cs.length
  | a :: as, b :: bs, c :: cs => by
    show (z3D as bs cs).length + 1 = _
    rw [z3D_len, List.length_cons, List.length_cons, List.length_cons]
    omega
  | [], _, _ => by simp [z3D]
  | _ :: _, [], _ => by simp [z3D]
  | _ :: _, _ :: _, [] => by simp [z3D]
theorem z3D_get : ∀ {as bs cs : List D} {i : Nat} {a b c : D}, as[i]? = some a → bs[i]? = some b → cs[i]? = some c → (z3D as bs cs)[i]? = some (.tup [a, b, c])
  | a :: as, b :: bs, c :: cs, 0, a', b', c', h1, h2, h3 => by
    have e1 : a = a' := Option.some.inj h1
    have e2 : b = b' := Option.some.inj h2
    have e3 : c = c' := Option.some.inj h3
    rw [← e1, ← e2, ← e3] <;> rfl
  | a :: as, b :: bs, c :: cs, i + 1, a', b', c', h1, h2, h3 => z3D_get (as := as) (bs := bs) (cs := cs) (i := i) h1 h2 h3
  | [], _, _, _, _, _, _, h, _, _ => by simp at h
  | _ :: _, [], _, _, _, _, _, _, h, _ => by simp at h
  | _ :: _, _ :: _, [], _, _, _, _, _, _, h => by simp at h
theorem ei_zip3 (h : Ea C nm ta (fun xs => xs = [.tup ds, .tup es, .tup fs])) : Ei C nm (iZip3 C.K ta) (z3D ds es fs) (fun _ => True) := fun σ H R S q => h σ H _ S fun vs xs H1 e l ii p => by
  subst e
  obtain ⟨v1, v2, v3, rfl, ⟨a, us, rfl, hs1, r1⟩, ⟨b, vs, rfl, hs2, r2⟩, ⟨c, ws, rfl, hs3, r3⟩⟩ := a3 p
  refine ⟨a, b, c, us, vs, ws, rfl, hs1, hs2, hs3, q _ H1 (fun H' => (SqT C.K H' a us ∧ RepL C.K H' ds us) ∧ (SqT C.K H' b vs ∧ RepL C.K H' es vs) ∧ (SqT C.K H' c ws ∧ RepL C.K H' fs ws)) l ii ⟨fun i H' hi g => ?_, fun H' g => ?_, fun i H' x H2 hi g y => ?_⟩ fun _ _ _ _ _ f => ⟨⟨f.t hs1, r1.to f⟩, ⟨f.t hs2, r2.to f⟩, ⟨f.t hs3, r3.to f⟩⟩⟩
  · obtain ⟨⟨g1, g2⟩, ⟨g3, g4⟩, g5, g6⟩ := g
    rw [z3D_len, ← g2.len, ← g4.len, ← g6.len] at hi
    exact ⟨us, vs, ws, us[i]'(by omega), vs[i]'(by omega), ws[i]'(by omega), g1, g3, g5, List.getElem?_eq_getElem _, List.getElem?_eq_getElem _, List.getElem?_eq_getElem _⟩
  · obtain ⟨⟨g1, g2⟩, ⟨g3, g4⟩, g5, g6⟩ := g
    exact ⟨us, vs, ws, g1, g3, g5, by rw [z3D_len, g2.len, g4.len, g6.len]⟩
  · obtain ⟨⟨g1, g2⟩, ⟨g3, g4⟩, g5, g6⟩ := g
    obtain ⟨T, x, y, z, rfl, nT, rfl, hx, hy, hz⟩ := y
    obtain ⟨d1, k1, m1⟩ := g2.getV (hx us g1)
    obtain ⟨d2, k2, m2⟩ := g4.getV (hy vs g3)
    obtain ⟨d3, k3, m3⟩ := g6.getV (hz ws g5)
    have ex : Ex H' (upd H' T (.tup [x, y, z])) := Ex.new nT
    exact ⟨ex, _, z3D_get k1 k2 k3, .tup (.inl (.inl upd_same)) (.cons (m1.to ex.fx) (.cons (m2.to ex.fx) (.cons (m3.to ex.fx) .nil)))⟩
def z2D : List D → List D → List D
  | a :: as, b :: bs => .tup [a, b] :: z2D as bs
  | _, _ => []
theorem z2D_len : ∀ {as bs : List D}, (z2D as bs).length = min as.length bs.length
  | a :: as, b :: bs => by
    show (z2D as bs).length + 1 = _
    rw [z2D_len, List.length_cons, List.length_cons]
    omega
  | [], _ => by simp [z2D]
  | _ :: _, [] => by simp [z2D]
theorem z2D_get : ∀ {as bs : List D} {i : Nat} {a b : D}, as[i]? = some a → bs[i]? = some b → (z2D as bs)[i]? = some (.tup [a, b])
  | a :: as, b :: bs, 0, a', b', h1, h2 => by
    have e1 : a = a' := Option.some.inj h1
    have e2 : b = b' := Option.some.inj h2
    rw [← e1, ← e2] <;> rfl
  | a :: as, b :: bs, i + 1, a', b', h1, h2 => z2D_get (as := as) (bs := bs) (i := i) h1 h2
  | [], _, _, _, _, h, _ => by simp at h
  | _ :: _, [], _, _, _, _, h => by simp at h
theorem z2D_at : ∀ {as bs : List D} {i : Nat} {d : D}, (z2D as bs)[i]? = some d → ∃ a b, as[i]? = some a ∧ bs[i]? = some b ∧ d = .tup [a, b]
  | a :: as, b :: bs, 0, d, h => ⟨a, b, rfl, rfl, (Option.some.inj h).symm⟩
  | a :: as, b :: bs, i + 1, d, h => z2D_at (as := as) (bs := bs) (i := i) h
  | [], _, _, _, h => by simp [z2D] at h
  | _ :: _, [], _, _, h => by simp [z2D] at h
theorem z3D_at : ∀ {as bs cs : List D} {i : Nat} {d : D}, (z3D as bs cs)[i]? = some d → ∃ a b c, as[i]? = some a ∧ bs[i]? = some b ∧ cs[i]? = some c ∧ d = .tup [a, b, c]
  | a :: as, b :: bs, c :: cs, 0, d, h => ⟨a, b, c, rfl, rfl, rfl, (Option.some.inj h).symm⟩
  | a :: as, b :: bs, c :: cs, i + 1, d, h => z3D_at (as := as) (bs := bs) (cs := cs) (i := i) h
  | [], _, _, _, _, h => by simp [z3D] at h
  | _ :: _, [], _, _, _, h => by simp [z3D] at h
  | _ :: _, _ :: _, [], _, _, h => by simp [z3D] at h
/-- zip of two tuples -/
theorem ei_zip2 (h : Ea C nm ta (fun xs => xs = [.tup ds, .tup es])) : Ei C nm (RZ.iZipA C.K ta) (z2D ds es) (fun _ => True) := fun σ H R S q => h σ H _ S fun vs xs H1 e l ii p => by
  subst e
  obtain ⟨v1, v2, rfl, ⟨a, us, rfl, hs1, r1⟩, ⟨b, vs, rfl, hs2, r2⟩⟩ := a2 p
  refine ⟨a, b, us, vs, rfl, .inr ⟨hs1, hs2, q _ H1 (fun H' => (SqT C.K H' a us ∧ RepL C.K H' ds us) ∧ (SqT C.K H' b vs ∧ RepL C.K H' es vs)) l ii ⟨fun i H' hi g => ?_, fun H' g => ?_, fun i H' x H2 hi g y => ?_⟩ fun _ _ _ _ _ f => ⟨⟨f.t hs1, r1.to f⟩, ⟨f.t hs2, r2.to f⟩⟩⟩⟩
  · obtain ⟨⟨g1, g2⟩, ⟨g3, g4⟩⟩ := g
    rw [z2D_len, ← g2.len, ← g4.len] at hi
    exact ⟨us, vs, us[i]'(by omega), vs[i]'(by omega), g1, g3, List.getElem?_eq_getElem _, List.getElem?_eq_getElem _⟩
  · obtain ⟨⟨g1, g2⟩, ⟨g3, g4⟩⟩ := g
    refine ⟨us, vs, g1, g3, ?_⟩
    rw [z2D_len, g2.len, g4.len]
    omega
  · obtain ⟨⟨g1, g2⟩, ⟨g3, g4⟩⟩ := g
    obtain ⟨T, x, y, rfl, nT, rfl, hx, hy⟩ := y
    obtain ⟨d1, k1, m1⟩ := g2.getV (hx us g1)
    obtain ⟨d2, k2, m2⟩ := g4.getV (hy vs g3)
    have ex : Ex H' (upd H' T (.tup [x, y])) := Ex.new nT
    exact ⟨ex, _, z2D_get k1 k2, .tup (.inl (.inl upd_same)) (.cons (m1.to ex.fx) (.cons (m2.to ex.fx) .nil))⟩
end
section
variable {P : Program} {w : World} {K : PySem.W.Frag} {mg : Str → Option Value} {base : Heap} {aN aO aH : Addr}
/-! what a deed gets -/
structure DeedIn where
  prior : List Rat
  weights : List Rat
  deed : List Rat
  n : Nat
abbrev encDeed (x : DeedIn) : List D := [frs x.prior, frs x.weights, frs x.deed]
structure DeedOk (x : DeedIn) : Prop where
  l1 : x.prior.length = x.n
  l2 : x.weights.length = x.n
  l3 : x.deed.length = x.n
  hn : x.n ≤ 4
  s1 : ∀ q ∈ x.prior, Sz 6 q
  s2 : ∀ q ∈ x.weights, Sz 14 q
  s3 : ∀ q ∈ x.deed, Sz 4 q
abbrev spDeed (K : PySem.W.Frag) : Sp := spP K encDeed DeedOk (fun x => fr (deed x.prior x.weights x.deed))
theorem z3D_fr : ∀ (ps ws gs : List Rat), (z3D (ps.map fr) (ws.map fr) (gs.map fr)).mapIdx (fun i _ => ((deedL ps ws gs).map fr).getD i (.sc .non)) = (deedL ps ws gs).map fr := by
  intro ps ws gs
  refine List.ext_getElem? fun i => ?_
  have hl : (z3D (ps.map fr) (ws.map fr) (gs.map fr)).length = (deedL ps ws gs).length := by
    rw [z3D_len, List.length_map, List.length_map, List.length_map]
    induction ps generalizing ws gs with
    | nil => simp [deedL]
    | cons p ps ih =>
      cases ws with
      | nil => simp [deedL]
      | cons w ws =>
        cases gs with
        | nil => simp [deedL]
        | cons g gs =>
          show _ = (deedL ps ws gs).length + 1
          rw [← ih ws gs, List.length_cons, List.length_cons, List.length_cons]
          omega
  rw [List.getElem?_mapIdx]
  by_cases hi : i < (deedL ps ws gs).length
  · rw [List.getElem?_eq_getElem (by rw [hl]; exact hi)]
    show some (((deedL ps ws gs).map fr).getD i (.sc .non)) = _
    rw [List.getD_eq_getElem?_getD, List.getElem?_map, List.getElem?_eq_getElem hi] <;> rfl
  · rw [List.getElem?_eq_none (by rw [hl]; omega), List.getElem?_eq_none (by rw [List.length_map]; omega)]
    rfl
theorem deed_body {C : Ct} {x : DeedIn} (hx : DeedOk x) {E : XK} {a b c : Option Ent} :
    Ev C [some (.val (frs x.prior)), some (.val (frs x.weights)), some (.val (frs x.deed)), a, b, c] (tCall (spTotal C.K) [] E (tCons (tLc (iZip3 C.K (tCons (tVar 0) (tCons (tVar 1) (tCons (tVar 2) tNil)))) (gTup C.K 3 (gCons (gName 3) (gCons (gName 4) (gCons (gName 5) gNil)))) tYes
      (tCall (spTimes C.K) [] C8.E0 (tCons (tCall (spTimes C.K) [] C8.E0 (tCons (tVar 3) (tCons (tVar 4) tNil))) (tCons (tVar 5) tNil))) [3, 4, 5]) tNil)) (Is (fr (deed x.prior x.weights x.deed))) := by
  have hz := deedL_sz (a := 6) (b := 14) (c := 4) hx.s1 hx.s2 hx.s3
  have hl := deedL_len hx.l1 hx.l2 hx.l3
  have hn := hx.hn
  rw [← deed_tot]
  refine ev_Q (enc := fun x : NL => x.2.map fr) (pre := NLok) (24, deedL x.prior x.weights x.deed) ?_ ⟨fun q hq => hz q hq, ?_⟩
  · rw [← z3D_fr]
    refine el_map (fun i _ => ((deedL x.prior x.weights x.deed).map fr).getD i (.sc .non)) (ei_zip3 (ea_cons (ev_var rfl) (ea_cons (ev_var rfl) (ea_cons (ev_var rfl) ea_nil)))) trivial ?_ fun i d hd => ?_
    · rw [z3D_len, List.length_map, List.length_map, List.length_map]
      have := hx.l1
      omega
    · obtain ⟨d1, d2, d3, h1, h2, h3, rfl⟩ := z3D_at hd
      obtain ⟨p, hp, rfl⟩ := fr_at h1
      obtain ⟨wt, hw, rfl⟩ := fr_at h2
      obtain ⟨g, hg, rfl⟩ := fr_at h3
      have e : ((deedL x.prior x.weights x.deed).map fr).getD i (.sc .non) = fr (p * wt * g) := by
        rw [List.getD_eq_getElem?_getD, List.getElem?_map, deedL_get hp hw hg] <;> rfl
      rw [e]
      have s1 := hx.s1 p (List.mem_of_getElem? hp)
      have s2 := hx.s2 wt (List.mem_of_getElem? hw)
      have s3 := hx.s3 g (List.mem_of_getElem? hg)
      exact ⟨_, _, eg_three, by simp, ev_P (p * wt, g) (ea_cons (ev_P (p, wt) (ea_cons (ev_var rfl) (ea_cons (ev_var rfl) ea_nil)) ⟨s1.mono (by decide), s2.mono (by decide)⟩) (ea_cons (ev_var rfl) ea_nil)) ⟨(s1.mul s2).mono (by decide), s3.mono (by decide)⟩⟩
  · show 1 + (deedL x.prior x.weights x.deed).length * 25 ≤ 4000
    omega
theorem cal_deed_gets (T : Txt K mg aN aO aH) (d : Df K mg "deed_gets" s_deed_gets ["prior", "weights", "deed"]) (c_total : C8.Cal P w K mg base 4 "total" (spTotal K) []) (c_times : C8.Cal P w K mg base 3 "times" (spTimes K) []) : C8.Cal P w K mg base 5 "deed_gets" (spDeed K) [] := by
  refine d.cal sc_deed_gets (fun vs H Q E h => spP_len (fun _ => rfl) h) fun f cdv A outer s H vs Q E hr h => ?_
  refine ⟨_, (pss_one (ps_ret (C8.pe_c c_total hr (by decide) rfl (pa_cons (pe_lc rfl sc_deed_gets.nd (own := [("chance", 3), ("weight", 4), ("gain", 5)]) (g := (gTup K 3 (gCons (gName 3) (gCons (gName 4) (gCons (gName 5) gNil))))) (tt := tYes) (kZip3 (K := K) rfl (by rfl) T.zipZ (pa_cons (pv 0) (pa_cons (pv 1) (pa_cons (pv 2) pa_nil)))) (blkOk_by (by kernel_rfl)) (fun _ _ _ _ _ => (kTg (K := K) rfl rfl (pgs_cons (pg_name (i := 3) sc_deed_gets.nd rfl (Or.inl rfl)) (pgs_cons (pg_name (i := 4) sc_deed_gets.nd rfl (Or.inl rfl)) (pgs_cons (pg_name (i := 5) sc_deed_gets.nd rfl (Or.inl rfl)) pgs_nil))))) (fun _ _ _ _ _ => pts_nil) (fun _ _ _ _ _ => (C8.pe_c c_times hr (by decide) rfl (pa_cons (C8.pe_c c_times hr (by decide) rfl (pa_cons (pv 3) (pa_cons (pv 4) pa_nil))) (pa_cons (pv 5) pa_nil))))) pa_nil)))), spP_body h fun x hx => ?_⟩
  exact es_ret (deed_body hx)
theorem cal_law_deed (T : Txt K mg aN aO aH) (d : Df K mg "_law_deed" s__law_deed ["_law_prior", "_law_weights", "_law_deed_here"]) (c__law_total : C8.Cal P w K mg base 4 "_law_total" (spTotal K) []) (c__law_times : C8.Cal P w K mg base 3 "_law_times" (spTimes K) []) : C8.Cal P w K mg base 5 "_law_deed" (spDeed K) [] := by
  refine d.cal sc__law_deed (fun vs H Q E h => spP_len (fun _ => rfl) h) fun f cdv A outer s H vs Q E hr h => ?_
  refine ⟨_, (pss_one (ps_ret (C8.pe_c c__law_total hr (by decide) rfl (pa_cons (pe_lc rfl sc__law_deed.nd (own := [("_law_one", 3), ("_law_two", 4), ("_law_three", 5)]) (g := (gTup K 3 (gCons (gName 3) (gCons (gName 4) (gCons (gName 5) gNil))))) (tt := tYes) (kZip3 (K := K) rfl (by rfl) T.zipZ (pa_cons (pv 0) (pa_cons (pv 1) (pa_cons (pv 2) pa_nil)))) (blkOk_by (by kernel_rfl)) (fun _ _ _ _ _ => (kTg (K := K) rfl rfl (pgs_cons (pg_name (i := 3) sc__law_deed.nd rfl (Or.inl rfl)) (pgs_cons (pg_name (i := 4) sc__law_deed.nd rfl (Or.inl rfl)) (pgs_cons (pg_name (i := 5) sc__law_deed.nd rfl (Or.inl rfl)) pgs_nil))))) (fun _ _ _ _ _ => pts_nil) (fun _ _ _ _ _ => (C8.pe_c c__law_times hr (by decide) rfl (pa_cons (C8.pe_c c__law_times hr (by decide) rfl (pa_cons (pv 3) (pa_cons (pv 4) pa_nil))) (pa_cons (pv 5) pa_nil))))) pa_nil)))), spP_body h fun x hx => ?_⟩
  exact es_ret (deed_body hx)
end
end Q3
namespace Q3
open PySem PySem.Spec PyProof.Rows L2
section
variable {C : Ct} {nm : Nm} {te ta tb : TE} {wi : TI} {g : TG} {vs : List Nat} {ds : List D} {Kp : Nm → Prop}
theorem mapIdx_const {α β : Type} (c : β) : ∀ xs : List α, xs.mapIdx (fun _ _ => c) = List.replicate xs.length c := by
  intro xs
  refine List.ext_getElem? fun i => ?_
  rw [List.getElem?_mapIdx, List.getElem?_replicate]
  by_cases hi : i < xs.length
  · rw [List.getElem?_eq_getElem hi, if_pos hi] <;> rfl
  · rw [List.getElem?_eq_none (by omega), if_neg hi] <;> rfl
theorem all_rep (n : Nat) : (List.replicate n true).all id = true := by
  rw [List.all_eq_true]
  intro x hx
  exact (List.eq_of_mem_replicate hx)
/-- all([.. for ..]), each of them True -/
theorem ev_allT (hi : Ei C nm wi ds Kp) (hk : Kp nm) (hz : ds.length ≤ 1000) (hs : ∀ (i : Nat) d, ds[i]? = some d → ∃ nm' js, Eg C (wipeN nm vs) g d nm' js ∧ (∀ j ∈ js, j ∈ vs) ∧ Ev C nm' te (Is (.b true))) :
    Ev C nm (tCB (rAll C.K) (tCons (tLc wi g tYes te vs) tNil)) (Is (.b true)) := by
  have h := ev_all (C := C) (nm := nm) (bs := List.replicate ds.length true) (te := tLc wi g tYes te vs) (by
    have z := el_map (C := C) (nm := nm) (te := te) (vs := vs) (fun _ _ => D.b true) hi hk hz hs
    rw [mapIdx_const] at z
    rw [List.map_replicate]
    exact z)
  rw [all_rep] at h
  exact h
theorem rep_flat {α : Type} (n : Nat) (v : α) : (List.replicate n [v]).flatten = List.replicate n v := by
  induction n with
  | zero => rfl
  | succ n ih => rw [List.replicate_succ, List.flatten_cons, ih, List.replicate_succ] <;> rfl
/-- (d,) * n -/
theorem ev_rep {d : D} {n : Nat} (ha : Ev C nm ta (Is (.tup [d]))) (hb : Ev C nm tb (Is (.i (n : Int)))) (h1 : 1 ≤ n) (h2 : n ≤ 1000) : Ev C nm (tOp (rRepA C.K) ta tb) (Is (.tup (List.replicate n d))) := ev_op ha hb fun H vx vy Q l I p1 p2 q => by
  obtain ⟨a, vs, rfl, hs, hr⟩ := p1
  obtain ⟨v, rfl, pv⟩ := a1 hr
  have p2 : vy = .int (n : Int) := p2
  have rr : ∀ {H'} (k : Nat), Fx H H' → RepL C.K H' (List.replicate k d) (List.replicate k v) := fun {H'} k f => by
    induction k with
    | zero => exact .nil
    | succ k ih => exact .cons (pv.to f) ih
  refine ⟨a, (n : Int), [v], rfl, p2, hs, by simp, by omega, by omega, by simp, fun e => ?_, fun _ p hp => ?_⟩
  · have e : n = 1 := by omega
    subst e
    exact q _ _ H rfl (Le.refl _ _) I (.tup hs hr)
  · have x : Ex H (upd H p (.tup (List.replicate ((n : Int)).toNat [v]).flatten)) := Ex.new hp
    refine q _ _ _ rfl x.le (C.exI I x) (.tup (.inl (.inl upd_same)) ?_)
    have e : (List.replicate ((n : Int)).toNat [v]).flatten = List.replicate n v := by
      rw [Int.toNat_natCast]
      exact rep_flat n v
    have y : Fx H (upd H p (.tup (List.replicate ((n : Int)).toNat [v]).flatten)) := x.fx
    rw [e] at y ⊢
    exact rr n y
theorem ones_frs (n : Nat) : D.tup (List.replicate n (fr 1)) = frs (ones n) := by
  unfold frs ones
  rw [List.map_replicate]
end
section
variable {P : Program} {w : World} {K : PySem.W.Frag} {mg : Str → Option Value} {base : Heap} {aN aO aH : Addr}
/-! priors, gains -/
structure PriorOk (n : Nat) (qs : List Rat) : Prop where
  len : qs.length = n
  n5 : n ≤ 4
  n1 : 1 ≤ n
  nn : ∀ q ∈ qs, 0 ≤ q ∧ q ≤ 1
  sz : ∀ q ∈ qs, Sz 6 q
  one : tot qs = 1
theorem PriorOk.nl {n : Nat} {qs : List Rat} (h : PriorOk n qs) : NLok (6, qs) := ⟨h.sz, by
  show 1 + qs.length * 7 ≤ 4000
  have := h.len
  have := h.n5
  omega⟩
abbrev spPrior (K : PySem.W.Frag) : Sp := spP K (fun x : Nat × List Rat => [.i x.1, frs x.2]) (fun x => PriorOk x.1 x.2) (fun _ => .b true)
theorem cal_is_prior (T : Txt K mg aN aO aH) (d : Df K mg "is_prior" s_is_prior ["worlds", "thing"]) (c_is_sized : C8.Cal P w K mg base 1 "is_sized" (spSized K) []) (c_is_chance : C8.Cal P w K mg base 3 "is_chance" (spIsChance K) []) (c_totalT : C8.Cal P w K mg base 4 "total" (spTotalT K) []) : C8.Cal P w K mg base 5 "is_prior" (spPrior K) [] := by
  refine d.cal sc_is_prior (fun vs H Q E h => spP_len (fun _ => rfl) h) fun f cdv A outer s H vs Q E hr h => ?_
  refine ⟨_, (pss_one (ps_ret (pe_and (C8.pe_c c_is_sized hr (by decide) rfl (pa_cons (pv 1) (pa_cons (pv 0) (pa_cons (pv 0) pa_nil)))) (pe_and (pe_callB (kAll (K := K) rfl rfl) (by rfl) T.allZ (by decide +kernel) (pa_cons (pe_lc rfl sc_is_prior.nd (own := [("one", 2)]) (g := (gName 2)) (tt := tYes) (kPiT (K := K) rfl (pv 1)) (blkOk_by (by kernel_rfl)) (fun _ _ _ _ _ => (pg_name (i := 2) sc_is_prior.nd rfl (Or.inl rfl))) (fun _ _ _ _ _ => pts_nil) (fun _ _ _ _ _ => (C8.pe_c c_is_chance hr (by decide) rfl (pa_cons (pv 2) pa_nil)))) pa_nil)) (pe_one (pe_cmpR (kEqD (K := K) rfl (hu64 hr)) (C8.pe_c c_totalT hr (by decide) rfl (pa_cons (pv 1) pa_nil)) (pe_glob (v := .ref aO) rfl T.ONE rfl) (nomark _))))))), spP_body h fun x hx => ?_⟩
  obtain ⟨n, qs⟩ := x
  have hl : qs.length = n := hx.len
  have hn : n ≤ 4 := hx.n5
  refine es_ret (ev_and (a := true) (b := true) ?_ (fun _ => ev_and (a := true) (b := true) (ev_allT (ds := qs.map fr) (ei_tup (ev_var rfl)) trivial (by rw [List.length_map]; omega) fun i d hd => ?_) (fun _ => ?_) rfl) rfl)
  · have z := ev_P (C := Ct.pure K H) (nm := nm0 3 [.i (n : Int), frs qs]) (enc := fun x : List D × Int × Int => [.tup x.1, .i x.2.1, .i x.2.2]) (pre := fun _ => True) (out := fun x => .b (decide (x.2.1 ≤ (x.1.length : Int)) && decide ((x.1.length : Int) ≤ x.2.2))) (E := C8.E0) (qs.map fr, (n : Int), (n : Int)) (ea_cons (ev_var (i := 1) rfl) (ea_cons (ev_var (i := 0) rfl) (ea_cons (ev_var (i := 0) rfl) ea_nil))) trivial
    have e : (decide (((n : Int)) ≤ ((qs.map fr).length : Int)) && decide (((qs.map fr).length : Int) ≤ (n : Int))) = true := by
      rw [List.length_map, hl]
      simp
    dsimp only at z
    rw [e] at z
    exact z
  · obtain ⟨q, hq, rfl⟩ := fr_at hd
    exact ⟨_, _, eg_name, by simp, ev_P q (ea_cons (ev_var rfl) ea_nil) (hx.nn q (List.mem_of_getElem? hq))⟩
  · have e1 : fr (tot qs) = fr 1 := by rw [hx.one]
    have z := ev_P (C := Ct.pure K H) (nm := nm0 3 [.i (n : Int), frs qs]) (enc := fun x : NL => [frs x.2]) (pre := NLok) (out := fun x => fr (tot x.2)) (E := C8.E0) (6, qs) (ea_cons (ev_var (i := 1) rfl) ea_nil) hx.nl
    dsimp only at z
    rw [e1] at z
    exact ev_eqD z (ev_cK (rep_one T H)) rfl (by decide)
structure GainsOk (n : Nat) (gs : List (List Rat)) : Prop where
  ne : gs ≠ []
  few : gs.length ≤ 5
  len : ∀ g ∈ gs, g.length = n
  sz : ∀ g ∈ gs, ∀ q ∈ g, Sz 4 q
abbrev gD (gs : List (List Rat)) : D := .tup (gs.map frs)
abbrev spAreGains (K : PySem.W.Frag) : Sp := spP K (fun x : Nat × List (List Rat) => [.i x.1, gD x.2]) (fun x => GainsOk x.1 x.2 ∧ x.1 ≤ 5) (fun _ => .b true)
theorem gD_at {gs : List (List Rat)} {i : Nat} {d : D} (h : (gs.map frs)[i]? = some d) : ∃ g, gs[i]? = some g ∧ d = frs g := by
  rw [List.getElem?_map] at h
  cases e : gs[i]? with
  | none => rw [e] at h; cases h
  | some q =>
    rw [e] at h
    exact ⟨q, rfl, (Option.some.inj h).symm⟩
theorem ev_sizedT {C : Ct} {nm : Nm} {t : TA} {ds : List D} {i j : Int} (h : Ea C nm t (fun es => es = [.tup ds, .i i, .i j])) (h1 : i ≤ (ds.length : Int)) (h2 : (ds.length : Int) ≤ j) : Ev C nm (tCall (spSized C.K) [] C8.E0 t) (Is (.b true)) := by
  have z := ev_P (enc := fun x : List D × Int × Int => [.tup x.1, .i x.2.1, .i x.2.2]) (pre := fun _ => True) (out := fun x => .b (decide (x.2.1 ≤ (x.1.length : Int)) && decide ((x.1.length : Int) ≤ x.2.2))) (E := C8.E0) (ds, i, j) h trivial
  dsimp only at z
  rw [decide_eq_true h1, decide_eq_true h2] at z
  exact z
theorem cal_are_gains (T : Txt K mg aN aO aH) (d : Df K mg "are_gains" s_are_gains ["worlds", "thing"]) (c_is_sized : C8.Cal P w K mg base 1 "is_sized" (spSized K) []) (c_is_fraction : C8.Cal P w K mg base 2 "is_fraction" (spIsFrac K) []) : C8.Cal P w K mg base 3 "are_gains" (spAreGains K) [] := by
  refine d.cal sc_are_gains (fun vs H Q E h => spP_len (fun _ => rfl) h) fun f cdv A outer s H vs Q E hr h => ?_
  refine ⟨_, (pss_cons (ps_if (PW.pt (pw_or (pt_not (pt_val (pe_callB (kIsi (K := K) rfl) (by rfl) T.isinstanceZ (by decide +kernel) (pa_cons (pv 1) (pa_cons (pe_bltn (v := .ty "tuple") (u := .type "tuple") (by rfl) T.tupleZ (by decide +kernel) rfl) pa_nil))))) (pw_or1 (pt_cmpR op_eq (pe_callB (kLen (K := K) rfl) (by rfl) T.lenZ PySem.boot_len (pa_cons (pv 1) pa_nil)) pe_int (nomark _))))) (pss_one (ps_ret pe_bl)) pss_nil)
      (pss_one (ps_ret (pe_callB (kAll (K := K) rfl rfl) (by rfl) T.allZ (by decide +kernel) (pa_cons (pe_lc rfl sc_are_gains.nd (own := [("deed", 3)]) (g := (gName 3)) (tt := tYes) (kPiT (K := K) rfl (pv 1)) (blkOk_by (by kernel_rfl)) (fun _ _ _ _ _ => (pg_name (i := 3) sc_are_gains.nd rfl (Or.inl rfl))) (fun _ _ _ _ _ => pts_nil) (fun _ _ _ _ _ => (pe_and (C8.pe_c c_is_sized hr (by decide) rfl (pa_cons (pv 3) (pa_cons (pv 0) (pa_cons (pv 0) pa_nil)))) (pe_one (pe_callB (kAll (K := K) rfl rfl) (by rfl) T.allZ (by decide +kernel) (pa_cons (pe_lc rfl sc_are_gains.nd (own := [("one", 2)]) (g := (gName 2)) (tt := tYes) (kPiT (K := K) rfl (pv 3)) (blkOk_by (by kernel_rfl)) (fun _ _ _ _ _ => (pg_name (i := 2) sc_are_gains.nd rfl (Or.inl rfl))) (fun _ _ _ _ _ => pts_nil) (fun _ _ _ _ _ => (C8.pe_c c_is_fraction hr (by decide) rfl (pa_cons (pv 2) pa_nil)))) pa_nil)))))) pa_nil))))), spP_body h fun x hx => ?_⟩
  obtain ⟨n, gs⟩ := x
  obtain ⟨hx, hn⟩ := hx
  have hn : n ≤ 5 := hn
  have hne : (((gs.map frs).length : Nat) : Int) ≠ 0 := by
    rw [List.length_map]
    have : gs.length ≠ 0 := fun z => hx.ne (List.eq_nil_of_length_eq_zero z)
    omega
  refine es_seq (N1 := fun nm' => nm' = nm0 4 [.i (n : Int), gD gs]) (es_if (b := false) (et_or (a := false) (et_not (a := true) (et_val (ev_isi (t := "tuple") (ev_var rfl) ev_c tyx_tup (by decide +kernel)))) (fun _ => et_test (ev_eqI (ev_len (ds := gs.map frs) (ev_var rfl)) ev_c (decide_eq_false hne))) rfl) (fun z => nomatch z) fun _ => es_next rfl) ?_
  rintro nm' rfl
  refine es_ret (ev_allT (ds := gs.map frs) (ei_tup (ev_var rfl)) trivial (by rw [List.length_map]; have h5 : gs.length ≤ 5 := hx.few; omega) fun i d hd => ?_)
  obtain ⟨g, hg, rfl⟩ := gD_at hd
  have hgm := List.mem_of_getElem? hg
  have hgl : g.length = n := hx.len g hgm
  refine ⟨_, _, eg_name, by simp, ev_and (a := true) (b := true) (ev_sizedT (ds := g.map fr) (ea_cons (ev_var rfl) (ea_cons (ev_var rfl) (ea_cons (ev_var rfl) ea_nil))) (by rw [List.length_map]; omega) (by rw [List.length_map]; omega)) (fun _ => ?_) rfl⟩
  refine ev_allT (ds := g.map fr) (ei_tup (ev_var rfl)) trivial (by rw [List.length_map]; omega) fun i d hd => ?_
  obtain ⟨q, hq, rfl⟩ := fr_at hd
  exact ⟨_, _, eg_name, by simp, ev_P q (ea_cons (ev_var rfl) ea_nil) trivial⟩
abbrev spChkPrior (K : PySem.W.Frag) : Sp := spP K (fun x : Nat × List Rat => [.i x.1, frs x.2]) (fun x => PriorOk x.1 x.2) (fun _ => .sc .non)
theorem cal_check_prior (d : Df K mg "check_prior" s_check_prior ["worlds", "thing"]) (c_is_prior : C8.Cal P w K mg base 5 "is_prior" (spPrior K) []) : C8.Cal P w K mg base 6 "check_prior" (spChkPrior K) [] := by
  refine d.cal sc_check_prior (fun vs H Q E h => spP_len (fun _ => rfl) h) fun f cdv A outer s H vs Q E hr h => ?_
  refine ⟨_, (pss_one (ps_if (pt_not (pt_val (C8.pe_c c_is_prior hr (by decide) rfl (pa_cons (pv 0) (pa_cons (pv 1) pa_nil))))) (pss_one ps_never) pss_nil)), spP_body h fun x hx => ?_⟩
  exact es_if (b := false) (et_not (a := true) (et_val (ev_P x (ea_cons (ev_var rfl) (ea_cons (ev_var rfl) ea_nil)) hx))) (fun z => nomatch z) fun _ => es_next rfl
abbrev spChkGains (K : PySem.W.Frag) : Sp := spP K (fun x : Nat × List (List Rat) => [.i x.1, gD x.2]) (fun x => GainsOk x.1 x.2 ∧ x.1 ≤ 5) (fun _ => .sc .non)
theorem cal_check_gains (d : Df K mg "check_gains" s_check_gains ["worlds", "thing"]) (c_are_gains : C8.Cal P w K mg base 3 "are_gains" (spAreGains K) []) : C8.Cal P w K mg base 4 "check_gains" (spChkGains K) [] := by
  refine d.cal sc_check_gains (fun vs H Q E h => spP_len (fun _ => rfl) h) fun f cdv A outer s H vs Q E hr h => ?_
  refine ⟨_, (pss_one (ps_if (pt_not (pt_val (C8.pe_c c_are_gains hr (by decide) rfl (pa_cons (pv 0) (pa_cons (pv 1) pa_nil))))) (pss_one ps_never) pss_nil)), spP_body h fun x hx => ?_⟩
  exact es_if (b := false) (et_not (a := true) (et_val (ev_P x (ea_cons (ev_var rfl) (ea_cons (ev_var rfl) ea_nil)) hx))) (fun z => nomatch z) fun _ => es_next rfl
end
end Q3
namespace Q3
open PySem PySem.Spec PyProof.Rows L2
/-! the first greatest -/
def am (m : Rat) (b k : Nat) : List Rat → Rat × Nat
  | [] => (m, b)
  | x :: xs => if m < x then am x k (k + 1) xs else am m b (k + 1) xs
theorem am_snoc (x : Rat) : ∀ (xs : List Rat) (m : Rat) (b k : Nat), am m b k (xs ++ [x]) = if (am m b k xs).1 < x then (x, k + xs.length) else am m b k xs
  | [], m, b, k => rfl
  | y :: ys, m, b, k => by
    have e : k + (y :: ys).length = k + 1 + ys.length := by rw [List.length_cons]; omega
    rw [e]
    show (if m < y then am y k (k + 1) (ys ++ [x]) else am m b (k + 1) (ys ++ [x])) = _
    by_cases h : m < y
    · rw [if_pos h, am_snoc x ys y k (k + 1)]
      show _ = if (if m < y then am y k (k + 1) ys else am m b (k + 1) ys).1 < x then _ else (if m < y then am y k (k + 1) ys else am m b (k + 1) ys)
      rw [if_pos h]
    · rw [if_neg h, am_snoc x ys m b (k + 1)]
      show _ = if (if m < y then am y k (k + 1) ys else am m b (k + 1) ys).1 < x then _ else (if m < y then am y k (k + 1) ys else am m b (k + 1) ys)
      rw [if_neg h]
theorem am_val : ∀ (xs : List Rat) (m : Rat) (b k : Nat), (am m b k xs).1 = most m xs
  | [], m, b, k => rfl
  | y :: ys, m, b, k => by
    show (if m < y then am y k (k + 1) ys else am m b (k + 1) ys).1 = most (if m < y then y else m) ys
    by_cases h : m < y
    · rw [if_pos h, if_pos h, am_val]
    · rw [if_neg h, if_neg h, am_val]
theorem am_ix : ∀ (xs pre : List Rat) (m : Rat) (b : Nat), (pre ++ xs)[b]? = some m → (pre ++ xs)[(am m b pre.length xs).2]? = some (am m b pre.length xs).1
  | [], pre, m, b, h => h
  | y :: ys, pre, m, b, h => by
    have e1 : pre ++ y :: ys = (pre ++ [y]) ++ ys := by rw [List.append_assoc] <;> rfl
    have e2 : (pre ++ [y]).length = pre.length + 1 := by rw [List.length_append] <;> rfl
    show (pre ++ y :: ys)[(if m < y then am y pre.length (pre.length + 1) ys else am m b (pre.length + 1) ys).2]? = some (if m < y then am y pre.length (pre.length + 1) ys else am m b (pre.length + 1) ys).1
    rw [e1] at h ⊢
    rw [← e2]
    by_cases hc : m < y
    · rw [if_pos hc]
      exact am_ix ys (pre ++ [y]) y pre.length (by rw [List.append_assoc, List.getElem?_append_right (Nat.le_refl _), Nat.sub_self] <;> rfl)
    · rw [if_neg hc]
      exact am_ix ys (pre ++ [y]) m b h
/-- the first greatest of a list that isn't empty -/
def amL : List Rat → Rat × Nat
  | [] => (0, 0)
  | x :: xs => am x 0 0 (x :: xs)
def amT (xs : List Rat) (i : Nat) : Rat × Nat := match xs with
  | [] => (0, 0)
  | x :: _ => am x 0 0 (xs.take i)
theorem amT_zero {x : Rat} {xs : List Rat} : amT (x :: xs) 0 = (x, 0) := rfl
theorem amT_all {xs : List Rat} : amT xs xs.length = amL xs := by
  cases xs with
  | nil => rfl
  | cons x xs => show am x 0 0 (List.take (x :: xs).length (x :: xs)) = _; rw [List.take_length] <;> rfl
theorem amT_step {xs : List Rat} {i : Nat} {x : Rat} (h : xs[i]? = some x) : amT xs (i + 1) = if (amT xs i).1 < x then (x, i) else amT xs i := by
  cases xs with
  | nil => simp at h
  | cons y ys =>
    show am y 0 0 (List.take (i + 1) (y :: ys)) = if (am y 0 0 (List.take i (y :: ys))).1 < x then (x, i) else am y 0 0 (List.take i (y :: ys))
    have hi := (List.getElem?_eq_some_iff.mp h).1
    rw [List.take_add_one, h]
    show am y 0 0 (List.take i (y :: ys) ++ [x]) = _
    rw [am_snoc, List.length_take, Nat.min_eq_left (by omega), Nat.zero_add]
theorem amT_at {xs : List Rat} (hne : xs ≠ []) (i : Nat) : xs[(amT xs i).2]? = some (amT xs i).1 := by
  cases xs with
  | nil => exact absurd rfl hne
  | cons y ys =>
    have z := am_ix (List.take i (y :: ys)) [] y 0
    rw [List.nil_append] at z
    show (y :: ys)[(am y 0 0 (List.take i (y :: ys))).2]? = some (am y 0 0 (List.take i (y :: ys))).1
    cases i with
    | zero => rfl
    | succ i =>
      have w := z rfl
      have w' : (List.take (i + 1) (y :: ys))[(am y 0 0 (List.take (i + 1) (y :: ys))).2]? = some (am y 0 0 (List.take (i + 1) (y :: ys))).1 := w
      have hl := (List.getElem?_eq_some_iff.mp w').1
      rw [List.getElem?_take_of_lt (by rw [List.length_take] at hl; omega)] at w'
      exact w'
theorem amL_at {xs : List Rat} (hne : xs ≠ []) : xs[(amL xs).2]? = some (amL xs).1 := by
  rw [← amT_all]
  exact amT_at hne _
theorem amL_val {xs : List Rat} : (amL xs).1 = mostL xs := by
  cases xs with
  | nil => rfl
  | cons x xs =>
    show (am x 0 0 (x :: xs)).1 = most x xs
    rw [am_val, most_again]
theorem amT_mem {xs : List Rat} (hne : xs ≠ []) (i : Nat) : (amT xs i).1 ∈ xs := List.mem_of_getElem? (amT_at hne i)
def stopD (i : Nat) : D := .tup [.s "stop", .i (i : Int)]
section
variable {P : Program} {w : World} {K : PySem.W.Frag} {mg : Str → Option Value} {base : Heap} {aN aO aH : Addr}
/-! the best deed -/
structure WIn where
  prior : List Rat
  gains : List (List Rat)
  weights : List Rat
  n : Nat
structure WOk (x : WIn) : Prop where
  l1 : x.prior.length = x.n
  s1 : ∀ q ∈ x.prior, Sz 6 q
  g : GainsOk x.n x.gains
  l2 : x.weights.length = x.n
  s2 : ∀ q ∈ x.weights, Sz 14 q
  hn : x.n ≤ 4
theorem WOk.deed {x : WIn} (h : WOk x) {g : List Rat} (hg : g ∈ x.gains) : DeedOk ⟨x.prior, x.weights, g, x.n⟩ := ⟨h.l1, h.l2, h.g.len g hg, h.hn, h.s1, h.s2, h.g.sz g hg⟩
theorem DeedOk.size {x : DeedIn} (h : DeedOk x) : Sz 101 (Q3.deed x.prior x.weights x.deed) := (deed_sz h.l1 h.l2 h.l3 h.s1 h.s2 h.s3).mono (by
  have h1 := h.hn
  have h2 : x.n * (6 + 14 + 4 + 1) ≤ 4 * (6 + 14 + 4 + 1) := Nat.mul_le_mul_right _ h1
  omega)
def WIn.vals (x : WIn) : List Rat := x.gains.map (Q3.deed x.prior x.weights)
theorem WOk.vals {x : WIn} (h : WOk x) : ∀ q ∈ x.vals, Sz 101 q := fun q hq => by
  obtain ⟨g, hg, rfl⟩ := List.mem_map.mp hq
  exact (h.deed hg).size
theorem WOk.ne {x : WIn} (h : WOk x) : x.vals ≠ [] := fun z => h.g.ne (List.map_eq_nil_iff.mp z)
def bestOut (xs : List Rat) : D := .tup [fr (amL xs).1, stopD (amL xs).2]
abbrev spBestDeed (K : PySem.W.Frag) : Sp := spP K (fun x : WIn => [frs x.prior, gD x.gains, frs x.weights]) WOk (fun x => bestOut x.vals)
theorem ev_deed {C : Ct} {nm : Nm} {E : XK} {t : TA} (x : DeedIn) (h : Ea C nm t (fun es => es = encDeed x)) (hx : DeedOk x) : Ev C nm (tCall (spDeed C.K) [] E t) (Is (fr (Q3.deed x.prior x.weights x.deed))) := ev_P x h hx
theorem ev_below {C : Ct} {nm : Nm} {E : XK} {t : TA} (a b : Rat) (h : Ea C nm t (fun es => es = [fr a, fr b])) (h1 : Sz 4000 a) (h2 : Sz 4000 b) : Ev C nm (tCall (spBelow C.K) [] E t) (Is (.b (decide (a < b)))) := ev_P (a, b) h ⟨h1, h2⟩
theorem cal_best_deed (T : Txt K mg aN aO aH) (d : Df K mg "best_deed" s_best_deed ["prior", "gains", "weights"]) (c_deed_gets : C8.Cal P w K mg base 5 "deed_gets" (spDeed K) []) (c_is_below : C8.Cal P w K mg base 1 "is_below" (spBelow K) []) : C8.Cal P w K mg base 6 "best_deed" (spBestDeed K) [] := by
  refine d.cal sc_best_deed (fun vs H Q E h => spP_len (fun _ => rfl) h) fun f cdv A outer s H vs Q E hr h => ?_
  refine ⟨_, (pss_cons (ps_par (i := 3) (j := 4) (by rfl) sc_best_deed.nd rfl rfl (by decide) rfl rfl (pa_cons (C8.pe_c c_deed_gets hr (by decide) rfl (pa_cons (pv 0) (pa_cons (pv 2) (pa_cons (pe_ix (kIxT (K := K) rfl) (pv 1) pe_int (fun _ _ => rfl)) pa_nil)))) (pa_cons pe_int pa_nil)) (by rfl))
      (pss_cons (ps_for PassesOwn.never rfl (kEnum (K := K) rfl (by rfl) T.enumerateZ (pa_cons (pv 1) pa_nil)) (kTg (K := K) rfl rfl (pgs_cons (pg_name (i := 5) sc_best_deed.nd rfl (Or.inl rfl)) (pgs_cons (pg_name (i := 6) sc_best_deed.nd rfl (Or.inl rfl)) pgs_nil))) (pss_cons (ps_set (i := 7) sc_best_deed.nd rfl (Or.inl rfl) (C8.pe_c c_deed_gets hr (by decide) rfl (pa_cons (pv 0) (pa_cons (pv 2) (pa_cons (pv 6) pa_nil)))))
      (pss_one (ps_if (pt_val (C8.pe_c c_is_below hr (by decide) rfl (pa_cons (pv 3) (pa_cons (pv 7) pa_nil)))) (pss_one (ps_par (i := 3) (j := 4) (by rfl) sc_best_deed.nd rfl rfl (by decide) rfl rfl (pa_cons (pv 7) (pa_cons (pv 5) pa_nil)) (by rfl))) pss_nil))))
      (pss_one (ps_ret (pe_tup (pa_cons (pv 3) (pa_cons (pe_tup (pa_cons pe_str (pa_cons (pv 4) pa_nil))) pa_nil))))))), spP_body h fun x hx => ?_⟩
  have hgne : x.gains ≠ [] := hx.g.ne
  obtain ⟨g0, gr, hg0⟩ : ∃ g0 gr, x.gains = g0 :: gr := by
    cases e : x.gains with
    | nil => exact absurd e hgne
    | cons a b => exact ⟨a, b, rfl⟩
  have e0 : (amT x.vals 0) = (Q3.deed x.prior x.weights g0, 0) := by
    unfold WIn.vals
    rw [hg0] <;> rfl
  have at0 : (x.gains.map frs)[0]? = some (frs g0) := by rw [hg0] <;> rfl
  refine es_seq (N1 := fun nm' => ∃ a b c, nm' = [some (.val (frs x.prior)), some (.val (gD x.gains)), some (.val (frs x.weights)), some (.val (fr (amT x.vals 0).1)), some (.val (.i ((amT x.vals 0).2 : Int))), a, b, c])
    (es_par (ea_cons (ev_deed ⟨x.prior, x.weights, g0, x.n⟩ (ea_cons (ev_var rfl) (ea_cons (ev_var rfl) (ea_cons (ev_ixc 0 (ev_var rfl) at0) ea_nil))) (hx.deed (by rw [hg0]; exact List.mem_cons_self))) (ea_cons ev_c ea_nil)) ⟨none, none, none, by rw [e0]; rfl⟩) ?_
  rintro nm' ⟨a, b, c, rfl⟩
  refine es_seq (N1 := fun nm' => ∃ a b c, nm' = [some (.val (frs x.prior)), some (.val (gD x.gains)), some (.val (frs x.weights)), some (.val (fr (amL x.vals).1)), some (.val (.i ((amL x.vals).2 : Int))), a, b, c])
    (es_for (ei_enum (ds := x.gains.map frs) (ea_cons (ev_var rfl) ea_nil)) (fun i nm' => ∃ a b c, nm' = [some (.val (frs x.prior)), some (.val (gD x.gains)), some (.val (frs x.weights)), some (.val (fr (amT x.vals i).1)), some (.val (.i ((amT x.vals i).2 : Int))), a, b, c])
      ⟨a, b, c, rfl⟩ (fun _ _ _ => trivial) (fun i d nm' hd hP => ?_) fun nm' hP => ?_) ?_
  · obtain ⟨a, b, c, rfl⟩ := hP
    obtain ⟨d', hd', rfl⟩ := enD_at hd
    obtain ⟨g, hg, rfl⟩ := gD_at hd'
    have hgm := List.mem_of_getElem? hg
    have hv : x.vals[i]? = some (Q3.deed x.prior x.weights g) := by
      unfold WIn.vals
      rw [List.getElem?_map, hg] <;> rfl
    refine ⟨_, _, eg_two, ?_⟩
    refine es_seq (N1 := fun nm' => nm' = [some (.val (frs x.prior)), some (.val (gD x.gains)), some (.val (frs x.weights)), some (.val (fr (amT x.vals i).1)), some (.val (.i ((amT x.vals i).2 : Int))), some (.val (.i (i : Int))), some (.val (frs g)), some (.val (fr (Q3.deed x.prior x.weights g)))])
      (es_asg (ev_deed ⟨x.prior, x.weights, g, x.n⟩ (ea_cons (ev_var rfl) (ea_cons (ev_var rfl) (ea_cons (ev_var rfl) ea_nil))) (hx.deed hgm)) rfl) ?_
    rintro nm' rfl
    have s1 : Sz 4000 (amT x.vals i).1 := (hx.vals _ (amT_mem hx.ne i)).mono (by decide)
    have s2 : Sz 4000 (Q3.deed x.prior x.weights g) := (hx.deed hgm).size.mono (by decide)
    refine es_if (et_val (ev_below (amT x.vals i).1 (Q3.deed x.prior x.weights g) (ea_cons (ev_var rfl) (ea_cons (ev_var rfl) ea_nil)) s1 s2)) (fun hb => ?_) fun hb => ?_
    · refine es_par (ea_cons (ev_var rfl) (ea_cons (ev_var rfl) ea_nil)) ⟨some (.val (.i (i : Int))), some (.val (frs g)), some (.val (fr (Q3.deed x.prior x.weights g))), ?_⟩
      rw [amT_step hv, if_pos (of_decide_eq_true hb)]
      rfl
    · refine es_next ⟨some (.val (.i (i : Int))), some (.val (frs g)), some (.val (fr (Q3.deed x.prior x.weights g))), ?_⟩
      rw [amT_step hv, if_neg (of_decide_eq_false hb)]
  · obtain ⟨a, b, c, rfl⟩ := hP
    refine ⟨a, b, c, ?_⟩
    have e : (enD (x.gains.map frs)).length = x.vals.length := by
      rw [enD_len, List.length_map]
      unfold WIn.vals
      rw [List.length_map]
    rw [e, amT_all]
  · rintro nm' ⟨a, b, c, rfl⟩
    exact es_ret (ev_tup (ea_cons (ev_var rfl) (ea_cons (ev_tup (ds := [.s "stop", .i ((amL x.vals).2 : Int)]) (ea_cons ev_c (ea_cons (ev_var rfl) ea_nil)) (by simp)) ea_nil)) (by simp))
/-! guessing -/
structure GuOk (ws : List Rat) : Prop where
  ne : ws ≠ []
  few : ws.length ≤ 5
  sz : ∀ q ∈ ws, Sz 14 q
abbrev spGuess (K : PySem.W.Frag) : Sp := spP K (fun x : List Rat => [frs x]) GuOk bestOut
theorem cal_guessing (T : Txt K mg aN aO aH) (d : Df K mg "guessing" s_guessing ["weights"]) (c_is_below : C8.Cal P w K mg base 1 "is_below" (spBelow K) []) : C8.Cal P w K mg base 2 "guessing" (spGuess K) [] := by
  refine d.cal sc_guessing (fun vs H Q E h => spP_len (fun _ => rfl) h) fun f cdv A outer s H vs Q E hr h => ?_
  refine ⟨_, (pss_cons (ps_set (i := 1) sc_guessing.nd rfl (Or.inl rfl) pe_int)
      (pss_cons (ps_for PassesOwn.never rfl (kEnum (K := K) rfl (by rfl) T.enumerateZ (pa_cons (pv 0) pa_nil)) (kTg (K := K) rfl rfl (pgs_cons (pg_name (i := 2) sc_guessing.nd rfl (Or.inl rfl)) (pgs_cons (pg_name (i := 3) sc_guessing.nd rfl (Or.inl rfl)) pgs_nil))) (pss_one (ps_if (pt_val (C8.pe_c c_is_below hr (by decide) rfl (pa_cons (pe_ix (kIxT (K := K) rfl) (pv 0) (pv 1) (fun _ _ => rfl)) (pa_cons (pv 3) pa_nil)))) (pss_one (ps_set (i := 1) sc_guessing.nd rfl (Or.inl rfl) (pv 2))) pss_nil)))
      (pss_one (ps_ret (pe_tup (pa_cons (pe_ix (kIxT (K := K) rfl) (pv 0) (pv 1) (fun _ _ => rfl)) (pa_cons (pe_tup (pa_cons pe_str (pa_cons (pv 1) pa_nil))) pa_nil))))))), spP_body h fun x hx => ?_⟩
  have fr_ix : ∀ i, (x.map fr)[(amT x i).2]? = some (fr (amT x i).1) := fun i => by
    rw [List.getElem?_map, amT_at hx.ne i] <;> rfl
  have e0 : (amT x 0).2 = 0 := by
    cases x with
    | nil => rfl
    | cons a b => rfl
  refine es_seq (N1 := fun nm' => ∃ a b, nm' = [some (.val (frs x)), some (.val (.i ((amT x 0).2 : Int))), a, b]) (es_asg ev_c ⟨none, none, by rw [e0]; rfl⟩) ?_
  rintro nm' ⟨a, b, rfl⟩
  refine es_seq (N1 := fun nm' => ∃ a b, nm' = [some (.val (frs x)), some (.val (.i ((amT x x.length).2 : Int))), a, b])
    (es_for (ei_enum (ds := x.map fr) (ea_cons (ev_var rfl) ea_nil)) (fun i nm' => ∃ a b, nm' = [some (.val (frs x)), some (.val (.i ((amT x i).2 : Int))), a, b]) ⟨a, b, rfl⟩ (fun _ _ _ => trivial) (fun i d nm' hd hP => ?_) fun nm' hP => ?_) ?_
  · obtain ⟨a, b, rfl⟩ := hP
    obtain ⟨d', hd', rfl⟩ := enD_at hd
    obtain ⟨q, hq, rfl⟩ := fr_at hd'
    have s1 : Sz 4000 (amT x i).1 := (hx.sz _ (amT_mem hx.ne i)).mono (by decide)
    have s2 : Sz 4000 q := (hx.sz q (List.mem_of_getElem? hq)).mono (by decide)
    refine ⟨_, _, eg_two, es_if (et_val (ev_below (amT x i).1 q (ea_cons (ev_ix (amT x i).2 (ev_var rfl) (ev_var rfl) (fr_ix i)) (ea_cons (ev_var rfl) ea_nil)) s1 s2)) (fun hb => ?_) fun hb => ?_⟩
    · refine es_asg (ev_var rfl) ⟨some (.val (.i (i : Int))), some (.val (fr q)), ?_⟩
      rw [amT_step hq, if_pos (of_decide_eq_true hb)]
      rfl
    · refine es_next ⟨some (.val (.i (i : Int))), some (.val (fr q)), ?_⟩
      rw [amT_step hq, if_neg (of_decide_eq_false hb)]
      rfl
  · obtain ⟨a, b, rfl⟩ := hP
    exact ⟨a, b, by rw [enD_len, List.length_map]⟩
  · rintro nm' ⟨a, b, rfl⟩
    have e : bestOut x = .tup [fr (amT x x.length).1, .tup [.s "stop", .i ((amT x x.length).2 : Int)]] := by
      unfold bestOut stopD
      rw [amT_all]
    rw [e]
    exact es_ret (ev_tup (ea_cons (ev_ix (amT x x.length).2 (ev_var rfl) (ev_var rfl) (fr_ix _)) (ea_cons (ev_tup (ds := [.s "stop", .i ((amT x x.length).2 : Int)]) (ea_cons ev_c (ea_cons (ev_var rfl) ea_nil)) (by simp)) ea_nil)) (by simp))
/-! the worth unasked -/
structure UIn where
  prior : List Rat
  gains : List (List Rat)
  n : Nat
structure UOk (x : UIn) : Prop where
  p : PriorOk x.n x.prior
  g : GainsOk x.n x.gains
def UIn.wi (x : UIn) : WIn := ⟨x.prior, x.gains, ones x.n, x.n⟩
theorem ones_sz (n : Nat) : ∀ q ∈ ones n, Sz 14 q := fun q hq => by
  rw [List.eq_of_mem_replicate hq]
  exact Sz.one.mono (by decide)
theorem UOk.wi {x : UIn} (h : UOk x) : WOk x.wi := ⟨h.p.len, h.p.sz, h.g, List.length_replicate .., ones_sz _, h.p.n5⟩
abbrev spUnasked (K : PySem.W.Frag) : Sp := spP K (fun x : UIn => [frs x.prior, gD x.gains]) UOk (fun x => fr (mostL x.wi.vals))
theorem ev_one {C : Ct} {nm : Nm} (h : Rep C.K C.H0 (fr 1) (.ref aO)) : Ev C nm (tC (.ref aO)) (Is (fr 1)) := ev_cK h
theorem ev_ones {C : Ct} {nm : Nm} {tb : TE} {n : Nat} (h : Rep C.K C.H0 (fr 1) (.ref aO)) (hb : Ev C nm tb (Is (.i (n : Int)))) (h1 : 1 ≤ n) (h2 : n ≤ 1000) : Ev C nm (tOp (rRepA C.K) (tTup (tCons (tC (.ref aO)) tNil)) tb) (Is (frs (ones n))) := by
  rw [← ones_frs]
  exact ev_rep (ev_tup (ea_cons (ev_cK h) ea_nil) (by simp)) hb h1 h2
theorem cal_worth_unasked (T : Txt K mg aN aO aH) (d : Df K mg "worth_unasked" s_worth_unasked ["prior", "gains"]) (c_is_sized : C8.Cal P w K mg base 1 "is_sized" (spSized K) []) (c_check_prior : C8.Cal P w K mg base 6 "check_prior" (spChkPrior K) []) (c_check_gains : C8.Cal P w K mg base 4 "check_gains" (spChkGains K) [])
    (c_deed_gets : C8.Cal P w K mg base 5 "deed_gets" (spDeed K) []) (c_greater : C8.Cal P w K mg base 2 "greater" (spGreater K) []) : C8.Cal P w K mg base 7 "worth_unasked" (spUnasked K) [] := by
  refine d.cal sc_worth_unasked (fun vs H Q E h => spP_len (fun _ => rfl) h) fun f cdv A outer s H vs Q E hr h => ?_
  refine ⟨_, (pss_cons (ps_if (pt_not (pt_val (C8.pe_c c_is_sized hr (by decide) rfl (pa_cons (pv 0) (pa_cons pe_int (pa_cons (C8.pe_gc rfl T.MOST_WORLDS_worths) pa_nil)))))) (pss_one ps_never) pss_nil)
      (pss_cons (ps_expr (C8.pe_c c_check_prior hr (by decide) rfl (pa_cons (pe_callB (kLen (K := K) rfl) (by rfl) T.lenZ PySem.boot_len (pa_cons (pv 0) pa_nil)) (pa_cons (pv 0) pa_nil))))
      (pss_cons (ps_expr (C8.pe_c c_check_gains hr (by decide) rfl (pa_cons (pe_callB (kLen (K := K) rfl) (by rfl) T.lenZ PySem.boot_len (pa_cons (pv 0) pa_nil)) (pa_cons (pv 1) pa_nil))))
      (pss_cons (ps_set (i := 2) sc_worth_unasked.nd rfl (Or.inl rfl) (C8.pe_c c_deed_gets hr (by decide) rfl (pa_cons (pv 0) (pa_cons (pe_op (kRep (K := K) rfl) (pe_tup (pa_cons (pe_glob (v := .ref aO) rfl T.ONE rfl) pa_nil)) (pe_callB (kLen (K := K) rfl) (by rfl) T.lenZ PySem.boot_len (pa_cons (pv 0) pa_nil))) (pa_cons (pe_ix (kIxT (K := K) rfl) (pv 1) pe_int (fun _ _ => rfl)) pa_nil)))))
      (pss_cons (ps_for PassesOwn.never rfl (kPiT (K := K) rfl (pv 1)) (pg_name (i := 3) sc_worth_unasked.nd rfl (Or.inl rfl)) (pss_one (ps_set (i := 2) sc_worth_unasked.nd rfl (Or.inl rfl) (C8.pe_c c_greater hr (by decide) rfl (pa_cons (pv 2) (pa_cons (C8.pe_c c_deed_gets hr (by decide) rfl (pa_cons (pv 0) (pa_cons (pe_op (kRep (K := K) rfl) (pe_tup (pa_cons (pe_glob (v := .ref aO) rfl T.ONE rfl) pa_nil)) (pe_callB (kLen (K := K) rfl) (by rfl) T.lenZ PySem.boot_len (pa_cons (pv 0) pa_nil))) (pa_cons (pv 3) pa_nil)))) pa_nil))))))
      (pss_one (ps_ret (pv 2)))))))), spP_body h fun x hx => ?_⟩
  have hl : (x.prior.map fr).length = x.n := by rw [List.length_map]; exact hx.p.len
  have h1 := hx.p.n1
  have h5 := hx.p.n5
  have lenP : ∀ {nm : Nm} (i : Nat), nm[i]? = some (some (.val (frs x.prior))) → Ev (Ct.pure K H) nm (tCB (rLenS K) (tCons (tVar i) tNil)) (Is (.i (x.n : Int))) := fun {nm} i hi => by
    have z := ev_len (C := Ct.pure K H) (nm := nm) (te := tVar i) (ds := x.prior.map fr) (ev_var hi)
    rw [hl] at z
    exact z
  have on := fun {nm : Nm} (i : Nat) (hi : nm[i]? = some (some (.val (frs x.prior)))) => ev_ones (C := Ct.pure K H) (rep_one T H) (lenP i hi) h1 (by omega)
  have hw := hx.wi
  obtain ⟨g0, gr, hg0⟩ : ∃ g0 gr, x.gains = g0 :: gr := by
    cases e : x.gains with
    | nil => exact absurd e hx.g.ne
    | cons a b => exact ⟨a, b, rfl⟩
  have ev0 : x.wi.vals = Q3.deed x.prior (ones x.n) g0 :: gr.map (Q3.deed x.prior (ones x.n)) := by
    show x.gains.map (Q3.deed x.prior (ones x.n)) = _
    rw [hg0] <;> rfl
  have at0 : (x.gains.map frs)[0]? = some (frs g0) := by rw [hg0] <;> rfl
  refine es_seq (N1 := fun nm' => nm' = [some (.val (frs x.prior)), some (.val (gD x.gains)), none, none]) (es_if (b := false) (et_not (a := true) (et_val (ev_sizedT (ds := x.prior.map fr) (ea_cons (ev_var rfl) (ea_cons ev_c (ea_cons ev_c ea_nil))) (by rw [hl]; omega) (by rw [hl]; omega)))) (fun z => nomatch z) fun _ => es_next rfl) ?_
  rintro nm' rfl
  refine es_seq (N1 := fun nm' => nm' = [some (.val (frs x.prior)), some (.val (gD x.gains)), none, none]) (es_drop (ev_P (x.n, x.prior) (ea_cons (lenP 0 rfl) (ea_cons (ev_var rfl) ea_nil)) hx.p) rfl) ?_
  rintro nm' rfl
  refine es_seq (N1 := fun nm' => nm' = [some (.val (frs x.prior)), some (.val (gD x.gains)), none, none]) (es_drop (ev_P (x.n, x.gains) (ea_cons (lenP 0 rfl) (ea_cons (ev_var rfl) ea_nil)) ⟨hx.g, by show x.n ≤ 5; omega⟩) rfl) ?_
  rintro nm' rfl
  refine es_seq (N1 := fun nm' => ∃ a, nm' = [some (.val (frs x.prior)), some (.val (gD x.gains)), some (.val (fr (most (Q3.deed x.prior (ones x.n) g0) (x.wi.vals.take 0)))), a])
    (es_asg (ev_deed ⟨x.prior, ones x.n, g0, x.n⟩ (ea_cons (ev_var rfl) (ea_cons (on 0 rfl) (ea_cons (ev_ixc 0 (ev_var rfl) at0) ea_nil))) (hw.deed (by show g0 ∈ x.gains; rw [hg0]; exact List.mem_cons_self))) ⟨none, rfl⟩) ?_
  rintro nm' ⟨a, rfl⟩
  refine es_seq (N1 := fun nm' => ∃ a, nm' = [some (.val (frs x.prior)), some (.val (gD x.gains)), some (.val (fr (mostL x.wi.vals))), a])
    (es_for (ei_tup (ds := x.gains.map frs) (ev_var rfl)) (fun i nm' => ∃ a, nm' = [some (.val (frs x.prior)), some (.val (gD x.gains)), some (.val (fr (most (Q3.deed x.prior (ones x.n) g0) (x.wi.vals.take i)))), a]) ⟨a, rfl⟩ (fun _ _ _ => trivial) (fun i d nm' hd hP => ?_) fun nm' hP => ?_) ?_
  · obtain ⟨a, rfl⟩ := hP
    obtain ⟨g, hg, rfl⟩ := gD_at hd
    have hgm : g ∈ x.wi.gains := List.mem_of_getElem? hg
    have hv : x.wi.vals[i]? = some (Q3.deed x.prior (ones x.n) g) := by
      show (x.gains.map (Q3.deed x.prior (ones x.n)))[i]? = _
      rw [List.getElem?_map, hg] <;> rfl
    have s0 : Sz 101 (Q3.deed x.prior (ones x.n) g0) := hw.vals _ (by rw [ev0]; exact List.mem_cons_self)
    have s1 : Sz 4000 (most (Q3.deed x.prior (ones x.n) g0) (x.wi.vals.take i)) := (most_sz s0 fun y hy => hw.vals y (List.mem_of_mem_take hy)).mono (by decide)
    have s2 : Sz 4000 (Q3.deed x.prior (ones x.n) g) := (hw.deed hgm).size.mono (by decide)
    refine ⟨_, _, eg_name, es_asg (ev_P (most (Q3.deed x.prior (ones x.n) g0) (x.wi.vals.take i), Q3.deed x.prior (ones x.n) g) (ea_cons (ev_var rfl) (ea_cons (ev_deed ⟨x.prior, ones x.n, g, x.n⟩ (ea_cons (ev_var rfl) (ea_cons (on 0 rfl) (ea_cons (ev_var rfl) ea_nil))) (hw.deed hgm)) ea_nil)) ⟨s1, s2⟩) ⟨some (.val (frs g)), ?_⟩⟩
    rw [most_take hv]
    rfl
  · obtain ⟨a, rfl⟩ := hP
    refine ⟨a, ?_⟩
    have e : (x.gains.map frs).length = x.wi.vals.length := by
      show _ = (x.gains.map (Q3.deed x.prior (ones x.n))).length
      rw [List.length_map, List.length_map]
    rw [e, List.take_length, ev0, most_again] <;> rfl
  · rintro nm' ⟨a, rfl⟩
    exact es_ret (ev_var rfl)
end
end Q3
namespace Q3
open PySem PySem.Spec PyProof.Rows L2
/-! what is handed in and called -/
structure StopOk (P : Program) (w : World) (K : PySem.W.Frag) (mg : Str → Option Value) (base : Heap) (k : Nat) (S : Addr → Hp → Prop) (ok : List Rat → Prop) (st : List Rat → Rat × D) : Prop where
  mono : ∀ f H H', S f H → Fx H H' → S f H'
  at_ : ∀ (X : Cx) (pins : List (Addr × Obj)) (σ : L2.St) (H : Hp) (s : Shared) (f : Addr), X.prog = P → X.w = w → X.K = K → X.mg = mg → X.base = base → Inv X pins σ H s → S f H → PySem.W.FnAt f s.heap
  run : ∀ (X : Cx) (pins : List (Addr × Obj)) (σ : L2.St) (H : Hp) (s : Shared) (f : Addr) (us : List Value) (wv : V) (ws : List Rat) (Q : VK), X.prog = P → X.w = w → X.K = K → X.mg = mg → X.base = base → Room k X.A → Inv X pins σ H s → S f H → Vals [wv] us →
    Rep K H (frs ws) wv → ok ws → (∀ v H', Ex H H' → Rep K H' (.tup [fr (st ws).1, (st ws).2]) v → Q v H') → wpAny (model X.prog X.w) X.A (call (.ref f) us) (EP X pins σ Q) X.xe s
def tSt (K : PySem.W.Frag) (S : Addr → Hp → Prop) (ok : List Rat → Prop) (st : List Rat → Rat × D) (i : Nat) (t : TA) : TE := fun σ H Q => ∃ f, σ[i]? = some (some (.ref f)) ∧ S f H ∧ t σ H fun vs H1 => ∃ ws wv, vs = [wv] ∧ S f H1 ∧ Rep K H1 (frs ws) wv ∧ ok ws ∧
  ∀ v H', Ex H1 H' → Rep K H' (.tup [fr (st ws).1, (st ws).2]) v → Q v H'
theorem pe_st {X : Cx} {P : Program} {w : World} {K : PySem.W.Frag} {mg : Str → Option Value} {base : Heap} {k j i : Nat} {S : Addr → Hp → Prop} {ok : List Rat → Prop} {st : List Rat → Rat × D} {x : Str} {p pos : Pos} {e : Expr} {t : TA} (O : StopOk P w K mg base k S ok st)
    (hP : X.prog = P) (hw : X.w = w) (hK : X.K = K) (hmg : X.mg = mg) (hb : X.base = base) (hr : Room j X.A) (hkj : k ≤ j) (hN : X.N[i]? = some x) (hv : Vis X.env.scope x) (ha : PA X [e] t)
    (hdb : (x == ("__debug__" : Str)) = false := by decide) (hcd : (x == ("__classdict__" : Str)) = false := by decide)
    (he : starEach [e] X.env = (false, eval e X.env) :: starEach [] X.env := by rfl) (hpl : (backTo pos (starEach [] X.env)).any (·.1) = false := by rfl) : PE X (.Call (.Name x p) [e] [] pos) (tSt K S ok st i t) := by
  refine ⟨fun pins s σ H Q I h => ?_⟩
  obtain ⟨f, hs, hf, ht⟩ := h
  refine wpAny_Call_Name_kw (thn ((pe_var (pos := p) hN hv hdb hcd).run pins s σ H (fun v H1 => v = .ref f ∧ H1 = H) I ⟨.ref f, hs, rfl, rfl⟩) fun u s1 ⟨v, H1, I1, r1, q1⟩ => ?_)
  obtain ⟨rfl, rfl⟩ := q1
  obtain rfl : u = Value.ref f := r1
  refine PySem.W.callWith_F (first := []) (O.at_ X pins σ _ s1 f hP hw hK hmg hb I1 hf) (thn (ha.run pos pins s1 σ _ _ I1 ht) fun us s2 ⟨vs, H2, I2, r, ws, wv, ev, h2, rp, okw, q⟩ => ?_) he hpl
  subst ev
  exact ⟨O.at_ X pins σ _ s2 f hP hw hK hmg hb I2 h2, O.run X pins σ H2 s2 f us wv ws Q hP hw hK hmg hb (hr.mono hkj) I2 h2 r rp okw q⟩
theorem ev_st {C : Ct} {nm : Nm} {S : Addr → Hp → Prop} {ok : List Rat → Prop} {st : List Rat → Rat × D} {i : Nat} {te : TE} {f : Addr} {ws : List Rat} (hm : ∀ f H H', S f H → Fx H H' → S f H') (hi : nm[i]? = some (some (.val (.sc (.ref f))))) (hS : S f C.H0) (he : Ev C nm te (Is (frs ws))) (hok : ok ws) :
    Ev C nm (tSt C.K S ok st i (tCons te tNil)) (Is (.tup [fr (st ws).1, (st ws).2])) := fun σ H Q R q => by
  obtain ⟨v, h1, h2⟩ := R.val hi
  have h2 : v = .ref f := h2
  subst h2
  refine ⟨f, h1, hm _ _ _ hS R.le.fx, he σ H _ R fun v d H1 e l ii p => ?_⟩
  rw [e] at p
  exact ⟨ws, v, rfl, hm _ _ _ hS (R.le.fx.trans l.fx), p, hok, fun v H' x r => q v _ H' rfl (l.trans x.le) (C.exI ii x) r⟩
/-! the best at a node -/
def askD (k : Nat) (ds : List D) : D := .tup [.s "ask", .i (k : Int), .tup ds]
def bsf (m : Rat) (d : D) (k : Nat) : List (Rat × List D) → Rat × D
  | [] => (m, d)
  | x :: xs => if m < x.1 then bsf x.1 (askD k x.2) (k + 1) xs else bsf m d (k + 1) xs
theorem bsf_snoc (x : Rat × List D) : ∀ (xs : List (Rat × List D)) (m : Rat) (d : D) (k : Nat), bsf m d k (xs ++ [x]) = if (bsf m d k xs).1 < x.1 then (x.1, askD (k + xs.length) x.2) else bsf m d k xs
  | [], m, d, k => rfl
  | y :: ys, m, d, k => by
    have e : k + (y :: ys).length = k + 1 + ys.length := by rw [List.length_cons]; omega
    rw [e]
    show (if m < y.1 then bsf y.1 (askD k y.2) (k + 1) (ys ++ [x]) else bsf m d (k + 1) (ys ++ [x])) = if (if m < y.1 then bsf y.1 (askD k y.2) (k + 1) ys else bsf m d (k + 1) ys).1 < x.1 then _ else (if m < y.1 then bsf y.1 (askD k y.2) (k + 1) ys else bsf m d (k + 1) ys)
    by_cases h : m < y.1
    · rw [if_pos h, if_pos h, bsf_snoc]
    · rw [if_neg h, if_neg h, bsf_snoc]
theorem bsf_val : ∀ (xs : List (Rat × List D)) (m : Rat) (d : D) (k : Nat), (bsf m d k xs).1 = most m (xs.map (·.1))
  | [], m, d, k => rfl
  | y :: ys, m, d, k => by
    show (if m < y.1 then bsf y.1 (askD k y.2) (k + 1) ys else bsf m d (k + 1) ys).1 = most (if m < y.1 then y.1 else m) (ys.map (·.1))
    by_cases h : m < y.1
    · rw [if_pos h, if_pos h, bsf_val]
    · rw [if_neg h, if_neg h, bsf_val]
section
variable {P : Program} {w : World} {K : PySem.W.Frag} {mg : Str → Option Value} {base : Heap} {aN aO aH : Addr}
variable {Ch : Type} (word sub : Ch → D) (wt : Ch → List Rat) (val : Ch → Rat × D)
abbrev encCh (a : Ch) : D := .tup [word a, frs (wt a), sub a]
abbrev encNode (qL : List (List Ch)) : D := .tup (qL.map fun q => .tup (q.map (encCh word sub wt)))
def ask1 (q : List Ch) : Rat × List D := (tot (q.map fun a => (val a).1), q.map fun a => (val a).2)
structure NodeOk (okC : Ch → Prop) (n : Nat) (qL : List (List Ch)) : Prop where
  few : qL.length ≤ 5
  ok : ∀ q ∈ qL, q.length ≤ 3 ∧ ∀ a ∈ q, okC a ∧ Sz n (val a).1
  hn : n ≤ 1300
def spNode (K : PySem.W.Frag) (S : Addr → Hp → Prop) (ok : List Rat → Prop) (st : List Rat → Rat × D) (okC : Ch → Prop) (n : Nat) : Sp := fun vs H Q _ => ∃ (ws : List Rat) (qL : List (List Ch)) (f : Addr), RepL K H [frs ws, encNode word sub wt qL, .sc (.ref f)] vs ∧ S f H ∧ ok ws ∧ Sz 4000 (st ws).1 ∧ NodeOk val okC n qL ∧
  ∀ v H', Ex H H' → Rep K H' (.tup [fr (bsf (st ws).1 (st ws).2 0 (qL.map (ask1 val))).1, (bsf (st ws).1 (st ws).2 0 (qL.map (ask1 val))).2]) v → Q v H'
theorem cal_best_at {k j : Nat} {S : Addr → Hp → Prop} {ok : List Rat → Prop} {st : List Rat → Rat × D} {okC : Ch → Prop} {n : Nat} {prev : Sp} (T : Txt K mg aN aO aH) (d : Df K mg "best_at" s_best_at ["weights", "node", "stopping"]) (O : StopOk P w K mg base k S ok st) (hkj : k ≤ j) (h4 : 4 ≤ j)
    (c_best_at : C8.Cal P w K mg base j "best_at" prev [])
    (hprev : ∀ (C : Ct) (a : Ch) (f : Addr), C.K = K → S f C.H0 → okC a → Rc C (fun vs H Q => prev (vs ++ []) H Q C8.E0) [frs (wt a), sub a, .sc (.ref f)] (Is (.tup [fr (val a).1, (val a).2])))
    (c_total : C8.Cal P w K mg base 4 "total" (spTotal K) []) (c_is_below : C8.Cal P w K mg base 1 "is_below" (spBelow K) []) : C8.Cal P w K mg base (j + 1) "best_at" (spNode word sub wt val K S ok st okC n) [] := by
  refine d.cal sc_best_at (fun vs H Q E h => by obtain ⟨_, _, _, r, _⟩ := h; rw [r.len]; rfl) fun f cdv A outer s H vs Q E hr h => ?_
  obtain ⟨ws, qL, f, r, hS, hok, hsz, hN, q⟩ := h
  have hj1 : 1 ≤ j := by omega
  refine ⟨_, (pss_cons (ps_asg (pe_st O rfl rfl rfl rfl rfl hr hkj (i := 2) rfl (Or.inr (Or.inl rfl)) (pa_cons (pv 0) pa_nil)) (kTg (K := K) rfl rfl (pgs_cons (pg_name (i := 3) sc_best_at.nd rfl (Or.inl rfl)) (pgs_cons (pg_name (i := 4) sc_best_at.nd rfl (Or.inl rfl)) pgs_nil))))
      (pss_cons (ps_for PassesOwn.never rfl (kEnum (K := K) rfl (by rfl) T.enumerateZ (pa_cons (pv 1) pa_nil)) (kTg (K := K) rfl rfl (pgs_cons (pg_name (i := 5) sc_best_at.nd rfl (Or.inl rfl)) (pgs_cons (pg_name (i := 6) sc_best_at.nd rfl (Or.inl rfl)) pgs_nil))) (pss_cons (ps_setLc (i := 7) rfl sc_best_at.nd rfl rfl (sw_true rfl rfl rfl (by decide +kernel)) (own := [("answer", 8)]) (g := (gName 8)) (tt := tYes) (kPiT (K := K) rfl (pv 6)) (blkOk_by (by kernel_rfl)) (fun _ _ _ _ _ => (pg_name (i := 8) sc_best_at.nd rfl (Or.inl rfl))) (fun _ _ _ _ _ => pts_nil) (fun _ _ _ _ _ => (C8.pe_c c_best_at hr (Nat.le_refl _) rfl (pa_cons (pe_ix (kIxT (K := K) rfl) (pv 8) pe_int (fun _ _ => rfl)) (pa_cons (pe_ix (kIxT (K := K) rfl) (pv 8) pe_int (fun _ _ => rfl)) (pa_cons (pv 2) pa_nil))))))
      (pss_cons (ps_set (i := 9) sc_best_at.nd rfl (Or.inl rfl) (C8.pe_c c_total hr h4 rfl (pa_cons (pe_lc rfl sc_best_at.nd (own := [("one", 10), ("asker", 11)]) (g := (gTup K 2 (gCons (gName 10) (gCons (gName 11) gNil)))) (tt := tYes) (kPiL (K := K) rfl (pv 7)) (blkOk_by (by kernel_rfl)) (fun _ _ _ _ _ => (kTg (K := K) rfl rfl (pgs_cons (pg_name (i := 10) sc_best_at.nd rfl (Or.inl rfl)) (pgs_cons (pg_name (i := 11) sc_best_at.nd rfl (Or.inl rfl)) pgs_nil)))) (fun _ _ _ _ _ => pts_nil) (fun _ _ _ _ _ => (pv 10))) pa_nil)))
      (pss_one (ps_if (pt_val (C8.pe_c c_is_below hr hj1 rfl (pa_cons (pv 3) (pa_cons (pv 9) pa_nil)))) (pss_one (ps_par (i := 3) (j := 4) (by rfl) sc_best_at.nd rfl rfl (by decide) rfl rfl (pa_cons (pv 9) (pa_cons (pe_tup (pa_cons pe_str (pa_cons (pv 5) (pa_cons (pe_callTy (kTuple (K := K) rfl rfl) (by rfl) T.tupleZ (by decide +kernel) (pa_cons (pe_lc rfl sc_best_at.nd (own := [("one", 10), ("asker", 11)]) (g := (gTup K 2 (gCons (gName 10) (gCons (gName 11) gNil)))) (tt := tYes) (kPiL (K := K) rfl (pv 7)) (blkOk_by (by kernel_rfl)) (fun _ _ _ _ _ => (kTg (K := K) rfl rfl (pgs_cons (pg_name (i := 10) sc_best_at.nd rfl (Or.inl rfl)) (pgs_cons (pg_name (i := 11) sc_best_at.nd rfl (Or.inl rfl)) pgs_nil)))) (fun _ _ _ _ _ => pts_nil) (fun _ _ _ _ _ => (pv 11))) pa_nil)) pa_nil)))) pa_nil)) (by rfl))) pss_nil)))))
      (pss_one (ps_ret (pe_tup (pa_cons (pv 3) (pa_cons (pv 4) pa_nil))))))), ?_⟩
  generalize hout : (D.tup [fr (bsf (st ws).1 (st ws).2 0 (qL.map (ask1 val))).1, (bsf (st ws).1 (st ws).2 0 (qL.map (ask1 val))).2]) = out at q
  refine (?_ : Es (Ct.pure K H) (nm0 12 [frs ws, encNode word sub wt qL, .sc (.ref f)]) _ (fun _ => out = .sc .non) (Is out)) _ H _ (sr0 (N := ["weights", "node", "stopping", "most", "best", "number", "question", "told", "answer", "whole", "one", "asker"]) r) (fun nm' σ' H' hn S' _ => q .non H' S'.le (by rw [hn]; exact rfl)) fun v d H' rd l _ p => q v H' l (by rw [← rd]; exact p)
  refine es_seq (N1 := fun nm' => ∃ a b c e, nm' = [some (.val (frs ws)), some (.val (encNode word sub wt qL)), some (.val (.sc (.ref f))), some (.val (fr (bsf (st ws).1 (st ws).2 0 ((qL.map (ask1 val)).take 0)).1)), some (.val (bsf (st ws).1 (st ws).2 0 ((qL.map (ask1 val)).take 0)).2), a, b, c, none, e, none, none])
    (es_asgG (ev_st O.mono rfl hS (ev_var rfl) hok) eg_two ⟨none, none, none, none, rfl⟩) ?_
  rintro nm' ⟨a, b, c, e, rfl⟩
  refine es_seq (N1 := fun nm' => ∃ a b c e, nm' = [some (.val (frs ws)), some (.val (encNode word sub wt qL)), some (.val (.sc (.ref f))), some (.val (fr (bsf (st ws).1 (st ws).2 0 (qL.map (ask1 val))).1)), some (.val (bsf (st ws).1 (st ws).2 0 (qL.map (ask1 val))).2), a, b, c, none, e, none, none])
    (es_for (ei_enum (ds := qL.map fun q => D.tup (q.map (encCh word sub wt))) (ea_cons (ev_var rfl) ea_nil)) (fun i nm' => ∃ a b c e, nm' = [some (.val (frs ws)), some (.val (encNode word sub wt qL)), some (.val (.sc (.ref f))), some (.val (fr (bsf (st ws).1 (st ws).2 0 ((qL.map (ask1 val)).take i)).1)), some (.val (bsf (st ws).1 (st ws).2 0 ((qL.map (ask1 val)).take i)).2), a, b, c, none, e, none, none])
      ⟨a, b, c, e, rfl⟩ (fun _ _ _ => trivial) (fun i d nm' hd hP => ?_) fun nm' hP => ?_) ?_
  · obtain ⟨a, b, c, e, rfl⟩ := hP
    obtain ⟨d', hd', rfl⟩ := enD_at hd
    rw [List.getElem?_map] at hd'
    cases hq : qL[i]? with
    | none => rw [hq] at hd'; cases hd'
    | some qn =>
    rw [hq] at hd'
    obtain rfl := Option.some.inj hd'
    have hqm := List.mem_of_getElem? hq
    obtain ⟨h3, hall⟩ := hN.ok qn hqm
    have hv : (qL.map (ask1 val))[i]? = some (ask1 val qn) := by rw [List.getElem?_map, hq] <;> rfl
    have hi := (List.getElem?_eq_some_iff.mp hq).1
    generalize hm : bsf (st ws).1 (st ws).2 0 ((qL.map (ask1 val)).take i) = cur
    have hstep : bsf (st ws).1 (st ws).2 0 ((qL.map (ask1 val)).take (i + 1)) = if cur.1 < (ask1 val qn).1 then ((ask1 val qn).1, askD i (ask1 val qn).2) else cur := by
      rw [List.take_add_one, hv]
      show bsf (st ws).1 (st ws).2 0 ((qL.map (ask1 val)).take i ++ [ask1 val qn]) = _
      rw [bsf_snoc, hm, List.length_take, List.length_map, Nat.min_eq_left (by omega), Nat.zero_add]
    have szq : ∀ q' ∈ qL, Sz 4000 (ask1 val q').1 := fun q' hq' => by
      obtain ⟨l3, al⟩ := hN.ok q' hq'
      have z := tot3_sz (n := n) (xs := q'.map fun a => (val a).1) (fun x hx => by obtain ⟨a, ha, rfl⟩ := List.mem_map.mp hx; exact (al a ha).2) (by rw [List.length_map]; exact l3)
      exact z.mono (by have := hN.hn; omega)
    have szc : Sz 4000 cur.1 := by
      rw [← hm, bsf_val]
      refine most_sz hsz fun x hx => ?_
      obtain ⟨y, hy, rfl⟩ := List.mem_map.mp hx
      obtain ⟨q', hq', rfl⟩ := List.mem_map.mp (List.mem_of_mem_take hy)
      exact szq q' hq'
    refine ⟨_, _, eg_two, ?_⟩
    -- told
    refine es_seq (N1 := fun nm' => ∃ p, nm' = [some (.val (frs ws)), some (.val (encNode word sub wt qL)), some (.val (.sc (.ref f))), some (.val (fr cur.1)), some (.val cur.2), some (.val (.i (i : Int))), some (.val (.tup (qn.map (encCh word sub wt)))), some (.own p (qn.map fun a => .tup [fr (val a).1, (val a).2])), none, e, none, none])
      (es_asgL (Rs := fun es => es = qn.map fun a => .tup [fr (val a).1, (val a).2]) (el_lc (ei_tup (ds := qn.map (encCh word sub wt)) (ev_var rfl)) trivial (by rw [List.length_map]; omega) (fun i acc => acc = (qn.take i).map fun a => .tup [fr (val a).1, (val a).2]) rfl (fun i d acc hd hacc => ?_) fun acc hacc => ?_) fun p ds hds _ => ⟨p, by rw [hds]; rfl⟩) ?_
    · rw [List.getElem?_map] at hd
      cases hqa : qn[i]? with
      | none => rw [hqa] at hd; cases hd
      | some ch =>
      rw [hqa] at hd
      obtain rfl := Option.some.inj hd
      refine ⟨_, _, eg_name, by simp, (ev_callF (ea_cons (ev_ixc 1 (ev_var rfl) rfl) (ea_cons (ev_ixc 2 (ev_var rfl) rfl) (ea_cons (ev_var rfl) ea_nil))) (hprev (Ct.pure K H) ch f rfl hS (hall ch (List.mem_of_getElem? hqa)).1)).imp fun x hx => ?_⟩
      rw [hacc, hx, List.take_add_one, hqa, List.map_append]
      rfl
    · rw [hacc, List.length_map, List.take_length]
    rintro nm' ⟨p, rfl⟩
    -- whole
    refine es_seq (N1 := fun nm' => nm' = [some (.val (frs ws)), some (.val (encNode word sub wt qL)), some (.val (.sc (.ref f))), some (.val (fr cur.1)), some (.val cur.2), some (.val (.i (i : Int))), some (.val (.tup (qn.map (encCh word sub wt)))), some (.own p (qn.map fun a => .tup [fr (val a).1, (val a).2])), none, some (.val (fr (ask1 val qn).1)), none, none])
      (es_asg (ev_Q (enc := fun x : NL => x.2.map fr) (pre := NLok) (out := fun x => fr (tot x.2)) (n, qn.map fun a => (val a).1) (el_lc (ei_own (k := 7) rfl) rfl (by rw [List.length_map]; omega) (fun i acc => acc = ((qn.take i).map fun a => (val a).1).map fr) rfl (fun i d acc hd hacc => ?_) fun acc hacc => ?_) ⟨fun x hx => ?_, ?_⟩) rfl) ?_
    · rw [List.getElem?_map] at hd
      cases hqa : qn[i]? with
      | none => rw [hqa] at hd; cases hd
      | some ch =>
      rw [hqa] at hd
      obtain rfl := Option.some.inj hd
      refine ⟨_, _, eg_two, by simp, (ev_var rfl : Ev _ _ _ (Is (fr (val ch).1))).imp fun x hx => ?_⟩
      rw [hacc, hx, List.take_add_one, hqa, List.map_append, List.map_append]
      rfl
    · rw [hacc, List.length_map, List.take_length]
    · obtain ⟨a, ha, rfl⟩ := List.mem_map.mp hx
      exact (hall a ha).2
    · show 1 + (qn.map fun a => (val a).1).length * (n + 1) ≤ 4000
      rw [List.length_map]
      have h5 : qn.length * (n + 1) ≤ 3 * (n + 1) := Nat.mul_le_mul_right _ h3
      have := hN.hn
      omega
    rintro nm' rfl
    refine es_if (et_val (ev_below cur.1 (ask1 val qn).1 (ea_cons (ev_var rfl) (ea_cons (ev_var rfl) ea_nil)) szc (szq qn hqm))) (fun hb => ?_) fun hb => ?_
    · refine es_par (d2 := askD i (ask1 val qn).2) (ea_cons (ev_var rfl) (ea_cons (ev_tup (ds := [.s "ask", .i (i : Int), .tup (ask1 val qn).2]) (ea_cons ev_c (ea_cons (ev_var rfl) (ea_cons (ev_tupL1 (el_lc (ei_own (k := 7) rfl) rfl (by rw [List.length_map]; omega) (fun i acc => acc = (qn.take i).map fun a => (val a).2) rfl (fun i d acc hd hacc => ?_) fun acc hacc => ?_)) ea_nil))) (by simp)) ea_nil)) ?_
      · rw [List.getElem?_map] at hd
        cases hqa : qn[i]? with
        | none => rw [hqa] at hd; cases hd
        | some ch =>
        rw [hqa] at hd
        obtain rfl := Option.some.inj hd
        refine ⟨_, _, eg_two, by simp, (ev_var rfl : Ev _ _ _ (Is (val ch).2)).imp fun x hx => ?_⟩
        rw [hacc, hx, List.take_add_one, hqa, List.map_append]
        rfl
      · rw [hacc, List.length_map, List.take_length]
        rfl
      · rw [hstep, if_pos (of_decide_eq_true hb)]
        exact ⟨_, _, _, _, rfl⟩
    · refine es_next ?_
      rw [hstep, if_neg (of_decide_eq_false hb)]
      exact ⟨_, _, _, _, rfl⟩
  · obtain ⟨a, b, c, e, rfl⟩ := hP
    refine ⟨a, b, c, e, ?_⟩
    rw [enD_len, List.length_map]
    have z : (qL.map (ask1 val)).take qL.length = qL.map (ask1 val) := List.take_of_length_le (by rw [List.length_map]; exact Nat.le_refl _)
    rw [z]
  · rintro nm' ⟨a, b, c, e, rfl⟩
    rw [← hout]
    exact es_ret (ev_tup (ea_cons (ev_var rfl) (ea_cons (ev_var rfl) ea_nil)) (by simp))
end
end Q3
namespace Q3
open PySem PySem.Spec PyProof.Rows L2
/-! guessing handed in; trees -/
theorem Df.cimp {P : Program} {w : World} {K : PySem.W.Frag} {mg : Str → Option Value} {base : Heap} {k : Nat} {x : Str} {sp sp' : Sp} {dvs : List V} (c : C8.Cal P w K mg base k x sp dvs) (h : ∀ vs H Q E, sp' vs H Q E → sp vs H Q E) : C8.Cal P w K mg base k x sp' dvs := by
  obtain ⟨f, fd, ps, ds, F, rest⟩ := c.ex
  exact ⟨f, fd, ps, ds, F.imp (fun vs H Q E q => h vs H Q E q), rest⟩
theorem Df.cno {P : Program} {w : World} {K : PySem.W.Frag} {mg : Str → Option Value} {base : Heap} {x : Str} {st : Stmt} {ps : List Str} (d : Df K mg x st ps) (k : Nat) : C8.Cal P w K mg base k x (fun _ _ _ _ => False) [] := by
  obtain ⟨f, fd, D, b⟩ := d.ex
  exact ⟨f, fd, ps, [], ⟨fun _ _ _ _ h => h.elim, fun _ _ _ _ _ _ _ _ (_ : XK) _ _ _ _ h => h.elim⟩, D.mgf, D.kp, b, .nil⟩
theorem Df.cup {P : Program} {w : World} {K : PySem.W.Frag} {mg : Str → Option Value} {base : Heap} {j k : Nat} {x : Str} {sp : Sp} {dvs : List V} (c : C8.Cal P w K mg base j x sp dvs) (h : j ≤ k) : C8.Cal P w K mg base k x sp dvs := by
  obtain ⟨f, fd, ps, ds, F, rest⟩ := c.ex
  exact ⟨f, fd, ps, ds, F.mono h, rest⟩
def guS (mg : Str → Option Value) : Addr → Hp → Prop := fun f _ => mg "guessing" = some (.ref f)
def guV (ws : List Rat) : Rat × D := ((amL ws).1, stopD (amL ws).2)
theorem guess_stop {P : Program} {w : World} {K : PySem.W.Frag} {mg : Str → Option Value} {base : Heap} (d : Df K mg "guessing" s_guessing ["weights"]) (c : C8.Cal P w K mg base 2 "guessing" (spGuess K) []) : StopOk P w K mg base 2 (guS mg) GuOk guV := by
  refine ⟨fun f H H' h _ => h, fun X pins σ H s f hP hw hK hmg hb I h => ?_, fun X pins σ H s f us wv ws Q hP hw hK hmg hb hr I h r rp ok q => ?_⟩
  · obtain ⟨g, fd, D, b⟩ := d.ex
    have e : f = g := by
      have z := D.mgf
      rw [show mg "guessing" = some (.ref f) from h] at z
      exact Value.ref.inj (Option.some.inj z)
    subst e
    obtain ⟨oc, od, dV, kV, doc, pm, an, cdv, ct, osl, e1, lk, hcd⟩ := D.fn.ex
    subst hK
    exact ⟨_, _, _, _, I.kIn _ _ lk⟩
  · obtain ⟨g, fd, ps, ds, F, hm, kp, b, hd⟩ := c.ex
    have e : f = g := by
      rw [show mg "guessing" = some (.ref f) from h] at hm
      exact Value.ref.inj (Option.some.inj hm)
    subst e hP hw hK hmg hb
    cases hd
    refine run_fn (E := C8.E0) F hr b .nil C8.pass0 I r ?_
    rw [List.append_nil]
    exact ⟨ws, .cons rp .nil, ok, fun v H' x rv => q v H' x rv⟩
def wordD (xs : List Int) : D := .tup (xs.map D.i)
def encT : (r : Nat) → T r → D
  | 0, _ => .tup []
  | r + 1, t => encNode (fun a : An r => wordD a.1) (fun a : An r => encT r a.2.2) (fun a : An r => a.2.1) (qs t)
def bestT (st : List Rat → Rat × D) : (r : Nat) → List Rat → T r → Rat × D
  | 0, w, _ => st w
  | r + 1, w, t => bsf (st w).1 (st w).2 0 ((qs t).map (ask1 (fun a : An r => bestT st r a.2.1 a.2.2)))
def AllO (ok : List Rat → Prop) : (r : Nat) → T r → Prop
  | 0, _ => True
  | r + 1, t => (qs t).length ≤ 5 ∧ ∀ q, q ∈ qs t → q.length ≤ 3 ∧ ∀ a, a ∈ q → ok a.2.1 ∧ AllO ok r a.2.2
theorem bestT_sz {ok : List Rat → Prop} {st : List Rat → Rat × D} {b : Nat} (h : ∀ w, ok w → Sz b (st w).1) : ∀ (r : Nat) (w : List Rat) (t : T r), ok w → AllO ok r t → Sz (up b r) (bestT st r w t).1
  | 0, w, t, hw, _ => h w hw
  | r + 1, w, t, hw, ht => by
    show Sz (up b (r + 1)) (bsf (st w).1 (st w).2 0 ((qs t).map (ask1 (fun a : An r => bestT st r a.2.1 a.2.2)))).1
    rw [bsf_val]
    refine most_sz ((h w hw).mono (le_up b _)) fun x hx => ?_
    obtain ⟨y, hy, rfl⟩ := List.mem_map.mp hx
    obtain ⟨q, hq, rfl⟩ := List.mem_map.mp hy
    obtain ⟨h1, h2⟩ := ht.2 q hq
    refine (tot3_sz (n := up b r) (fun z hz => ?_) (by rw [List.length_map]; exact h1))
    obtain ⟨a, ha, rfl⟩ := List.mem_map.mp hz
    exact bestT_sz h r a.2.1 a.2.2 (h2 a ha).1 (h2 a ha).2
def spTree (K : PySem.W.Frag) (S : Addr → Hp → Prop) (ok : List Rat → Prop) (st : List Rat → Rat × D) (r : Nat) : Sp := fun vs H Q _ => ∃ (ws : List Rat) (t : T r) (f : Addr), RepL K H [frs ws, encT r t, .sc (.ref f)] vs ∧ S f H ∧ ok ws ∧ AllO ok r t ∧
  ∀ v H', Ex H H' → Rep K H' (.tup [fr (bestT st r ws t).1, (bestT st r ws t).2]) v → Q v H'
section
variable {P : Program} {w : World} {K : PySem.W.Frag} {mg : Str → Option Value} {base : Heap} {aN aO aH : Addr}
theorem cal_tree {k j b : Nat} {S : Addr → Hp → Prop} {ok : List Rat → Prop} {st : List Rat → Rat × D} (T0 : Txt K mg aN aO aH) (d : Df K mg "best_at" s_best_at ["weights", "node", "stopping"]) (O : StopOk P w K mg base k S ok st) (hkj : k ≤ j) (h4 : 4 ≤ j)
    (hs : ∀ w, ok w → Sz b (st w).1) (c_total : C8.Cal P w K mg base 4 "total" (spTotal K) []) (c_is_below : C8.Cal P w K mg base 1 "is_below" (spBelow K) []) (hb : b ≤ 4000) :
    ∀ r : Nat, up b (r - 1) ≤ 1300 → C8.Cal P w K mg base (j + 1 + r) "best_at" (spTree K S ok st r) []
  | 0, _ => by
    refine Df.cimp (cal_best_at (Ch := Empty) (fun a => nomatch a) (fun a => nomatch a) (fun a => nomatch a) (fun a => nomatch a) (n := 0) (okC := fun _ => True) (prev := fun _ _ _ _ => False) T0 d O hkj h4 (d.cno j) (fun _ a => nomatch a) c_total c_is_below) fun vs H Q E h => ?_
    obtain ⟨ws, t, f, r, hS, hok, _, q⟩ := h
    exact ⟨ws, [], f, r, hS, hok, (hs ws hok).mono hb, (⟨by simp, fun q hq => (nomatch hq), by omega⟩ : NodeOk (fun a : Empty => nomatch a) (fun _ => True) 0 []), q⟩
  | r + 1, hr => by
    have hr' : up b (r - 1) ≤ 1300 := Nat.le_trans (by cases r with | zero => exact Nat.le_refl _ | succ r => exact up_step) hr
    have ih := cal_tree T0 d O hkj h4 hs c_total c_is_below hb r hr'
    refine Df.cimp (cal_best_at (Ch := An r) (fun a : An r => wordD a.1) (fun a : An r => encT r a.2.2) (fun a : An r => a.2.1) (fun a : An r => bestT st r a.2.1 a.2.2) (j := j + 1 + r) (n := up b r) (okC := fun a => ok a.2.1 ∧ AllO ok r a.2.2) (prev := spTree K S ok st r) T0 d O (by omega) (by omega) ih (fun C a f hK hS ha H vs Q l i p q => ?_) c_total c_is_below) fun vs H Q E h => ?_
    · subst hK
      exact ⟨a.2.1, a.2.2, f, by rw [List.append_nil]; exact p, O.mono _ _ _ hS l.fx, ha.1, ha.2, fun v H' x rv => q v _ H' rfl x.le (C.exI i x) rv⟩
    · obtain ⟨ws, t, f, r, hS, hok, ht, q⟩ := h
      exact ⟨ws, qs t, f, r, hS, hok, (hs ws hok).mono hb, ⟨ht.1, fun q hq => ⟨(ht.2 q hq).1, fun a ha => ⟨(ht.2 q hq).2 a ha, bestT_sz hs _ a.2.1 a.2.2 ((ht.2 q hq).2 a ha).1 ((ht.2 q hq).2 a ha).2⟩⟩, hr⟩, q⟩
/-! houses -/
def HouseAt (K : PySem.W.Frag) (C : Addr) (H : Hp) (a : Addr) (W : Nat) (r : Nat) (t : T r) : Prop := ∃ (dx : Addr) (fs : List (Str × V)) (tv : V), H a = some (.ins C dx fs) ∧ fs.lookup ("worlds" : Str) = some (.int (W : Int)) ∧ fs.lookup ("tree" : Str) = some tv ∧ Rep K H (encT r t) tv
theorem HouseAt.to {C : Addr} {H H' : Hp} {a : Addr} {W r : Nat} {t : T r} (h : HouseAt K C H a W r t) (e : Fx H H') : HouseAt K C H' a W r t := by
  obtain ⟨dx, fs, tv, h1, h2, h3, h4⟩ := h
  exact ⟨dx, fs, tv, e _ _ h1 trivial, h2, h3, h4.to e⟩
structure HCls (K : PySem.W.Frag) (C : Addr) : Prop where
  cls : Cls K C
  w : NoAttr K C "worlds"
  t : NoAttr K C "tree"
theorem ev_worlds {C : Ct} {nm : Nm} {te : TE} {c a : Addr} {W r : Nat} {t : T r} (hc : HCls C.K c) (h : HouseAt C.K c C.H0 a W r t) (he : Ev C nm te (Is (.sc (.ref a)))) : Ev C nm (tFld C.K te "worlds") (Is (.i (W : Int))) := fun σ H Q S q =>
  he σ H _ S fun v d H1 e l i p => by
    rw [e] at p
    obtain ⟨dx, fs, tv, h1, h2, h3, h4⟩ := h.to (S.le.fx.trans l.fx)
    exact ⟨a, c, dx, fs, _, p, h1, hc.cls, hc.w, h2, q _ _ H1 rfl l i rfl⟩
theorem ev_tree {C : Ct} {nm : Nm} {te : TE} {c a : Addr} {W r : Nat} {t : T r} (hc : HCls C.K c) (h : HouseAt C.K c C.H0 a W r t) (he : Ev C nm te (Is (.sc (.ref a)))) : Ev C nm (tFld C.K te "tree") (Is (encT r t)) := fun σ H Q S q =>
  he σ H _ S fun v d H1 e l i p => by
    rw [e] at p
    obtain ⟨dx, fs, tv, h1, h2, h3, h4⟩ := h.to (S.le.fx.trans l.fx)
    exact ⟨a, c, dx, fs, _, p, h1, hc.cls, hc.t, h3, q _ _ H1 rfl l i h4⟩
/-- the worth of a house without a word on deeds: its luck, who asks luckily -/
structure LuckIn (r : Nat) where
  W : Nat
  t : T r
structure LuckOk {r : Nat} (x : LuckIn r) : Prop where
  w1 : 1 ≤ x.W
  w5 : x.W ≤ 5
  all : AllO GuOk r x.t
def spLuck (K : PySem.W.Frag) (c : Addr) (r : Nat) (out : LuckIn r → D) : Sp := fun vs H Q _ => ∃ (x : LuckIn r) (a : Addr), vs = [.ref a] ∧ HouseAt K c H a x.W r x.t ∧ LuckOk x ∧ ∀ v H', Ex H H' → Rep K H' (out x) v → Q v H'
theorem ones_gu {n : Nat} (h1 : 1 ≤ n) (h5 : n ≤ 5) : GuOk (ones n) := ⟨fun z => by have := congrArg List.length z; rw [show (ones n).length = n from List.length_replicate ..] at this; simp at this; omega, by rw [show (ones n).length = n from List.length_replicate ..]; exact h5, ones_sz n⟩
theorem ev_bt {C : Ct} {nm : Nm} {E : XK} {S : Addr → Hp → Prop} {ok : List Rat → Prop} {st : List Rat → Rat × D} {r : Nat} {t : TA} {ws : List Rat} {tr : T r} {f : Addr} (hm : ∀ f H H', S f H → Fx H H' → S f H') (h : Ea C nm t (fun es => es = [frs ws, encT r tr, .sc (.ref f)])) (hS : S f C.H0) (h1 : ok ws) (h2 : AllO ok r tr) :
    Ev C nm (tCall (spTree C.K S ok st r) [] E t) (Is (.tup [fr (bestT st r ws tr).1, (bestT st r ws tr).2])) := ev_callF h fun H vs Q l i p q => ⟨ws, tr, f, by rw [List.append_nil]; exact p, hm _ _ _ hS l.fx, h1, h2, fun v H' x rv => q v _ H' rfl x.le (C.exI i x) rv⟩
theorem cal_luck {r j fG : Nat} (T : Txt K mg aN aO aH) (hH : HCls K aH) (d : Df K mg "luck" s_luck ["house"]) (hG : mg "guessing" = some (.ref fG)) (c_best_at : C8.Cal P w K mg base j "best_at" (spTree K (guS mg) GuOk guV r) []) :
    C8.Cal P w K mg base (j + 1) "luck" (spLuck K aH r fun x => fr (bestT guV r (ones x.W) x.t).1) [] := by
  refine d.cal sc_luck (fun vs H Q E h => by obtain ⟨_, _, rfl, _⟩ := h; rfl) fun f cdv A outer s H vs Q E hr h => ?_
  refine ⟨_, (pss_one (ps_ret (pe_ix (kIxT (K := K) rfl) (C8.pe_c c_best_at hr (Nat.le_refl _) rfl (pa_cons (pe_op (kRep (K := K) rfl) (pe_tup (pa_cons (pe_glob (v := .ref aO) rfl T.ONE rfl) pa_nil)) (kFld (K := K) rfl (pv 0) rfl)) (pa_cons (kFld (K := K) rfl (pv 0) rfl) (pa_cons (pe_glob (v := .ref fG) rfl hG rfl) pa_nil)))) pe_int (fun _ _ => rfl)))), ?_⟩
  obtain ⟨x, a, rfl, hh, hx, q⟩ := h
  refine (?_ : Es (Ct.pure K H) (nm0 1 [.sc (.ref a)]) _ (fun _ => False) (Is (fr (bestT guV r (ones x.W) x.t).1))) _ H _ (sr0 (N := ["house"]) (.cons rfl .nil)) (fun _ _ _ hn _ _ => hn.elim) fun v d H' rd l _ p => q v H' l (by
    have rd : d = _ := rd
    subst rd
    exact p)
  exact es_ret (ev_ixc 0 (ev_bt (S := guS mg) (ok := GuOk) (st := guV) (ws := ones x.W) (tr := x.t) (f := fG) (fun _ _ _ h _ => h) (ea_cons (ev_ones (C := Ct.pure K H) (.tup (T.oT H) (.cons rfl (.cons rfl .nil))) (ev_worlds hH hh (ev_var rfl)) hx.w1 (by have := hx.w5; omega)) (ea_cons (ev_tree hH hh (ev_var rfl)) (ea_cons ev_c ea_nil))) hG (ones_gu hx.w1 hx.w5) hx.all) rfl)
theorem cal_luckiest {r j fG : Nat} (T : Txt K mg aN aO aH) (hH : HCls K aH) (d : Df K mg "luckiest" s_luckiest ["house"]) (hG : mg "guessing" = some (.ref fG)) (c_best_at : C8.Cal P w K mg base j "best_at" (spTree K (guS mg) GuOk guV r) []) :
    C8.Cal P w K mg base (j + 1) "luckiest" (spLuck K aH r fun x => (bestT guV r (ones x.W) x.t).2) [] := by
  refine d.cal sc_luckiest (fun vs H Q E h => by obtain ⟨_, _, rfl, _⟩ := h; rfl) fun f cdv A outer s H vs Q E hr h => ?_
  refine ⟨_, (pss_one (ps_ret (pe_ix (kIxT (K := K) rfl) (C8.pe_c c_best_at hr (Nat.le_refl _) rfl (pa_cons (pe_op (kRep (K := K) rfl) (pe_tup (pa_cons (pe_glob (v := .ref aO) rfl T.ONE rfl) pa_nil)) (kFld (K := K) rfl (pv 0) rfl)) (pa_cons (kFld (K := K) rfl (pv 0) rfl) (pa_cons (pe_glob (v := .ref fG) rfl hG rfl) pa_nil)))) pe_int (fun _ _ => rfl)))), ?_⟩
  obtain ⟨x, a, rfl, hh, hx, q⟩ := h
  refine (?_ : Es (Ct.pure K H) (nm0 1 [.sc (.ref a)]) _ (fun _ => False) (Is ((bestT guV r (ones x.W) x.t).2))) _ H _ (sr0 (N := ["house"]) (.cons rfl .nil)) (fun _ _ _ hn _ _ => hn.elim) fun v d H' rd l _ p => q v H' l (by
    have rd : d = _ := rd
    subst rd
    exact p)
  exact es_ret (ev_ixc 1 (ev_bt (S := guS mg) (ok := GuOk) (st := guV) (ws := ones x.W) (tr := x.t) (f := fG) (fun _ _ _ h _ => h) (ea_cons (ev_ones (C := Ct.pure K H) (.tup (T.oT H) (.cons rfl (.cons rfl .nil))) (ev_worlds hH hh (ev_var rfl)) hx.w1 (by have := hx.w5; omega)) (ea_cons (ev_tree hH hh (ev_var rfl)) (ea_cons ev_c ea_nil))) hG (ones_gu hx.w1 hx.w5) hx.all) rfl)
end
end Q3
/-! Cells and functions tracked for a while; a lambda of one parameter that reads captured names. -/
namespace Q3
open PySem PySem.Spec PyProof.Rows L2 LamX NdefX
def ExO (b : Addr) (o : Obj) : HO := .frz o (.ext fun h => h.get? b = some o)
def trk (H : Hp) (Tr : Addr → Option Obj) : Hp := fun b => match Tr b with | some o => some (ExO b o) | none => H b
def utk (H : Hp) (Tr : Addr → Option Obj) : Hp := fun b => match Tr b with | some _ => none | none => H b
section
variable {H H' : Hp} {Tr : Addr → Option Obj} {b : Addr} {o : Obj} {P : Program} {w : World} {h h' : Heap} {K : PySem.W.Frag}
theorem trk_at (e : Tr b = some o) : trk H Tr b = some (ExO b o) := by unfold trk; rw [e]
theorem trk_no (e : Tr b = none) : trk H Tr b = H b := by unfold trk; rw [e]
theorem utk_at (e : Tr b = some o) : utk H Tr b = none := by unfold utk; rw [e]
theorem utk_no (e : Tr b = none) : utk H Tr b = H b := by unfold utk; rw [e]
theorem exO_ok (e : h.get? b = some o) : ObjOk P w H h b (ExO b o) := ⟨e, e, ⟨o, e⟩, fun _ _ e1 st => st o e1⟩
theorem trk_of {u : HO} (ht : ∀ b o, Tr b = some o → H b = none) (e : H b = some u) : trk H Tr b = some u := by
  cases q : Tr b with
  | some o => rw [ht b o q] at e; cases e
  | none => rw [trk_no q]; exact e
theorem utk_of {u : HO} (ht : ∀ b o, Tr b = some o → H b = some (ExO b o)) (n : ∀ o, u ≠ ExO b o) (e : H b = some u) : utk H Tr b = some u := by
  cases q : Tr b with
  | some o => rw [ht b o q] at e; exact absurd (Option.some.inj e).symm (n o)
  | none => rw [utk_no q]; exact e
theorem hok_trk (x : HOk P w H h) (ht : ∀ b o, Tr b = some o → h.get? b = some o ∧ H b = none) : HOk P w (trk H Tr) h := fun a u e => by
  have hn : ∀ b o, Tr b = some o → H b = none := fun b o q => (ht b o q).2
  cases q : Tr a with
  | some ob =>
    rw [trk_at q] at e
    cases e
    exact exO_ok (ht a ob q).1
  | none =>
    rw [trk_no q] at e
    exact (x a u e).stay (fun _ _ _ q => q) (fun b e => trk_of hn e) fun b xs e => trk_of hn e
theorem hok_utk (x : HOk P w H h) (ht : ∀ b o, Tr b = some o → H b = some (ExO b o)) : HOk P w (utk H Tr) h := fun a u e => by
  cases q : Tr a with
  | some ob => rw [utk_at q] at e; cases e
  | none =>
    rw [utk_no q] at e
    exact (x a u e).stay (fun _ _ _ q => q) (fun b e => utk_of ht (fun o z => by cases z) e) fun b xs e => utk_of ht (fun o z => by cases z) e
mutual
theorem Rep.seq {H H' : Hp} (e : ∀ a xs, SqT K H a xs → SqT K H' a xs) : ∀ (d : D) (v : V), Rep K H d v → Rep K H' d v
  | .sc _, _, h => h
  | .tup ds, v, h => by
    obtain ⟨a, vs, e1, e2, e3⟩ := h
    exact ⟨a, vs, e1, e a vs e2, RepL.seq e ds vs e3⟩
theorem RepL.seq {H H' : Hp} (e : ∀ a xs, SqT K H a xs → SqT K H' a xs) : ∀ (ds : List D) (vs : List V), RepL K H ds vs → RepL K H' ds vs
  | [], _, h => h
  | d :: ds, vs, h => by
    obtain ⟨v, r, e1, e2, e3⟩ := h
    exact ⟨v, r, e1, Rep.seq e d v e2, RepL.seq e ds r e3⟩
end
theorem sq_trk (hn : ∀ b o, Tr b = some o → H b = none) {a : Addr} {xs : List V} (h : SqT K H a xs) : SqT K (trk H Tr) a xs := by
  rcases h with (h | ⟨o, h⟩) | h
  · exact .inl (.inl (trk_of hn h))
  · exact .inl (.inr ⟨o, trk_of hn h⟩)
  · exact .inr h
theorem sq_utk (ht : ∀ b o, Tr b = some o → H b = some (ExO b o)) {a : Addr} {xs : List V} (h : SqT K H a xs) : SqT K (utk H Tr) a xs := by
  rcases h with (h | ⟨o, h⟩) | h
  · exact .inl (.inl (utk_of ht (fun o z => by cases z) h))
  · exact .inl (.inr ⟨o, utk_of ht (fun o z => by cases z) h⟩)
  · exact .inr h
theorem rep_trk (hn : ∀ b o, Tr b = some o → H b = none) {d : D} {v : V} (h : Rep K H d v) : Rep K (trk H Tr) d v := Rep.seq (fun _ _ => sq_trk hn) d v h
theorem rep_utk (ht : ∀ b o, Tr b = some o → H b = some (ExO b o)) {d : D} {v : V} (h : Rep K H d v) : Rep K (utk H Tr) d v := Rep.seq (fun _ _ => sq_utk ht) d v h
variable {mg : Str → Option Value} {base : Heap} {A : Around} {outer : List Env} {s s' : Shared}
theorem env_trk (e : Env0 P w K mg base A outer s H) (ht : ∀ b o, Tr b = some o → s.heap.get? b = some o ∧ H b = none ∧ base.get? b = none ∧ b ∉ L2.frs outer) : Env0 P w K mg base A outer s (trk H Tr) :=
  ⟨e.frames, e.mod, fun b o q => ⟨(e.bs b o q).1, by
      cases z : Tr b with
      | some ob => rw [(ht b ob z).2.2.1] at q; cases q
      | none => rw [trk_no z]; exact (e.bs b o q).2⟩, e.bsz, e.funs, fun b hb => by
      cases z : Tr b with
      | some ob => exact absurd hb (ht b ob z).2.2.2
      | none => rw [trk_no z]; exact e.frf b hb, hok_trk e.hok fun b o q => ⟨(ht b o q).1, (ht b o q).2.1⟩, e.bare⟩
theorem utk_none {b : Addr} (e : H b = none) : utk H Tr b = none := by
  cases z : Tr b with
  | some ob => exact utk_at z
  | none => rw [utk_no z]; exact e
theorem env_utk (e : Env0 P w K mg base A outer s H) (ht : ∀ b o, Tr b = some o → H b = some (ExO b o)) : Env0 P w K mg base A outer s (utk H Tr) :=
  ⟨e.frames, e.mod, fun b o q => ⟨(e.bs b o q).1, utk_none (e.bs b o q).2⟩, e.bsz, e.funs, fun b hb => utk_none (e.frf b hb), hok_utk e.hok ht, e.bare⟩
theorem ce_trk {Q Qm : VK} {u : Value} (e : Env0 P w K mg base A outer s H) (ht : ∀ b o, Tr b = some o → H b = some (ExO b o)) (h : CE outer P w (utk H Tr) s Qm u s') (q : ∀ v H', (∀ b o, Tr b = some o → H' b = none) → Qm v H' → Q v (trk H' Tr)) : CE outer P w H s Q u s' := by
  obtain ⟨v, H', os, bare, un, hok, r, z⟩ := h
  have hget : ∀ b o, Tr b = some o → s.heap.get? b = some o := fun b o e1 => (e.hok b _ (ht b o e1)).1
  have hnf : ∀ b o, Tr b = some o → b ∉ L2.frs outer := fun b o e1 hb => by
    have z := e.frf b hb
    rw [ht b o e1] at z
    cases z
  have hn : ∀ b o, Tr b = some o → H' b = none := fun b o e1 => un.free b o (hget b o e1) (utk_at e1) (by simp)
  have hk : ∀ b o, Tr b = some o → s'.heap.get? b = some o := fun b o e1 => un.keep b o (hget b o e1) (utk_at e1) (hnf b o e1) (by simp)
  have hT : ∀ b, H b = none → Tr b = none := fun b n => by
    cases z : Tr b with
    | some ob => rw [ht b ob z] at n; cases n
    | none => rfl
  refine ⟨v, trk H' Tr, os, bare, ⟨fun b o e1 n nf nx => un.keep b o e1 (utk_none n) nf nx, fun b o e1 n nf nx => un.slot b o e1 (utk_none n) nf nx, fun b o e1 n nx => by rw [trk_no (hT b n)]; exact un.free b o e1 (utk_none n) nx, fun b o e1 nx => un.there b o e1 nx,
    fun b xs e1 => trk_of hn (un.tups b xs (utk_of ht (fun o z => by cases z) e1)), fun b o u e1 => ?_, fun b ps e1 => ?_⟩, hok_trk hok fun b o e1 => ⟨hk b o e1, hn b o e1⟩, r, q v H' hn z⟩
  · cases z : Tr b with
    | some ob =>
      rw [trk_at z]
      rw [ht b ob z] at e1
      exact e1
    | none =>
      rw [trk_no z]
      exact un.frzs b o u (by rw [utk_no z]; exact e1)
  · obtain ⟨more, e2⟩ := un.tbls b ps (utk_of ht (fun o z => by cases z) e1)
    exact ⟨more, trk_of hn e2⟩
theorem ce_utk {Q Qm : VK} {u : Value} (ht : ∀ b o, Tr b = some o → s.heap.get? b = some o ∧ H b = none) (h : CE outer P w (trk H Tr) s Qm u s') (q : ∀ v H', (∀ b o, Tr b = some o → H' b = some (ExO b o)) → Qm v H' → Q v (utk H' Tr)) : CE outer P w H s Q u s' := by
  obtain ⟨v, H', os, bare, un, hok, r, z⟩ := h
  have hx : ∀ b o, Tr b = some o → H' b = some (ExO b o) := fun b o e1 => un.frzs b _ _ (trk_at e1)
  have hk : ∀ b o, Tr b = some o → s'.heap.get? b = some o := fun b o e1 => (hok b _ (hx b o e1)).1
  have hn : ∀ b o, Tr b = some o → H b = none := fun b o q => (ht b o q).2
  refine ⟨v, utk H' Tr, os, bare, ⟨fun b o e1 n nf nx => ?_, fun b o e1 n nf nx => ?_, fun b o e1 n nx => ?_, fun b o e1 nx => un.there b o e1 nx,
    fun b xs e1 => utk_of hx (fun o z => by cases z) (un.tups b xs (trk_of hn e1)), fun b o u e1 => ?_, fun b ps e1 => ?_⟩, hok_utk hok hx, r, q v H' hx z⟩
  · cases z : Tr b with
    | some ob =>
      rw [(ht b ob z).1] at e1
      rw [← Option.some.inj e1]
      exact hk b ob z
    | none => exact un.keep b o e1 (by rw [trk_no z]; exact n) nf nx
  · cases z : Tr b with
    | some ob =>
      rw [(ht b ob z).1] at e1
      rw [← Option.some.inj e1]
      exact ⟨ob.slots, hk b ob z⟩
    | none => exact un.slot b o e1 (by rw [trk_no z]; exact n) nf nx
  · cases z : Tr b with
    | some ob => exact utk_at z
    | none =>
      rw [utk_no z]
      exact un.free b o e1 (by rw [trk_no z]; exact n) nx
  · have e2 := un.frzs b o u (trk_of hn e1)
    cases z : Tr b with
    | some ob => rw [hn b ob z] at e1; cases e1
    | none =>
      rw [utk_no z]
      exact e2
  · obtain ⟨more, e2⟩ := un.tbls b ps (trk_of hn e1)
    exact ⟨more, utk_of hx (fun o z => by cases z) e2⟩
end
/-! a lambda with parameters, run -/
abbrev lobj (F : NF) (e : Expr) (pm ctv : Value) : Obj := PySem.W.kla_obj F.name F.qual F.params e F.scope F.cl pm F.c ctv
theorem lam_run {P : Program} {w : World} {K : PySem.W.Frag} {mg : Str → Option Value} {base : Heap} {k : Nat} {N ps fr : List Str} {F : NF} {e : Expr} {f : Addr} {A : Around} {outer : List Env} {s : Shared} {H : Hp} {us : List Value} {vs : List V} {ws : List (Option V)} {Q : VK} {E : XK} {pm ctv : Value}
    (S : NScope N ps fr F.scope) (hb : bindArgs (PySem.W.kla_fn F.name F.qual F.params e F.scope F.cl pm (.ref F.c) ctv) ⟨us, []⟩ = pure (ps.zip us)) (hr : Room (k + 1) A) (e0 : Env0 P w K mg base A outer s H) (ho : s.heap.get? f = some (lobj F e pm ctv)) (hc : H F.c = some (CodeO F.c F.qual))
    (C : CellsAt F.cl fr ws s.heap H) (r : Vals vs us) (hl : vs.length = ps.length) (hbody : Room k (A.deeper (envF F f s.heap.objs.size)) → ∃ te, PE (ncx C8.CX0 P w K mg base N F f A outer s H E) e te ∧ te (startF N vs ws) H Q) :
    codeAny (model P w) A (.call (.ref f) ⟨us, []⟩) (CR C8.CX0 outer P w H s Q E) s := by
  have lim : s.heap.NoLimit := e0.mod.nolimit.keeps fun b o e => (e0.bs b o e).1
  refine PySem.W.kla_callFunE hr.depth ho rfl S.co S.gen rfl (codeO_at e0.hok hc) ?_
  rw [hb]
  refine wpAny_pure (wpAny_newFunctionEnv S.nocell (fun ⟨n, _⟩ hy => S.par n (List.of_mem_zip hy).1) (fun h₁ hns hsb => ⟨lim.fresh _ hsb, ?_⟩) S.kind)
  show codeAny _ _ (.expr e (envF F f s.heap.objs.size)) _ _
  have kp : ∀ b o, s.heap.get? b = some o → h₁.get? b = some o := fun b o e => hsb.extBut b o (Nat.ne_of_lt (Heap.lt_size e)) (Heap.get?_push_of_some _ e)
  obtain ⟨te, hte, hq⟩ := hbody (hr.deeper _)
  have I : Inv (ncx C8.CX0 P w K mg base N F f A outer s H E) [] (startF N vs ws) H { s with heap := h₁, toks := s.toks + (ps.zip us).length } := inv_startN S hr.hd e0 hl r C hns kp
  refine PySem.W.kla_codeExpr (wpAny_mono (hte.run [] _ _ H Q I hq) (fun v s' hs => ?_) fun e s' hq => hq)
  obtain ⟨w', H', J, rv, q⟩ := hs
  exact ⟨w', H', J.os, J.bare, J.base, J.hok, rv, q⟩
end Q3
namespace Q3
open PySem PySem.Spec PyProof.Rows L2
open LamX NdefX
/-! a lambda made: where it lies, what else has changed -/
def Kept (P : Addr) (H H' : Hp) : Prop := ∀ b o, b ≠ P → H b = some o → H' b = some o
theorem lam_new {X : Cx} {pins : List (Addr × Obj)} {σ : L2.St} {H : Hp} {s : Shared} {c P : Addr} {params : Arguments} {body : Expr} {scope : Scope} {pos : Pos} {E : Value → Shared → Prop} {Q : Value → Shared → Prop} (I : Inv X pins σ H s) (TB : TabB X.base X.mg c P) (hcode : X.env.code = .ref c)
    (hT : TabS H P (X.env.qual ++ "<lambda>")) (hdef : defaultsOf params X.env = ([], [])) (hfree : ∀ y ∈ scope.names, y.2 = .free → ∃ c, X.env.cells.lookup y.1 = some c)
    (h : ∀ (f c' : Addr) (pm ctv : Value) (H1 : Hp) (s' : Shared), Inv X pins σ H1 s' → Kept P H H1 → TabS H1 P (X.env.qual ++ "<lambda>") → s.heap.objs.size ≤ f →
      s'.heap.get? f = some (PySem.W.kla_obj "<lambda>" (X.env.qual ++ "<lambda>") params body scope (cloFrom X.env.cells scope.names []) pm c' ctv) → H1 f = none → f ∉ L2.frs X.stack → H1 c' = some (CodeO c' (X.env.qual ++ "<lambda>")) → Q (.ref f) s') :
    wpAny (model X.prog X.w) X.A (eval (.Lambda params body scope pos) X.env) Q E s := by
  obtain ⟨ps, tabP, trip, names⟩ := hT
  have blt : s.heap.BuiltinsAt X.mg P := TB.bm.keeps I.bk
  have atP : s.heap.get? P = some { cls := .none, data := .fields ps } := I.hok P _ tabP
  have young : ∀ f, s.heap.objs.size ≤ f → f ∉ L2.frs X.stack := fun f hf z => (List.mem_cons.mp (I.stkSub _ z)).elim (fun e => by have := I.lt; rw [← e] at this; exact absurd (Nat.lt_of_lt_of_le this hf) (Nat.lt_irrefl _)) (I.nofs hf)
  refine PySem.W.kla_eval hdef ?_
  cases look : codeAmong pos ps.toList with
  | some cv =>
    obtain ⟨c', rfl, hco⟩ := names pos cv look
    refine PySem.W.kla_makeFunctionHit (mg := X.mg) (c := c) (P := P) (ps := ps) (closure_ok hfree) I.ok.glob (I.mod.glob.keeps I.bk) hcode (TB.code.keeps I.bk) atP trip look blt fun ctv h' tk grow big => ?_
    have J : Inv X pins σ H { s with heap := h'.push (PySem.W.kla_obj "<lambda>" (X.env.qual ++ "<lambda>") params body scope (cloFrom X.env.cells scope.names []) ((X.mg "__name__").getD .none) c' ctv), toks := tk } := I.kept fun b o e => Heap.get?_push_of_some _ (grow b o e)
    exact h h'.objs.size c' _ ctv H _ J (fun _ _ _ e => e) ⟨ps, tabP, trip, names⟩ big (Heap.get?_push_size _ rfl) (I.hok.fresh big) (young _ big) hco
  | none =>
    refine PySem.W.kla_makeFunction (mg := X.mg) (c := c) (P := P) (ps := ps) (closure_ok hfree) I.ok.glob (I.mod.glob.keeps I.bk) hcode (TB.code.keeps I.bk) atP trip look TB.gP blt fun c' ctv h' tk grow ge lt rec_ tab => ?_
    obtain ⟨c2, oc, vs, t, e2, hoc, hd, hv⟩ := rec_
    cases e2
    have big : s.heap.objs.size ≤ h'.objs.size := Nat.le_trans ge (Nat.le_of_lt lt)
    have noC : H c' = none := I.hok.fresh ge
    have J := inv_table (t' := tk) (more := #[rawInt pos.line, rawInt pos.col, .ref c']) (h' := h'.push (PySem.W.kla_obj "<lambda>" (X.env.qual ++ "<lambda>") params body scope (cloFrom X.env.cells scope.names []) ((X.mg "__name__").getD .none) c' ctv)) I tabP
      (fun b o hb e => Heap.get?_push_of_some _ (grow b o hb e)) (Heap.get?_push_of_some _ tab) ge ⟨oc, vs, t, Heap.get?_push_of_some _ hoc, hd, hv⟩
    have kept : Kept P H (upd (upd H P (.tbl (ps ++ #[rawInt pos.line, rawInt pos.col, .ref c']))) c' (CodeO c' (X.env.qual ++ "<lambda>"))) := fun b o hb e => by
      rw [upd_ne (ne_of_none e noC), upd_ne hb]
      exact e
    have nP : ∀ c0, H c0 = some (CodeO c0 (X.env.qual ++ "<lambda>")) → c0 ≠ P := fun c0 e z => by
      rw [z, tabP] at e
      exact codeO_ne _ (Option.some.inj e).symm
    refine h h'.objs.size c' _ ctv _ _ J kept ⟨ps ++ #[rawInt pos.line, rawInt pos.col, .ref c'], by rw [upd_ne (ne_of_none tabP noC), upd_same], by rw [show (ps ++ #[rawInt pos.line, rawInt pos.col, .ref c']).toList = ps.toList ++ [rawInt pos.line, rawInt pos.col, .ref c'] by simp]; exact PySem.TriplesOk_snoc _ _ _ _ trip, fun p' cv hcv => ?_⟩ big (Heap.get?_push_size _ rfl) ?_ (young _ big) upd_same
    · rw [show (ps ++ #[rawInt pos.line, rawInt pos.col, .ref c']).toList = ps.toList ++ [rawInt pos.line, rawInt pos.col, .ref c'] by simp] at hcv
      rcases among_app _ trip hcv with z | z
      · obtain ⟨c0, e1, e2⟩ := names p' cv z
        exact ⟨c0, e1, kept _ _ (nP c0 e2) e2⟩
      · exact ⟨c', z, upd_same⟩
    · rw [upd_ne (Nat.ne_of_gt lt), upd_ne (Nat.ne_of_gt (Nat.lt_of_lt_of_le (Heap.lt_size atP) big))]
      exact I.hok.fresh big
/-! the lambda handed in -/
structure LC where
  params : Arguments
  body : Expr
  scope : Scope
  qual : Str
abbrev LC.nf (L : LC) (cl : List (Str × Addr)) (c : Addr) : NF := ⟨"<lambda>", L.qual, L.params, [], L.scope, cl, c⟩
structure LaS (K : PySem.W.Frag) (L : LC) (prior : List Rat) (gains : List (List Rat)) (f : Addr) (H : Hp) : Prop where
  ex : ∃ (cl : List (Str × Addr)) (c : Addr) (pm ctv : Value) (Tr : Addr → Option Obj) (vP vG : V), H f = some (ExO f (lobj (L.nf cl c) L.body pm ctv)) ∧ H c = some (CodeO c L.qual) ∧ (∀ b o, Tr b = some o → H b = some (ExO b o)) ∧ Tr f = none ∧ Tr c = none ∧
    (∀ y b, cl.lookup y = some b → ∃ o v, Tr b = some o ∧ o.data = .cell v) ∧ (∀ x y b, cl.lookup x = some b → cl.lookup y = some b → x = y) ∧
    (∃ b o u, cl.lookup ("prior" : Str) = some b ∧ Tr b = some o ∧ o.data = .cell (some u) ∧ RelV vP u) ∧ (∃ b o u, cl.lookup ("gains" : Str) = some b ∧ Tr b = some o ∧ o.data = .cell (some u) ∧ RelV vG u) ∧ Rep K H (frs prior) vP ∧ Rep K H (gD gains) vG
def WeOk (prior : List Rat) (gains : List (List Rat)) (n : Nat) (ws : List Rat) : Prop := WOk ⟨prior, gains, ws, n⟩
def laV (prior : List Rat) (gains : List (List Rat)) (ws : List Rat) : Rat × D := ((amL (gains.map (deed prior ws))).1, stopD (amL (gains.map (deed prior ws))).2)
abbrev frN : List Str := ["prior", "gains"]
theorem la_stop {P : Program} {w : World} {K : PySem.W.Frag} {mg : Str → Option Value} {base : Heap} {k : Nat} {L : LC} {prior : List Rat} {gains : List (List Rat)} {n : Nat} (NS : NScope ["weights", "prior", "gains"] ["weights"] frN L.scope)
    (hb : ∀ cl c pm ctv u, bindArgs (PySem.W.kla_fn "<lambda>" L.qual L.params L.body L.scope cl pm (.ref c) ctv) ⟨[u], []⟩ = pure [(("weights" : Str), u)])
    (hbody : ∀ (cl : List (Str × Addr)) (c f : Addr) (A : Around) (outer : List Env) (s : Shared) (H : Hp), Room k (A.deeper (envF (L.nf cl c) f s.heap.objs.size)) → PE (ncx C8.CX0 P w K mg base ["weights", "prior", "gains"] (L.nf cl c) f A outer s H C8.E0) L.body (tCall (spBestDeed K) [] C8.E0 (tCons (tVar 1) (tCons (tVar 2) (tCons (tVar 0) tNil))))) :
    StopOk P w K mg base (k + 1) (LaS K L prior gains) (WeOk prior gains n) (laV prior gains) := by
  refine ⟨fun f H H' h e => ?_, fun X pins σ H s f hP hw hK hmg hbs I h => ?_, fun X pins σ H s f us wv ws Q hP hw hK hmg hbs hr I h r rp ok q => ?_⟩
  · obtain ⟨cl, c, pm, ctv, Tr, vP, vG, h1, h2, h3, h3f, h3c, h4, h5, h6, h7, h8, h9⟩ := h.ex
    exact ⟨cl, c, pm, ctv, Tr, vP, vG, e _ _ h1 trivial, e _ _ h2 trivial, fun b o z => e _ _ (h3 b o z) trivial, h3f, h3c, h4, h5, h6, h7, h8.to e, h9.to e⟩
  · obtain ⟨cl, c, pm, ctv, Tr, vP, vG, h1, _⟩ := h.ex
    exact ⟨_, _, _, _, (I.hok f _ h1).1⟩
  · obtain ⟨cl, c, pm, ctv, Tr, vP, vG, h1, h2, h3, h3f, h3c, h4, h5, ⟨b1, o1, u1, l1, t1, d1, r1⟩, ⟨b2, o2, u2, l2, t2, d2, r2⟩, h8, h9⟩ := h.ex
    subst hP hw hK hmg hbs
    have E := I.env0
    have get : ∀ b o, Tr b = some o → s.heap.get? b = some o := fun b o z => (I.hok b _ (h3 b o z)).1
    obtain ⟨u, rfl, ru⟩ : ∃ u, us = [u] ∧ RelV wv u := by
      cases r with
      | cons a b => cases b; exact ⟨_, rfl, a⟩
    have hc2 : utk H Tr c = some (CodeO c L.qual) := by rw [utk_no h3c]; exact h2
    have C : CellsAt (L.nf cl c).cl frN [some vP, some vG] s.heap (utk H Tr) := by
      refine ⟨rfl, fun y b e => ?_, h5, fun i y e => ?_⟩
      · obtain ⟨o, v, e1, e2⟩ := h4 y b e
        exact ⟨utk_at e1, v, o, get b o e1, e2⟩
      · match i, e with
        | 0, e => obtain rfl := Option.some.inj e; exact ⟨b1, l1, fun v hv => by cases hv; exact ⟨u1, r1, o1, get _ _ t1, d1⟩⟩
        | 1, e => obtain rfl := Option.some.inj e; exact ⟨b2, l2, fun v hv => by cases hv; exact ⟨u2, r2, o2, get _ _ t2, d2⟩⟩
        | i + 2, e => cases e
    have p8 := rep_utk h3 h8
    have p9 := rep_utk h3 h9
    have pw := rep_utk h3 rp
    have rc := lam_run (Q := fun v H' => Ex (utk H Tr) H' ∧ Rep X.K H' (.tup [fr (laV prior gains ws).1, (laV prior gains ws).2]) v) (E := C8.E0) (F := L.nf cl c) (e := L.body) (N := ["weights", "prior", "gains"]) (ps := ["weights"]) (fr := frN) (us := [u]) (vs := [wv]) (ws := [some vP, some vG]) NS (hb cl c pm ctv u) hr (env_utk E h3) (I.hok f _ h1).1 hc2 C (.cons ru .nil) rfl fun hr' => ⟨_, hbody cl c f X.A X.stack s (utk H Tr) hr', by
      have z : Ev (Ct.pure X.K (utk H Tr)) [some (.val (frs ws)), some (.val (frs prior)), some (.val (gD gains))] (tCall (spBestDeed X.K) [] C8.E0 (tCons (tVar 1) (tCons (tVar 2) (tCons (tVar 0) tNil)))) (Is (bestOut (gains.map (deed prior ws)))) :=
        ev_P (enc := fun x : WIn => [frs x.prior, gD x.gains, frs x.weights]) (pre := WOk) (out := fun x => bestOut x.vals) ⟨prior, gains, ws, n⟩ (ea_cons (ev_var rfl) (ea_cons (ev_var rfl) (ea_cons (ev_var rfl) ea_nil))) ok
      refine z _ _ _ ⟨Le.refl _ _, trivial, rfl, fun i e he => ?_⟩ fun v d H' hd l _ p => ?_
      · match i, he with
        | 0, he => obtain rfl := Option.some.inj (Option.some.inj he); exact ⟨wv, rfl, pw⟩
        | 1, he => obtain rfl := Option.some.inj (Option.some.inj he); exact ⟨vP, rfl, p8⟩
        | 2, he => obtain rfl := Option.some.inj (Option.some.inj he); exact ⟨vG, rfl, p9⟩
        | i + 3, he => cases he
      · rw [hd] at p
        exact ⟨l, p⟩⟩
    refine wpAny_call (codeAny_mono rc fun r s' hq => ?_)
    cases r with
    | error e => exact (show False from hq).elim
    | ok fl =>
      cases fl with
      | ret u' =>
        refine I.after (ce_trk E h3 hq fun v H' hn ⟨x, p⟩ => q v _ (Ex.of fun a o e => ?_) (rep_trk hn p))
        cases z : Tr a with
        | some ob => rw [trk_at z]; rw [h3 a ob z] at e; exact e
        | none => rw [trk_no z]; exact x.keep (by rw [utk_no z]; exact e)
      | next => exact False.elim hq
      | brk => exact False.elim hq
      | cont => exact False.elim hq
end Q3
namespace Q3
open PySem PySem.Spec PyProof.Rows L2
open LamX NdefX
/-! best_of, worth -/
open Classical in
/-- what the lambda's cells hold -/
noncomputable def cellTr (cl : List (Str × Addr)) (h : Heap) : Addr → Option Obj := fun b => if ∃ y, cl.lookup y = some b then h.get? b else none
def tBest (K : PySem.W.Frag) (q : Str) (P0 : Addr) (r : Nat) (t1 t2 : TE) : TE := fun σ H Q => t1 σ H fun v1 H1 => t2 σ H1 fun v2 H2 => TabS H2 P0 q ∧ ∃ (vP vG : V) (prior : List Rat) (gains : List (List Rat)) (n : Nat) (ws : List Rat) (t : T r), σ[1]? = some (some vP) ∧ σ[2]? = some (some vG) ∧ Rep K H2 (frs prior) vP ∧ Rep K H2 (gD gains) vG ∧ Rep K H2 (frs ws) v1 ∧ Rep K H2 (encT r t) v2 ∧ WeOk prior gains n ws ∧ AllO (WeOk prior gains n) r t ∧
  ∀ v H', Le [P0] H2 H' → TabS H' P0 q → Rep K H' (.tup [fr (bestT (laV prior gains) r ws t).1, (bestT (laV prior gains) r ws t).2]) v → Q v H'
theorem kept_le {P0 : Addr} {H H' : Hp} (h : Kept P0 H H') (q : ∃ ps ps', H P0 = some (.tbl ps) ∧ H' P0 = some (.tbl ps')) : Le [P0] H H' := fun a o e => by
  by_cases ha : a = P0
  · subst ha
    obtain ⟨ps, ps', e1, e2⟩ := q
    rw [e1] at e
    cases e
    exact ⟨_, e2, fun z => z.elim (fun z => z.elim) fun z => absurd List.mem_cons_self z⟩
  · exact ⟨o, h a o ha e, fun _ => rfl⟩
theorem tab_tbl {H : Hp} {P0 : Addr} {q : Str} (h : TabS H P0 q) : ∃ ps, H P0 = some (.tbl ps) := by
  obtain ⟨ps, h1, _⟩ := h
  exact ⟨ps, h1⟩
theorem pe_lam3 {X : Cx} {k j c P0 r : Nat} {x : Str} {e1 e2 : Expr} {t1 t2 : TE} {params : Arguments} {body : Expr} {scope : Scope} {p lpos pos : Pos} (hr : Room j X.A) (hk : k ≤ j)
    (cal : ∀ prior gains n, C8.Cal X.prog X.w X.K X.mg X.base k x (spTree X.K (LaS X.K ⟨params, body, scope, X.env.qual ++ "<lambda>"⟩ prior gains) (WeOk prior gains n) (laV prior gains) r) []) (hg : Gl X x) (h1 : PE X e1 t1) (h2 : PE X e2 t2)
    (TB : TabB X.base X.mg c P0) (hcode : X.env.code = .ref c) (hfn : ∀ y, X.fn y = true) (hdef : defaultsOf params X.env = ([], [])) (hfree : ∀ y ∈ scope.names, y.2 = .free → X.env.scope.names.lookup y.1 = some .cell ∨ X.env.scope.names.lookup y.1 = some .free) (hfr : ∀ y ∈ frN, (y, NameKind.free) ∈ scope.names)
    (hN : [1, 2].map (fun j => X.N[j]?) = frN.map some) (hdb : (x == ("__debug__" : Str)) = false := by decide)
    (he : starEach [e1, e2, .Lambda params body scope lpos] X.env = (false, eval e1 X.env) :: starEach [e2, .Lambda params body scope lpos] X.env := by rfl) (he2 : starEach [e2, .Lambda params body scope lpos] X.env = [(false, eval e2 X.env), (false, eval (.Lambda params body scope lpos) X.env)] := by rfl) (hpl : (backTo pos (starEach [e2, .Lambda params body scope lpos] X.env)).any (·.1) = false := by rfl) :
    PE X (.Call (.Name x p) [e1, e2, .Lambda params body scope lpos] [] pos) (tBest X.K (X.env.qual ++ "<lambda>") P0 r t1 t2) := by
  refine ⟨fun pins s σ H Q I h => ?_⟩
  obtain ⟨g, fd0, ps0, ds0, Fg0, hm, kp, b0, hd0⟩ := (cal [] [] 0).ex
  refine wpAny_Call_Name_kw (ld_glob I hg hm ?_ hdb)
  refine PySem.W.callWith_K (h₀ := X.base) I.ok.mod.kin kp ?_ he hpl
  rw [he, he2]
  show wpAny _ _ (spliced [(false, eval e1 X.env), (false, eval e2 X.env), (false, eval (.Lambda params body scope lpos) X.env)]) _ _ s
  refine Calls.spliced_cons (thn (h1.run pins s σ H _ I h) fun u1 s1 ⟨v1, H1, I1, r1, q1⟩ => ?_)
  refine Calls.spliced_cons (thn (h2.run pins s1 σ H1 _ I1 q1) fun u2 s2 ⟨v2, H2, I2, r2, hT, vP, vG, prior, gains, n, ws, t, g1, g2, p1, p2, p3, p4, ok, all, q⟩ => ?_)
  refine Calls.spliced_cons (lam_new I2 TB hcode hT hdef (fun y hy e => (hfree y hy e).elim (fun z => I2.ok.has _ (.inl z)) fun z => I2.ok.has _ (.inr z)) fun f c' pm ctv H3 s3 I3 kept T3 big hf hfn' hfr' hco => ?_)
  refine Calls.spliced_nil ⟨I3.kIn, ?_⟩
  obtain ⟨g', fd, ps, ds, Fg, hm', kp', b, hd⟩ := (cal prior gains n).ex
  have eg : g' = g := by
    rw [hm] at hm'
    exact (Value.ref.inj (Option.some.inj hm')).symm
  subst eg
  cases hd
  generalize hcl : cloFrom X.env.cells scope.names [] = cl at hf
  have caps : Caps X cl frN [1, 2] := by rw [← hcl]; exact Caps.made I3.ok hfree hfr hN
  have C := cells_of I3 caps
  have look : ∀ b o, cellTr cl s3.heap b = some o → (∃ y, cl.lookup y = some b) ∧ s3.heap.get? b = some o := fun b o e => by
    unfold cellTr at e
    split at e
    · exact ⟨‹_›, e⟩
    · cases e
  have isC : ∀ y b, cl.lookup y = some b → ∃ o v, cellTr cl s3.heap b = some o ∧ o.data = .cell v := fun y b e => by
    obtain ⟨_, v, o, e1, e2⟩ := C.all y b e
    refine ⟨o, v, ?_, e2⟩
    unfold cellTr
    rw [if_pos ⟨y, e⟩]
    exact e1
  have noC : ∀ b o, cellTr cl s3.heap b = some o → H3 b = none := fun b o e => by
    obtain ⟨⟨y, e1⟩, _⟩ := look b o e
    exact (C.all y b e1).1
  have cf : cellTr cl s3.heap f = none := by
    cases e : cellTr cl s3.heap f with
    | none => rfl
    | some o =>
      obtain ⟨⟨y, e1⟩, e2⟩ := look f o e
      obtain ⟨o', v, e3, e4⟩ := isC y f e1
      rw [e] at e3
      cases e3
      rw [hf] at e2
      cases e2
      cases e4
  have cc : cellTr cl s3.heap c' = none := by
    cases e : cellTr cl s3.heap c' with
    | none => rfl
    | some o =>
      have z := noC c' o e
      rw [hco] at z
      cases z
  obtain ⟨Tr, hTr⟩ : ∃ Tr : Addr → Option Obj, ∀ b, Tr b = if b = f then s3.heap.get? f else cellTr cl s3.heap b := ⟨_, fun _ => rfl⟩
  have tf : Tr f = s3.heap.get? f := by rw [hTr, if_pos rfl]
  have tc : ∀ b o, cellTr cl s3.heap b = some o → Tr b = some o := fun b o e => by
    rw [hTr, if_neg (fun z => by rw [z, cf] at e; cases e)]
    exact e
  have ht : ∀ b o, Tr b = some o → s3.heap.get? b = some o ∧ H3 b = none ∧ X.base.get? b = none ∧ b ∉ L2.frs X.stack := fun b o e => by
    have bsz : X.base.objs.size ≤ s2.heap.objs.size := Nat.le_trans I2.ok.bsz I2.sz
    have nb : ∀ b, X.base.objs.size ≤ b → X.base.get? b = none := fun b hb => by
      cases z : X.base.get? b with
      | none => rfl
      | some o => exact absurd (Nat.lt_of_lt_of_le (Heap.lt_size z) hb) (Nat.lt_irrefl _)
    rw [hTr] at e
    by_cases hb : b = f
    · rw [if_pos hb] at e
      subst hb
      exact ⟨e, hfn', nb _ (Nat.le_trans bsz big), hfr'⟩
    · rw [if_neg hb] at e
      obtain ⟨⟨y, e1⟩, e2⟩ := look b o e
      have cy := caps.sub y b e1
      have ab := I3.ok.cab y b (hfn y) cy
      refine ⟨e2, noC b o e, nb _ (Nat.le_trans I3.ok.bsz ab), fun z => ?_⟩
      rcases List.mem_cons.mp (I3.stkSub b z) with z | z
      · exact I3.cne y b cy z
      · obtain ⟨_, o', ho', _⟩ := I3.ok.funs.mem z
        exact absurd (Nat.lt_of_lt_of_le (Heap.lt_size ho') ab) (Nat.lt_irrefl _)
  have hn3 : ∀ b o, Tr b = some o → H3 b = none := fun b o e => (ht b o e).2.1
  have sq3 : ∀ a xs, SqT X.K H2 a xs → SqT X.K H3 a xs := fun a xs h => by
    have np : ∀ o, H2 a = some o → (∀ ps, o ≠ .tbl ps) → a ≠ P0 := fun o e n z => by
      obtain ⟨ps, e2⟩ := (tab_tbl hT)
      rw [z, e2] at e
      exact n ps (Option.some.inj e).symm
    rcases h with (h | ⟨o, h⟩) | h
    · exact .inl (.inl (kept _ _ (np _ h fun ps z => by cases z) h))
    · exact .inl (.inr ⟨o, kept _ _ (np _ h fun ps z => by cases z) h⟩)
    · exact .inr h
  have p1 := rep_trk hn3 (Rep.seq sq3 _ _ p1)
  have p2 := rep_trk hn3 (Rep.seq sq3 _ _ p2)
  have p3 := rep_trk hn3 (Rep.seq sq3 _ _ p3)
  have p4 := rep_trk hn3 (Rep.seq sq3 _ _ p4)
  have cell : ∀ (i : Nat) (y : Str) (v : V), frN[i]? = some y → ([1, 2].map (slotAt σ))[i]? = some (some v) → ∃ b o u, cl.lookup y = some b ∧ cellTr cl s3.heap b = some o ∧ o.data = .cell (some u) ∧ RelV v u := fun i y v h1 h2 => by
    obtain ⟨b, e1, e2⟩ := C.has i y h1
    obtain ⟨u, ru, o, e3, e4⟩ := e2 v h2
    refine ⟨b, o, u, e1, ?_, e4, ru⟩
    unfold cellTr
    rw [if_pos ⟨y, e1⟩]
    exact e3
  have S : LaS X.K ⟨params, body, scope, X.env.qual ++ "<lambda>"⟩ prior gains f (trk H3 Tr) := ⟨cl, c', pm, ctv, cellTr cl s3.heap, vP, vG, by rw [trk_at (tf.trans hf)], trk_of hn3 hco, fun b o e => trk_at (tc b o e), cf, cc, isC, C.inj,
    cell 0 "prior" vP rfl (by show some (slotAt σ 1) = _; rw [slotAt_of g1]), cell 1 "gains" vG rfl (by show some (slotAt σ 2) = _; rw [slotAt_of g2]), p1, p2⟩
  generalize hout : D.tup [fr (bestT (laV prior gains) r ws t).1, (bestT (laV prior gains) r ws t).2] = out at q
  have rc : codeAny (model X.prog X.w) X.A (.call (.ref g') ⟨[u1, u2, .ref f], []⟩) (CR C8.CX0 X.stack X.prog X.w (trk H3 Tr) s3 (fun v H' => Ex (trk H3 Tr) H' ∧ Rep X.K H' out v) C8.E0) s3 := by
    have hsp : spTree X.K (LaS X.K ⟨params, body, scope, X.env.qual ++ "<lambda>"⟩ prior gains) (WeOk prior gains n) (laV prior gains) r ([v1, v2, .ref f] ++ []) (trk H3 Tr) (fun v H' => Ex (trk H3 Tr) H' ∧ Rep X.K H' out v) C8.E0 := ⟨ws, t, f, .cons p3 (.cons p4 (.cons rfl .nil)), S, ok, all, fun v H' x rv => ⟨x, by rw [← hout]; exact rv⟩⟩
    have rv : Vals ([v1, v2, .ref f] ++ []) ([u1, u2, .ref f] ++ []) := .cons r1 (.cons r2 (.cons rfl .nil))
    have hl : ([u1, u2, .ref f] ++ []).length = ps.length := by rw [← rv.length]; exact Fg.len _ _ _ _ hsp
    exact Fg.run X.A X.stack s3 (trk H3 Tr) ⟨[u1, u2, .ref f], []⟩ ([u1, u2, .ref f] ++ []) ([v1, v2, .ref f] ++ []) _ C8.E0 (hr.mono hk) (env_trk I3.env0 ht) (b s3 [u1, u2, .ref f] I3.kIn hl) rv hsp
  refine wpAny_call (codeAny_mono rc fun r s' hq => ?_)
  cases r with
  | error e => exact (show False from hq).elim
  | ok fl =>
    cases fl with
    | ret u' =>
      refine I3.after (ce_utk (fun b o e => ⟨(ht b o e).1, (ht b o e).2.1⟩) hq fun v H' hx ⟨x, rp⟩ => ?_)
      have keep3 : ∀ a o, H3 a = some o → utk H' Tr a = some o := fun a o e => by
        have z : Tr a = none := by
          cases z : Tr a with
          | none => rfl
          | some ob => rw [hn3 a ob z] at e; cases e
        rw [utk_no z]
        exact x.keep (trk_of hn3 e)
      obtain ⟨ps2, e2⟩ := (tab_tbl hT)
      obtain ⟨ps3, e3⟩ := (tab_tbl T3)
      exact q v _ (kept_le (fun a o ha e => keep3 a o (kept a o ha e)) ⟨ps2, ps3, e2, keep3 _ _ e3⟩) (T3.ext keep3) (rep_utk hx rp)
    | next => exact False.elim hq
    | brk => exact False.elim hq
    | cont => exact False.elim hq
end Q3
namespace Q3
open PySem PySem.Spec PyProof.Rows L2
open LamX NdefX
def lamQ : Str := ("best_of" : Str) ++ ".<locals>." ++ "<lambda>"
def bestLC : LC := match C8.fnBody s_best_of with
  | [_, _, .Return (some (.Call _ [_, _, .Lambda ps b sc _] _ _)) _] => ⟨ps, b, sc, ("best_of" : Str) ++ ".<locals>." ++ "<lambda>"⟩
  | _ => ⟨C8.fnArgs s_best_of, .Name "x" ⟨0, 0, 0, 0⟩, C8.fnScope s_best_of, "x"⟩
theorem best_ns : NScope ["weights", "prior", "gains"] ["weights"] frN bestLC.scope := nscope_by (by decide +kernel)
theorem best_freeB : (bestLC.scope.names.all fun y => !decide (y.2 = .free) || decide ((C8.fnScope s_best_of).names.lookup y.1 = some .cell)) = true := by decide +kernel
theorem best_free : ∀ y ∈ bestLC.scope.names, y.2 = .free → (C8.fnScope s_best_of).names.lookup y.1 = some .cell ∨ (C8.fnScope s_best_of).names.lookup y.1 = some .free := fun y hy e => by
  have z := List.all_eq_true.mp best_freeB y hy
  rw [Bool.or_eq_true, Bool.not_eq_true', decide_eq_false_iff_not, decide_eq_true_eq] at z
  exact z.elim (fun z => absurd e z) .inl
theorem best_fr : ∀ y ∈ frN, (y, NameKind.free) ∈ bestLC.scope.names := by decide +kernel
theorem laV_sz {prior : List Rat} {gains : List (List Rat)} {n : Nat} (w : List Rat) (h : WeOk prior gains n w) : Sz 101 (laV prior gains w).1 := by
  have h : WOk ⟨prior, gains, w, n⟩ := h
  show Sz 101 (amL (gains.map (deed prior w))).1
  rw [amL_val]
  exact mostL_sz h.vals (by decide)
section
variable {P : Program} {w : World} {K : PySem.W.Frag} {mg : Str → Option Value} {base : Heap} {aN aO aH : Addr}
theorem best_la (c_best_deed : C8.Cal P w K mg base 6 "best_deed" (spBestDeed K) []) (prior : List Rat) (gains : List (List Rat)) (n : Nat) : StopOk P w K mg base 7 (LaS K bestLC prior gains) (WeOk prior gains n) (laV prior gains) :=
  la_stop best_ns (fun cl c pm ctv u => rfl) fun cl c f A outer s H hr => C8.pe_c c_best_deed hr (by decide) rfl (pa_cons (pv 1) (pa_cons (pv 2) (pa_cons (pv 0) pa_nil)))
theorem best_trees (T : Txt K mg aN aO aH) (d : Df K mg "best_at" s_best_at ["weights", "node", "stopping"]) (c_best_deed : C8.Cal P w K mg base 6 "best_deed" (spBestDeed K) []) (c_total : C8.Cal P w K mg base 4 "total" (spTotal K) []) (c_is_below : C8.Cal P w K mg base 1 "is_below" (spBelow K) [])
    (r : Nat) (hr : r ≤ 3) (prior : List Rat) (gains : List (List Rat)) (n : Nat) : C8.Cal P w K mg base 11 "best_at" (spTree K (LaS K bestLC prior gains) (WeOk prior gains n) (laV prior gains) r) [] :=
  Df.cup (cal_tree (b := 101) (j := 7) T d (best_la c_best_deed prior gains n) (Nat.le_refl _) (by decide) (fun w h => laV_sz w h) c_total c_is_below (by decide) r (by
    match r, hr with
    | 0, _ => decide
    | 1, _ => decide
    | 2, _ => decide
    | 3, _ => decide)) (by omega)
theorem guess_trees (T : Txt K mg aN aO aH) (d : Df K mg "best_at" s_best_at ["weights", "node", "stopping"]) (dg : Df K mg "guessing" s_guessing ["weights"]) (c : C8.Cal P w K mg base 2 "guessing" (spGuess K) []) (c_total : C8.Cal P w K mg base 4 "total" (spTotal K) []) (c_is_below : C8.Cal P w K mg base 1 "is_below" (spBelow K) [])
    (r : Nat) (hr : r ≤ 3) : C8.Cal P w K mg base 8 "best_at" (spTree K (guS mg) GuOk guV r) [] :=
  Df.cup (cal_tree (b := 14) (j := 4) T d (guess_stop dg c) (by decide) (by decide) (fun w h => by
      show Sz 14 (amL w).1
      rw [amL_val]
      exact mostL_sz h.sz (by decide)) c_total c_is_below (by decide) r (by
    match r, hr with
    | 0, _ => decide
    | 1, _ => decide
    | 2, _ => decide
    | 3, _ => decide)) (by omega)
/-! a def whose code object is known -/
structure DfC (K : PySem.W.Frag) (mg : Str → Option Value) (x : Str) (st : Stmt) (ps : List Str) (c : Addr) : Prop where
  ex : ∃ (f : Addr) (oc : Value) (od : Option Addr) (dV kV doc pm : Value) (an : Option Addr) (ct : Value) (osl : Array (Option Value)), K.lookup f = some ⟨oc, od, .func (PySem.W.fnOf x x (C8.fnArgs st) (C8.fnBody st) (C8.fnScope st) dV kV doc pm an (.ref c) ct), osl⟩ ∧ PySem.W.codeIn K (.ref c) x = true ∧
    mg x = some (.ref f) ∧ PySem.W.keepIn K (.ref f) = true ∧ Binds K (PySem.W.fnOf x x (C8.fnArgs st) (C8.fnBody st) (C8.fnScope st) dV kV doc pm an (.ref c) ct) ps []
theorem DfC.cal {x : Str} {st : Stmt} {N ps : List Str} {k : Nat} {sp : Sp} {c : Addr} (d : DfC K mg x st ps c) (S : FnScope N ps (C8.fnScope st)) (len : ∀ vs H Q E, sp vs H Q E → vs.length = ps.length)
    (hbody : ∀ (f : Addr) (A : Around) (outer : List Env) (s : Shared) (H : Hp) (vs : List V) (Q : VK) (E : XK), Room k (A.deeper (envOfC x (C8.fnScope st) s.heap.objs.size f (.ref c))) → sp vs H Q E →
      ∃ t, PSs (cxOf C8.CX0 P w K mg base N x (C8.fnScope st) f (.ref c) A outer s H E).nox (C8.fnBody st) t ∧ t { nx := fun _ H' => Q .non H', rt := Q } (L2.start N vs) H) : C8.Cal P w K mg base (k + 1) x sp [] := by
  obtain ⟨f, oc, od, dV, kV, doc, pm, an, ct, osl, lk, hcd, hm, kp, b⟩ := d.ex
  exact ⟨f, _, ps, [], fn_of lk hcd S len fun A outer s H vs Q E hr h => by
    obtain ⟨t, ht, q⟩ := hbody f A outer s H vs Q E hr h
    exact ⟨t, ht.nox, q⟩, hm, kp, b, .nil⟩
/-! the context in which a table grows -/
def tabC (K : PySem.W.Frag) (P0 : Addr) (q : Str) (H0 : Hp) (h : TabS H0 P0 q) : Ct := ⟨K, [P0], H0, fun H => TabS H P0 q, fun H H' i e => by
    obtain ⟨ps, h1, h2, h3⟩ := i
    obtain ⟨ps0, e0⟩ := tab_tbl h
    exact ⟨ps, e _ _ h1 (.inl (by rw [e0]; exact fun z => nomatch z)), h2, fun pos cv hc => by
      obtain ⟨c, e1, e2⟩ := h3 pos cv hc
      exact ⟨c, e1, e _ _ e2 (.inr trivial)⟩⟩, fun b hb => by
    obtain ⟨ps0, e0⟩ := tab_tbl h
    rw [List.mem_singleton.mp hb, e0]
    exact fun z => nomatch z⟩
theorem ev_best {nm : Nm} {P0 : Addr} {q : Str} {H0 : Hp} {h : TabS H0 P0 q} {r n : Nat} {t1 t2 : TE} {prior : List Rat} {gains : List (List Rat)} {ws : List Rat} {t : T r} (n1 : nm[1]? = some (some (.val (frs prior)))) (n2 : nm[2]? = some (some (.val (gD gains)))) (h1 : Ev (tabC K P0 q H0 h) nm t1 (Is (frs ws))) (h2 : Ev (tabC K P0 q H0 h) nm t2 (Is (encT r t)))
    (ok : WeOk prior gains n ws) (all : AllO (WeOk prior gains n) r t) : Ev (tabC K P0 q H0 h) nm (tBest K q P0 r t1 t2) (Is (.tup [fr (bestT (laV prior gains) r ws t).1, (bestT (laV prior gains) r ws t).2])) := fun σ H Q S qq =>
  h1 σ H _ S fun v1 d1 H1 e1 l1 i1 p1 => h2 σ H1 _ (S.step l1 i1) fun v2 d2 H2 e2 l2 i2 p2 => by
    rw [e1] at p1
    rw [e2] at p2
    have S2 := (S.step l1 i1).step l2 i2
    obtain ⟨vP, g1, rP⟩ := S2.val n1
    obtain ⟨vG, g2, rG⟩ := S2.val n2
    exact ⟨i2, vP, vG, prior, gains, n, ws, t, g1, g2, rP, rG, p1.to l2.fx, p2, ok, all, fun v H' l i p => qq v _ H' rfl (l1.trans (l2.trans l)) i p⟩
/-! best_of, worth -/
structure BestIn (r : Nat) where
  W : Nat
  t : T r
  prior : List Rat
  gains : List (List Rat)
structure BestOk {r : Nat} (x : BestIn r) : Prop where
  p : PriorOk x.W x.prior
  g : GainsOk x.W x.gains
  all : AllO (WeOk x.prior x.gains x.W) r x.t
def spBest (K : PySem.W.Frag) (aH P0 : Addr) (q : Str) (r : Nat) (out : BestIn r → D) : Sp := fun vs H Q _ => ∃ (x : BestIn r) (a : Addr), RepL K H [.sc (.ref a), frs x.prior, gD x.gains] vs ∧ HouseAt K aH H a x.W r x.t ∧ BestOk x ∧ TabS H P0 q ∧ ∀ v H', Le [P0] H H' → TabS H' P0 q → Rep K H' (out x) v → Q v H'
def bestV {r : Nat} (x : BestIn r) : Rat × D := bestT (laV x.prior x.gains) r (ones x.W) x.t
theorem cal_best_of {r : Nat} {c P0 : Addr} (T : Txt K mg aN aO aH) (hH : HCls K aH) (d : DfC K mg "best_of" s_best_of ["house", "prior", "gains"] c) (TB : TabB base mg c P0) (c_check_prior : C8.Cal P w K mg base 6 "check_prior" (spChkPrior K) []) (c_check_gains : C8.Cal P w K mg base 4 "check_gains" (spChkGains K) [])
    (cT : ∀ prior gains n, C8.Cal P w K mg base 11 "best_at" (spTree K (LaS K bestLC prior gains) (WeOk prior gains n) (laV prior gains) r) []) : C8.Cal P w K mg base 12 "best_of" (spBest K aH P0 lamQ r fun x => .tup [fr (bestV x).1, (bestV x).2]) [] := by
  refine d.cal sc_best_of (fun vs H Q E h => by obtain ⟨_, _, r, _⟩ := h; rw [r.len]; rfl) fun f A outer s H vs Q E hr h => ?_
  refine ⟨_, (pss_cons (ps_expr (C8.pe_c c_check_prior hr (by decide) rfl (pa_cons (kFld (K := K) rfl (pv 0) rfl) (pa_cons (pv 1) pa_nil))))
      (pss_cons (ps_expr (C8.pe_c c_check_gains hr (by decide) rfl (pa_cons (kFld (K := K) rfl (pv 0) rfl) (pa_cons (pv 2) pa_nil))))
      (pss_one (ps_ret (pe_lam3 (j := 11) hr (Nat.le_refl _) cT rfl (pe_op (kRep (K := K) rfl) (pe_tup (pa_cons (pe_glob (v := .ref aO) rfl T.ONE rfl) pa_nil)) (kFld (K := K) rfl (pv 0) rfl)) (kFld (K := K) rfl (pv 0) rfl) TB rfl (fun _ => rfl) rfl best_free best_fr rfl))))), ?_⟩
  obtain ⟨x, a, rp, hh, ok, tb, q⟩ := h
  have hw : WOk ⟨x.prior, x.gains, ones x.W, x.W⟩ := (UOk.wi (x := ⟨x.prior, x.gains, x.W⟩) ⟨ok.p, ok.g⟩)
  refine (?_ : Es (tabC K P0 lamQ H tb) (nm0 3 [.sc (.ref a), frs x.prior, gD x.gains]) _ (fun _ => False) (Is (.tup [fr (bestV x).1, (bestV x).2]))) _ H _ (sr0 (N := ["house", "prior", "gains"]) rp |> fun S => ⟨Le.refl _ _, tb, S.len, S.at_⟩) (fun _ _ _ hn _ _ => hn.elim) fun v d H' rd l i p => q v H' l i (by
    have rd : d = _ := rd
    subst rd
    exact p)
  refine es_seq (N1 := fun nm' => nm' = nm0 3 [.sc (.ref a), frs x.prior, gD x.gains]) (es_drop (ev_P (C := tabC K P0 lamQ H tb) (x.W, x.prior) (ea_cons (ev_worlds (C := tabC K P0 lamQ H tb) hH hh (ev_var rfl)) (ea_cons (ev_var rfl) ea_nil)) ok.p) rfl) ?_
  rintro nm' rfl
  refine es_seq (N1 := fun nm' => nm' = nm0 3 [.sc (.ref a), frs x.prior, gD x.gains]) (es_drop (ev_P (C := tabC K P0 lamQ H tb) (x.W, x.gains) (ea_cons (ev_worlds (C := tabC K P0 lamQ H tb) hH hh (ev_var rfl)) (ea_cons (ev_var rfl) ea_nil)) ⟨ok.g, by show x.W ≤ 5; have := ok.p.n5; omega⟩) rfl) ?_
  rintro nm' rfl
  exact es_ret (ev_best rfl rfl (ev_ones (C := tabC K P0 lamQ H tb) (.tup (T.oT H) (.cons rfl (.cons rfl .nil))) (ev_worlds (C := tabC K P0 lamQ H tb) hH hh (ev_var rfl)) ok.p.n1 (by have := ok.p.n5; omega)) (ev_tree (C := tabC K P0 lamQ H tb) hH hh (ev_var rfl)) hw ok.all)
theorem cal_worth {r : Nat} {P0 : Addr} (d : Df K mg "worth" s_worth ["house", "prior", "gains"]) (c_best_of : C8.Cal P w K mg base 12 "best_of" (spBest K aH P0 lamQ r fun x => .tup [fr (bestV x).1, (bestV x).2]) []) : C8.Cal P w K mg base 13 "worth" (spBest K aH P0 lamQ r fun x => fr (bestV x).1) [] := by
  refine d.cal sc_worth (fun vs H Q E h => by obtain ⟨_, _, r, _⟩ := h; rw [r.len]; rfl) fun f cdv A outer s H vs Q E hr h => ?_
  refine ⟨_, (pss_one (ps_ret (pe_ix (kIxT (K := K) rfl) (C8.pe_c c_best_of hr (by decide) rfl (pa_cons (pv 0) (pa_cons (pv 1) (pa_cons (pv 2) pa_nil)))) pe_int (fun _ _ => rfl)))), ?_⟩
  obtain ⟨x, a, rp, hh, ok, tb, q⟩ := h
  refine (?_ : Es (tabC K P0 lamQ H tb) (nm0 3 [.sc (.ref a), frs x.prior, gD x.gains]) _ (fun _ => False) (Is (fr (bestV x).1))) _ H _ (sr0 (N := ["house", "prior", "gains"]) rp |> fun S => ⟨Le.refl _ _, tb, S.len, S.at_⟩) (fun _ _ _ hn _ _ => hn.elim) fun v d H' rd l i p => q v H' l i (by
    have rd : d = _ := rd
    subst rd
    exact p)
  refine es_ret (ev_ixc (C := tabC K P0 lamQ H tb) 0 (ev_callF (C := tabC K P0 lamQ H tb) (R := Is (.tup [fr (bestV x).1, (bestV x).2])) (ea_cons (ev_var rfl) (ea_cons (ev_var rfl) (ea_cons (ev_var rfl) ea_nil))) fun H1 vs1 Q1 l i p q1 => ?_) rfl)
  exact ⟨x, a, by rw [List.append_nil]; exact p, hh.to l.fx, ok, i, fun v H' l' i' rv => q1 v _ H' rfl l' i' rv⟩
end
end Q3
namespace Q3
open PySem PySem.Spec PyProof.Rows L2
/-! the law's own sums over a tree -/
theorem mostL_app {a : Rat} {as bs : List Rat} : mostL (a :: as ++ bs) = most (mostL (a :: as)) bs := by
  show most a (as ++ bs) = most (most a as) bs
  rw [most_append]
theorem mostL_app' {as bs : List Rat} (h : as ≠ []) : mostL (as ++ bs) = most (mostL as) bs := by
  cases as with
  | nil => exact absurd rfl h
  | cons a as => exact mostL_app
theorem bestT_guess : ∀ (r : Nat) (w : List Rat) (t : T r), (bestT guV r w t).1 = luck r w t
  | 0, w, t => amL_val
  | r + 1, w, t => by
    show (bsf (guV w).1 (guV w).2 0 ((qs t).map (ask1 (fun a : An r => bestT guV r a.2.1 a.2.2)))).1 = most (mostL w) ((qs t).map fun q => tot (q.map fun a => luck r a.2.1 a.2.2))
    rw [bsf_val, List.map_map, show (guV w).1 = mostL w from amL_val]
    congr 1
    refine List.map_congr_left fun q _ => ?_
    show tot (q.map fun a => (bestT guV r a.2.1 a.2.2).1) = _
    congr 1
    exact List.map_congr_left fun a _ => bestT_guess r a.2.1 a.2.2
theorem bestT_worth {prior : List Rat} {gains : List (List Rat)} : ∀ (r : Nat) (w : List Rat) (t : T r), (bestT (laV prior gains) r w t).1 = worth prior gains r w t
  | 0, w, t => amL_val
  | r + 1, w, t => by
    show (bsf (laV prior gains w).1 (laV prior gains w).2 0 ((qs t).map (ask1 (fun a : An r => bestT (laV prior gains) r a.2.1 a.2.2)))).1 = most (mostL (gains.map (deed prior w))) ((qs t).map fun q => tot (q.map fun a => worth prior gains r a.2.1 a.2.2))
    rw [bsf_val, List.map_map, show (laV prior gains w).1 = mostL (gains.map (deed prior w)) from amL_val]
    congr 1
    refine List.map_congr_left fun q _ => ?_
    show tot (q.map fun a => (bestT (laV prior gains) r a.2.1 a.2.2).1) = _
    congr 1
    exact List.map_congr_left fun a _ => bestT_worth r a.2.1 a.2.2
section
variable {P : Program} {w : World} {K : PySem.W.Frag} {mg : Str → Option Value} {base : Heap} {aN aO aH : Addr}
abbrev spLInt (K : PySem.W.Frag) : Sp := spP K (fun x : Int × Int × Int => [.i x.1, .i x.2.1, .i x.2.2]) (fun _ => True) (fun x => .b (decide (x.2.1 ≤ x.1) && decide (x.1 ≤ x.2.2)))
theorem cal_law_int (T : Txt K mg aN aO aH) (d : Df K mg "_law_int" s__law_int ["_law_thing", "_law_least", "_law_most_here"]) : C8.Cal P w K mg base 1 "_law_int" (spLInt K) [] := by
  refine d.cal sc__law_int (fun vs H Q E h => spP_len (fun _ => rfl) h) fun f cdv A outer s H vs Q E hr h => ?_
  refine ⟨_, (pss_one (ps_ret (pe_and (pe_callB (kIsi (K := K) rfl) (by rfl) T.isinstanceZ (by decide +kernel) (pa_cons (pv 0) (pa_cons (pe_bltn (v := .ty "int") (u := .type "int") (by rfl) T.intZ (by decide +kernel) rfl) pa_nil))) (pe_and (pe_not (pe_callB (kIsi (K := K) rfl) (by rfl) T.isinstanceZ (by decide +kernel) (pa_cons (pv 0) (pa_cons (pe_bltn (v := .ty "bool") (u := .type "bool") (by rfl) T.boolZ (by decide +kernel) rfl) pa_nil)))) (pe_one (pe_chain op_le op_le (pv 1) (pv 0) (pv 2))))))), spP_body h fun x _ => ?_⟩
  exact es_ret (ev_and (a := true) (ev_isi (t := "int") (ev_var rfl) ev_c tyx_int (by decide +kernel)) (fun _ => ev_and (a := true) (ev_not (a := false) (ev_isi (t := "int") (ev_var rfl) ev_c tyx_int (by decide +kernel))) (fun _ => ev_chain (ev_var rfl) (ev_var rfl) (ev_var rfl)) rfl) rfl)
variable {Ch : Type} (word sub : Ch → D) (wt : Ch → List Rat) (val : Ch → Rat × D)
/-- what a node's questions are worth -/
def nodeV (m : Rat) (qL : List (List Ch)) : List Rat := m :: qL.map fun q => tot (q.map fun a => (val a).1)
theorem ev_children {C : Ct} {nm : Nm} {E : XK} {k v : Nat} {n : Nat} {q : List Ch} {te : TE} (hq : nm[k]? = some (some (.val (.tup (q.map (encCh word sub wt)))))) (h3 : q.length ≤ 3) (hn : n ≤ 1300) (hz : ∀ a ∈ q, Sz n (val a).1)
    (he : ∀ a ∈ q, ∀ nm', nm' = (wipeN nm [v]).set v (some (.val (encCh word sub wt a))) → Ev C nm' te (Is (fr (val a).1))) : Ev C nm (tCall (spTotal C.K) [] E (tCons (tLc (iTup C.K (tVar k)) (gName v) tYes te [v]) tNil)) (Is (fr (tot (q.map fun a => (val a).1)))) := by
  refine ev_Q (enc := fun x : NL => x.2.map fr) (pre := NLok) (out := fun x => fr (tot x.2)) (n, q.map fun a => (val a).1) (el_lc (ei_tup (ds := q.map (encCh word sub wt)) (ev_var hq)) trivial (by rw [List.length_map]; omega) (fun i acc => acc = ((q.take i).map fun a => (val a).1).map fr) rfl (fun i d acc hd hacc => ?_) fun acc hacc => ?_) ⟨fun x hx => ?_, ?_⟩
  · rw [List.getElem?_map] at hd
    cases hqa : q[i]? with
    | none => rw [hqa] at hd; cases hd
    | some ch =>
    rw [hqa] at hd
    obtain rfl := Option.some.inj hd
    refine ⟨_, _, eg_name, by simp, (he ch (List.mem_of_getElem? hqa) _ rfl).imp fun x hx => ?_⟩
    rw [hacc, hx, List.take_add_one, hqa, List.map_append, List.map_append]
    rfl
  · rw [hacc, List.length_map, List.take_length]
  · obtain ⟨a, ha, rfl⟩ := List.mem_map.mp hx
    exact hz a ha
  · show 1 + (q.map fun a => (val a).1).length * (n + 1) ≤ 4000
    rw [List.length_map]
    have h5 : q.length * (n + 1) ≤ 3 * (n + 1) := Nat.mul_le_mul_right _ h3
    omega
theorem nodeV_sz {okC : Ch → Prop} {n : Nat} {m : Rat} {qL : List (List Ch)} (hm : Sz 4000 m) (hN : NodeOk val okC n qL) : ∀ x ∈ nodeV val m qL, Sz 4000 x := fun x hx => by
  rcases List.mem_cons.mp hx with rfl | hx
  · exact hm
  · obtain ⟨q', hq', rfl⟩ := List.mem_map.mp hx
    obtain ⟨l3, al⟩ := hN.ok q' hq'
    have z := tot3_sz (n := n) (xs := q'.map fun a => (val a).1) (fun x hx => by obtain ⟨a, ha, rfl⟩ := List.mem_map.mp hx; exact (al a ha).2) (by rw [List.length_map]; exact l3)
    exact z.mono (by have := hN.hn; omega)
theorem take_snoc {α β : Type} {f : α → β} {l : List α} {i : Nat} {a : α} (h : l[i]? = some a) : (l.take (i + 1)).map f = (l.take i).map f ++ [f a] := by
  rw [List.take_add_one, h, List.map_append]
  rfl
def spLLn (K : PySem.W.Frag) (okC : Ch → Prop) (n : Nat) : Sp := fun vs H Q _ => ∃ (ws : List Rat) (qL : List (List Ch)), RepL K H [frs ws, encNode word sub wt qL] vs ∧ GuOk ws ∧ NodeOk val okC n qL ∧ ∀ v H', Ex H H' → Rep K H' (fr (mostL (nodeV val (mostL ws) qL))) v → Q v H'
theorem cal_law_luckN {j : Nat} {okC : Ch → Prop} {n : Nat} {prev : Sp} (T : Txt K mg aN aO aH) (d : Df K mg "_law_luck" s__law_luck ["_law_weights", "_law_node_here"]) (h4 : 4 ≤ j) (c__law_luck : C8.Cal P w K mg base j "_law_luck" prev [])
    (hprev : ∀ (C : Ct) (a : Ch), C.K = K → okC a → Rc C (fun vs H Q => prev (vs ++ []) H Q C8.E0) [frs (wt a), sub a] (Is (fr (val a).1)))
    (c__law_total : C8.Cal P w K mg base 4 "_law_total" (spTotal K) []) (c__law_most : C8.Cal P w K mg base 2 "_law_most" (spMost K) []) : C8.Cal P w K mg base (j + 1) "_law_luck" (spLLn word sub wt val K okC n) [] := by
  refine d.cal sc__law_luck (fun vs H Q E h => by obtain ⟨_, _, r, _⟩ := h; rw [r.len]; rfl) fun f cdv A outer s H vs Q E hr h => ?_
  obtain ⟨ws, qL, r, hok, hN, q⟩ := h
  have hj2 : 2 ≤ j := by omega
  refine ⟨_, (pss_cons (ps_set (i := 2) sc__law_luck.nd rfl (Or.inl rfl) (pe_lst (pa_cons (C8.pe_c c__law_most hr hj2 rfl (pa_cons (pe_callTy (kList (K := K) rfl rfl) (by rfl) T.listZ (by decide +kernel) (pa_cons (pv 0) pa_nil)) pa_nil)) pa_nil)))
      (pss_cons (ps_for PassesOwn.never rfl (kPiT (K := K) rfl (pv 1)) (pg_name (i := 3) sc__law_luck.nd rfl (Or.inl rfl)) (pss_one (ps_expr (pe_bm PySem.F.plainAttrs_list PySem.F.slot_list_append PySem.F.type_list_append mt_append (pv 2) (pa_cons (C8.pe_c c__law_total hr h4 rfl (pa_cons (pe_lc rfl sc__law_luck.nd (own := [("_law_answer", 4)]) (g := (gName 4)) (tt := tYes) (kPiT (K := K) rfl (pv 3)) (blkOk_by (by kernel_rfl)) (fun _ _ _ _ _ => (pg_name (i := 4) sc__law_luck.nd rfl (Or.inl rfl))) (fun _ _ _ _ _ => pts_nil) (fun _ _ _ _ _ => (C8.pe_c c__law_luck hr (Nat.le_refl _) rfl (pa_cons (pe_ix (kIxT (K := K) rfl) (pv 4) pe_int (fun _ _ => rfl)) (pa_cons (pe_ix (kIxT (K := K) rfl) (pv 4) pe_int (fun _ _ => rfl)) pa_nil))))) pa_nil)) pa_nil)))))
      (pss_one (ps_ret (C8.pe_c c__law_most hr hj2 rfl (pa_cons (pv 2) pa_nil)))))), ?_⟩
  generalize hout : fr (mostL (nodeV val (mostL ws) qL)) = out at q
  refine (?_ : Es (Ct.pure K H) (nm0 5 [frs ws, encNode word sub wt qL]) _ (fun _ => False) (Is out)) _ H _ (sr0 (N := ["_law_weights", "_law_node_here", "_law_some_here", "_law_question_here", "_law_answer"]) r) (fun _ _ _ hn _ _ => hn.elim) fun v d H' rd l _ p => q v H' l (by
    have rd : d = _ := rd
    subst rd
    exact p)
  have hmn : Sz 14 (mostL ws) := mostL_sz hok.sz (by decide)
  have hm : Sz 4000 (mostL ws) := hmn.mono (by decide)
  refine es_seq (N1 := fun nm' => ∃ (p : Addr) (x : Option D), nm' = [some (.val (frs ws)), some (.val (encNode word sub wt qL)), some (.own p ((nodeV val (mostL ws) (qL.take 0)).map fr)), x.map Ent.val, none])
    (es_asgL (Rs := fun es => es = [fr (mostL ws)]) (el_lst (ea_cons (ev_Q (enc := fun x : NL => x.2.map fr) (pre := NMok) (out := fun x => fr (mostL x.2)) (14, ws) (fun σ H Q S q => ev_var (nm := [some (.val (frs ws)), some (.val (encNode word sub wt qL)), none, none, none]) (d := frs ws) rfl σ H _ S fun v d H1 e l i p => by
      rw [e] at p
      obtain ⟨a, us, rfl, hs, r⟩ := p
      refine ⟨a, us, rfl, .inr hs, fun b hb => ?_⟩
      have x : Ex H1 (upd H1 b (.lst us)) := Ex.new hb
      exact q b us _ _ rfl (l.alive hb) (l.trans x.le) (Ct.exI _ i x) upd_same (r.to x.fx)) ⟨hok.sz, by show 14 ≤ 4000; decide, hok.ne⟩) ea_nil) (by simp)) fun p ds hds _ => ⟨p, none, by rw [hds]; rfl⟩) ?_
  rintro nm' ⟨p, x, rfl⟩
  refine es_seq (N1 := fun nm' => ∃ (p : Addr) (x : Option D), nm' = [some (.val (frs ws)), some (.val (encNode word sub wt qL)), some (.own p ((nodeV val (mostL ws) qL).map fr)), x.map Ent.val, none])
    (es_for (ei_tup (ds := qL.map fun q => D.tup (q.map (encCh word sub wt))) (ev_var rfl)) (fun i nm' => ∃ (p : Addr) (x : Option D), nm' = [some (.val (frs ws)), some (.val (encNode word sub wt qL)), some (.own p ((nodeV val (mostL ws) (qL.take i)).map fr)), x.map Ent.val, none])
      ⟨p, x, rfl⟩ (fun _ _ _ => trivial) (fun i d nm' hd hP => ?_) fun nm' hP => ?_) ?_
  · obtain ⟨p, x, rfl⟩ := hP
    rw [List.getElem?_map] at hd
    cases hq : qL[i]? with
    | none => rw [hq] at hd; cases hd
    | some qn =>
    rw [hq] at hd
    obtain rfl := Option.some.inj hd
    obtain ⟨h3, hall⟩ := hN.ok qn (List.mem_of_getElem? hq)
    have hi := (List.getElem?_eq_some_iff.mp hq).1
    refine ⟨_, _, eg_name, es_app (a := p) (ds := (nodeV val (mostL ws) (qL.take i)).map fr) rfl (ev_children word sub wt val (k := 3) (v := 4) (n := n) (q := qn) rfl h3 hN.hn (fun a ha => (hall a ha).2) fun a ha nm' hnm => ?_) ?_ ?_ fun d hd => ?_⟩
    · subst hnm
      exact ev_callF (ea_cons (ev_ixc 1 (ev_var rfl) rfl) (ea_cons (ev_ixc 2 (ev_var rfl) rfl) ea_nil)) (hprev (Ct.pure K H) a rfl (hall a ha).1)
    · rw [List.length_map]
      show ((qL.take i).map _).length + 1 ≤ 1000
      rw [List.length_map, List.length_take]
      have := hN.few
      omega
    · intro j b zs hj h
      rcases j with _ | _ | _ | _ | _ | j
      · cases h
      · cases h
      · exact absurd rfl hj
      · cases h
      · cases h
      · cases h
    · refine ⟨p, some (.tup (qn.map (encCh word sub wt))), ?_⟩
      have hd : d = _ := hd
      rw [hd]
      show [_, _, some (Ent.own p ((nodeV val (mostL ws) (qL.take i)).map fr ++ [_])), _, _] = _
      unfold nodeV
      rw [take_snoc hq, List.map_cons, List.map_cons, List.map_append]
      rfl
  · obtain ⟨p, x, rfl⟩ := hP
    refine ⟨p, x, ?_⟩
    rw [List.length_map, List.take_length]
  · rintro nm' ⟨p, x, rfl⟩
    rw [← hout]
    exact es_ret (ev_Qo (enc := fun x : NL => x.2.map fr) (pre := NMok) (out := fun x => fr (mostL x.2)) (4000, nodeV val (mostL ws) qL) rfl ⟨nodeV_sz val hm hN, Nat.le_refl _, List.cons_ne_nil _ _⟩)
structure PG where
  prior : List Rat
  gains : List (List Rat)
  W : Nat
def spLWn (valG : PG → Ch → Rat × D) (K : PySem.W.Frag) (okC : PG → Ch → Prop) (n : Nat) : Sp := fun vs H Q _ => ∃ (g : PG) (ws : List Rat) (qL : List (List Ch)), RepL K H [frs g.prior, gD g.gains, frs ws, encNode word sub wt qL] vs ∧ WeOk g.prior g.gains g.W ws ∧ NodeOk (valG g) (okC g) n qL ∧ ∀ v H', Ex H H' → Rep K H' (fr (mostL (nodeV (valG g) (mostL (g.gains.map (deed g.prior ws))) qL))) v → Q v H'
theorem cal_law_worthN {valG : PG → Ch → Rat × D} {j : Nat} {okG : PG → Ch → Prop} {n : Nat} {prev : Sp} (T : Txt K mg aN aO aH) (d : Df K mg "_law_worth" s__law_worth ["_law_prior", "_law_gains_here", "_law_weights", "_law_node_here"]) (h4 : 5 ≤ j) (c__law_worth : C8.Cal P w K mg base j "_law_worth" prev [])
    (hprevG : ∀ (C : Ct) (g : PG) (a : Ch), C.K = K → okG g a → Rc C (fun vs H Q => prev (vs ++ []) H Q C8.E0) [frs g.prior, gD g.gains, frs (wt a), sub a] (Is (fr (valG g a).1)))
    (c__law_total : C8.Cal P w K mg base 4 "_law_total" (spTotal K) []) (c__law_most : C8.Cal P w K mg base 2 "_law_most" (spMost K) []) (c__law_deed : C8.Cal P w K mg base 5 "_law_deed" (spDeed K) []) : C8.Cal P w K mg base (j + 1) "_law_worth" (spLWn word sub wt valG K okG n) [] := by
  refine d.cal sc__law_worth (fun vs H Q E h => by obtain ⟨_, _, _, r, _⟩ := h; rw [r.len]; rfl) fun f cdv A outer s H vs Q E hr h => ?_
  have hj2 : 2 ≤ j := by omega
  have hj4 : 4 ≤ j := by omega
  refine ⟨_, (pss_cons (ps_setLc (i := 4) rfl sc__law_worth.nd rfl rfl (sw_true rfl rfl rfl (by decide +kernel)) (own := [("_law_deed_here", 5)]) (g := (gName 5)) (tt := tYes) (kPiT (K := K) rfl (pv 1)) (blkOk_by (by kernel_rfl)) (fun _ _ _ _ _ => (pg_name (i := 5) sc__law_worth.nd rfl (Or.inl rfl))) (fun _ _ _ _ _ => pts_nil) (fun _ _ _ _ _ => (C8.pe_c c__law_deed hr h4 rfl (pa_cons (pv 0) (pa_cons (pv 2) (pa_cons (pv 5) pa_nil))))))
      (pss_cons (ps_for PassesOwn.never rfl (kPiT (K := K) rfl (pv 3)) (pg_name (i := 6) sc__law_worth.nd rfl (Or.inl rfl)) (pss_one (ps_expr (pe_bm PySem.F.plainAttrs_list PySem.F.slot_list_append PySem.F.type_list_append mt_append (pv 4) (pa_cons (C8.pe_c c__law_total hr hj4 rfl (pa_cons (pe_lc rfl sc__law_worth.nd (own := [("_law_answer", 7)]) (g := (gName 7)) (tt := tYes) (kPiT (K := K) rfl (pv 6)) (blkOk_by (by kernel_rfl)) (fun _ _ _ _ _ => (pg_name (i := 7) sc__law_worth.nd rfl (Or.inl rfl))) (fun _ _ _ _ _ => pts_nil) (fun _ _ _ _ _ => (C8.pe_c c__law_worth hr (Nat.le_refl _) rfl (pa_cons (pv 0) (pa_cons (pv 1) (pa_cons (pe_ix (kIxT (K := K) rfl) (pv 7) pe_int (fun _ _ => rfl)) (pa_cons (pe_ix (kIxT (K := K) rfl) (pv 7) pe_int (fun _ _ => rfl)) pa_nil))))))) pa_nil)) pa_nil)))))
      (pss_one (ps_ret (C8.pe_c c__law_most hr hj2 rfl (pa_cons (pv 4) pa_nil)))))), ?_⟩
  obtain ⟨⟨prior, gains, W⟩, ws, qL, r, hok, hN, q⟩ := h
  have hok : WOk ⟨prior, gains, ws, W⟩ := hok
  have hprev := fun C a => hprevG C ⟨prior, gains, W⟩ a
  generalize valG ⟨prior, gains, W⟩ = val at hN q hprev
  generalize okG ⟨prior, gains, W⟩ = okC at hN hprev
  have q : ∀ v H', Ex H H' → Rep K H' (fr (mostL (nodeV val (mostL (gains.map (deed prior ws))) qL))) v → Q v H' := q
  have r : RepL K H [frs prior, gD gains, frs ws, encNode word sub wt qL] vs := r
  generalize hout : fr (mostL (nodeV val (mostL (gains.map (deed prior ws))) qL)) = out at q
  refine (?_ : Es (Ct.pure K H) (nm0 8 [frs prior, gD gains, frs ws, encNode word sub wt qL]) _ (fun _ => False) (Is out)) _ H _ (sr0 (N := ["_law_prior", "_law_gains_here", "_law_weights", "_law_node_here", "_law_some_here", "_law_deed_here", "_law_question_here", "_law_answer"]) r) (fun _ _ _ hn _ _ => hn.elim) fun v d H' rd l _ p => q v H' l (by
    have rd : d = _ := rd
    subst rd
    exact p)
  have hvs : ∀ x ∈ gains.map (deed prior ws), Sz 101 x := hok.vals
  have hne : gains.map (deed prior ws) ≠ [] := hok.ne
  have hm : Sz 4000 (mostL (gains.map (deed prior ws))) := (mostL_sz hvs (by decide)).mono (by decide)
  have hmost : ∀ ys : List Rat, mostL (gains.map (deed prior ws) ++ ys) = mostL (mostL (gains.map (deed prior ws)) :: ys) := fun ys => mostL_app' hne
  let L : Nat → List Rat := fun i => gains.map (deed prior ws) ++ (qL.take i).map fun q => tot (q.map fun a => (val a).1)
  refine es_seq (N1 := fun nm' => ∃ (p : Addr) (x : Option D), nm' = [some (.val (frs prior)), some (.val (gD gains)), some (.val (frs ws)), some (.val (encNode word sub wt qL)), some (.own p ((L 0).map fr)), none, x.map Ent.val, none])
    (es_asgL (Rs := fun es => es = (L 0).map fr) (el_lc (ei_tup (ds := gains.map frs) (ev_var rfl)) trivial (by rw [List.length_map]; have := hok.g.few; show gains.length ≤ 1000; have : gains.length ≤ 5 := this; omega) (fun i acc => acc = ((gains.take i).map (deed prior ws)).map fr) rfl (fun i d acc hd hacc => ?_) fun acc hacc => ?_) fun p ds hds _ => ⟨p, none, by rw [hds]; rfl⟩) ?_
  · obtain ⟨g, hg, rfl⟩ := gD_at hd
    refine ⟨_, _, eg_name, by simp, (ev_deed ⟨prior, ws, g, W⟩ (ea_cons (ev_var rfl) (ea_cons (ev_var rfl) (ea_cons (ev_var rfl) ea_nil))) (hok.deed (List.mem_of_getElem? hg))).imp fun x hx => ?_⟩
    have hx : x = _ := hx
    rw [hacc, hx, take_snoc hg, List.map_append]
    rfl
  · rw [hacc, List.length_map, List.take_length]
    show _ = (gains.map (deed prior ws) ++ []).map fr
    rw [List.append_nil]
  rintro nm' ⟨p, x, rfl⟩
  refine es_seq (N1 := fun nm' => ∃ (p : Addr) (x : Option D), nm' = [some (.val (frs prior)), some (.val (gD gains)), some (.val (frs ws)), some (.val (encNode word sub wt qL)), some (.own p ((L qL.length).map fr)), none, x.map Ent.val, none])
    (es_for (ei_tup (ds := qL.map fun q => D.tup (q.map (encCh word sub wt))) (ev_var rfl)) (fun i nm' => ∃ (p : Addr) (x : Option D), nm' = [some (.val (frs prior)), some (.val (gD gains)), some (.val (frs ws)), some (.val (encNode word sub wt qL)), some (.own p ((L i).map fr)), none, x.map Ent.val, none])
      ⟨p, x, rfl⟩ (fun _ _ _ => trivial) (fun i d nm' hd hP => ?_) fun nm' hP => ?_) ?_
  · obtain ⟨p, x, rfl⟩ := hP
    rw [List.getElem?_map] at hd
    cases hq : qL[i]? with
    | none => rw [hq] at hd; cases hd
    | some qn =>
    rw [hq] at hd
    obtain rfl := Option.some.inj hd
    obtain ⟨h3, hall⟩ := hN.ok qn (List.mem_of_getElem? hq)
    have hi := (List.getElem?_eq_some_iff.mp hq).1
    refine ⟨_, _, eg_name, es_app (a := p) (ds := (L i).map fr) rfl (ev_children word sub wt val (k := 6) (v := 7) (n := n) (q := qn) rfl h3 hN.hn (fun a ha => (hall a ha).2) fun a ha nm' hnm => ?_) ?_ ?_ fun d hd => ?_⟩
    · subst hnm
      exact ev_callF (ea_cons (ev_var rfl) (ea_cons (ev_var rfl) (ea_cons (ev_ixc 1 (ev_var rfl) rfl) (ea_cons (ev_ixc 2 (ev_var rfl) rfl) ea_nil)))) (hprev (Ct.pure K H) a rfl (hall a ha).1)
    · rw [List.length_map]
      show (gains.map (deed prior ws) ++ (qL.take i).map _).length ≤ 1000
      rw [List.length_append, List.length_map, List.length_map, List.length_take]
      have := hN.few
      have : gains.length ≤ 5 := hok.g.few
      omega
    · intro j b zs hj h
      rcases j with _ | _ | _ | _ | _ | _ | _ | _ | j
      · cases h
      · cases h
      · cases h
      · cases h
      · exact absurd rfl hj
      · cases h
      · cases h
      · cases h
      · cases h
    · refine ⟨p, some (.tup (qn.map (encCh word sub wt))), ?_⟩
      have hd : d = _ := hd
      rw [hd]
      have e : (L (i + 1)).map fr = (L i).map fr ++ [fr (tot (qn.map fun a => (val a).1))] := by
        show (gains.map (deed prior ws) ++ (qL.take (i + 1)).map _).map fr = (gains.map (deed prior ws) ++ (qL.take i).map _).map fr ++ _
        rw [take_snoc hq, ← List.append_assoc, List.map_append]
        rfl
      rw [e]
      rfl
  · obtain ⟨p, x, rfl⟩ := hP
    refine ⟨p, x, ?_⟩
    rw [List.length_map]
  · rintro nm' ⟨p, x, rfl⟩
    have hL : L qL.length = gains.map (deed prior ws) ++ qL.map fun q => tot (q.map fun a => (val a).1) := by
      show gains.map (deed prior ws) ++ (qL.take qL.length).map _ = _
      rw [List.take_length]
    have hz := nodeV_sz val hm hN
    have hout2 : out = fr (mostL (L qL.length)) := by
      rw [← hout, hL, hmost] <;> rfl
    rw [hout2]
    refine es_ret (ev_Qo (enc := fun x : NL => x.2.map fr) (pre := NMok) (out := fun x => fr (mostL x.2)) (4000, L qL.length) rfl ⟨fun x hx => ?_, Nat.le_refl _, ?_⟩)
    · have hx : x ∈ L qL.length := hx
      rw [hL] at hx
      rcases List.mem_append.mp hx with hx | hx
      · exact (hvs x hx).mono (by show 101 ≤ 4000; decide)
      · exact hz x (List.mem_cons_of_mem _ hx)
    · show L qL.length ≠ []
      rw [hL]
      exact fun z => hne (List.append_eq_nil_iff.mp z).1
end
/-! .. of trees -/
section
variable {P : Program} {w : World} {K : PySem.W.Frag} {mg : Str → Option Value} {base : Heap} {aN aO aH : Addr}
def spLL (K : PySem.W.Frag) (r : Nat) : Sp := fun vs H Q _ => ∃ (ws : List Rat) (t : T r), RepL K H [frs ws, encT r t] vs ∧ GuOk ws ∧ AllO GuOk r t ∧ ∀ v H', Ex H H' → Rep K H' (fr (luck r ws t)) v → Q v H'
theorem luck_sz (r : Nat) (w : List Rat) (t : T r) (hw : GuOk w) (ht : AllO GuOk r t) : Sz (up 14 r) (luck r w t) := by
  have z := bestT_sz (st := guV) (b := 14) (fun w (h : GuOk w) => by
    show Sz 14 (amL w).1
    rw [amL_val]
    exact mostL_sz h.sz (by decide)) r w t hw ht
  rw [bestT_guess] at z
  exact z
theorem worth_sz {prior : List Rat} {gains : List (List Rat)} {n : Nat} (r : Nat) (w : List Rat) (t : T r) (hw : WeOk prior gains n w) (ht : AllO (WeOk prior gains n) r t) : Sz (up 101 r) (worth prior gains r w t) := by
  have z := bestT_sz (st := laV prior gains) (b := 101) (fun w h => laV_sz w h) r w t hw ht
  rw [bestT_worth] at z
  exact z
theorem cal_law_luck (T0 : Txt K mg aN aO aH) (d : Df K mg "_law_luck" s__law_luck ["_law_weights", "_law_node_here"]) (c__law_total : C8.Cal P w K mg base 4 "_law_total" (spTotal K) []) (c__law_most : C8.Cal P w K mg base 2 "_law_most" (spMost K) []) :
    ∀ r : Nat, up 14 (r - 1) ≤ 1300 → C8.Cal P w K mg base (5 + r) "_law_luck" (spLL K r) []
  | 0, _ => by
    refine Df.cimp (cal_law_luckN (Ch := Empty) (fun a => nomatch a) (fun a => nomatch a) (fun a => nomatch a) (fun a => nomatch a) (j := 4) (n := 0) (okC := fun _ => True) (prev := fun _ _ _ _ => False) T0 d (Nat.le_refl _) (d.cno 4) (fun _ a => nomatch a) c__law_total c__law_most) fun vs H Q E h => ?_
    obtain ⟨ws, t, r, hok, _, q⟩ := h
    exact ⟨ws, [], r, hok, (⟨by simp, fun q hq => (nomatch hq), by omega⟩ : NodeOk (fun a : Empty => nomatch a) (fun _ => True) 0 []), q⟩
  | r + 1, hr => by
    have hr' : up 14 (r - 1) ≤ 1300 := Nat.le_trans (by cases r with | zero => exact Nat.le_refl _ | succ r => exact up_step) hr
    have ih := cal_law_luck T0 d c__law_total c__law_most r hr'
    refine Df.cimp (cal_law_luckN (Ch := An r) (fun a : An r => wordD a.1) (fun a : An r => encT r a.2.2) (fun a : An r => a.2.1) (fun a : An r => (luck r a.2.1 a.2.2, .tup [])) (j := 5 + r) (n := up 14 r) (okC := fun a => GuOk a.2.1 ∧ AllO GuOk r a.2.2) (prev := spLL K r) T0 d (by omega) ih (fun C a hK ha H vs Q l i p q => ?_) c__law_total c__law_most) fun vs H Q E h => ?_
    · subst hK
      exact ⟨a.2.1, a.2.2, by rw [List.append_nil]; exact p, ha.1, ha.2, fun v H' x rv => q v _ H' rfl x.le (C.exI i x) rv⟩
    · obtain ⟨ws, t, r, hok, ht, q⟩ := h
      exact ⟨ws, qs t, r, hok, ⟨ht.1, fun q hq => ⟨(ht.2 q hq).1, fun a ha => ⟨(ht.2 q hq).2 a ha, luck_sz _ a.2.1 a.2.2 ((ht.2 q hq).2 a ha).1 ((ht.2 q hq).2 a ha).2⟩⟩, hr⟩, q⟩
def spLW (K : PySem.W.Frag) (r : Nat) : Sp := fun vs H Q _ => ∃ (g : PG) (ws : List Rat) (t : T r), RepL K H [frs g.prior, gD g.gains, frs ws, encT r t] vs ∧ WeOk g.prior g.gains g.W ws ∧ AllO (WeOk g.prior g.gains g.W) r t ∧ ∀ v H', Ex H H' → Rep K H' (fr (worth g.prior g.gains r ws t)) v → Q v H'
theorem cal_law_worth (T0 : Txt K mg aN aO aH) (d : Df K mg "_law_worth" s__law_worth ["_law_prior", "_law_gains_here", "_law_weights", "_law_node_here"]) (c__law_total : C8.Cal P w K mg base 4 "_law_total" (spTotal K) []) (c__law_most : C8.Cal P w K mg base 2 "_law_most" (spMost K) []) (c__law_deed : C8.Cal P w K mg base 5 "_law_deed" (spDeed K) []) :
    ∀ r : Nat, up 101 (r - 1) ≤ 1300 → C8.Cal P w K mg base (6 + r) "_law_worth" (spLW K r) []
  | 0, _ => by
    refine Df.cimp (cal_law_worthN (Ch := Empty) (fun a => nomatch a) (fun a => nomatch a) (fun a => nomatch a) (valG := fun _ a => nomatch a) (j := 5) (n := 0) (okG := fun _ _ => True) (prev := fun _ _ _ _ => False) T0 d (Nat.le_refl _) (d.cno 5) (fun _ _ a => nomatch a) c__law_total c__law_most c__law_deed) fun vs H Q E h => ?_
    obtain ⟨g, ws, t, r, hok, _, q⟩ := h
    exact ⟨g, ws, [], r, hok, (⟨by simp, fun q hq => (nomatch hq), by omega⟩ : NodeOk (fun a : Empty => nomatch a) (fun _ => True) 0 []), q⟩
  | r + 1, hr => by
    have hr' : up 101 (r - 1) ≤ 1300 := Nat.le_trans (by cases r with | zero => exact Nat.le_refl _ | succ r => exact up_step) hr
    have ih := cal_law_worth T0 d c__law_total c__law_most c__law_deed r hr'
    refine Df.cimp (cal_law_worthN (Ch := An r) (fun a : An r => wordD a.1) (fun a : An r => encT r a.2.2) (fun a : An r => a.2.1) (valG := fun g (a : An r) => (worth g.prior g.gains r a.2.1 a.2.2, .tup [])) (j := 6 + r) (n := up 101 r) (okG := fun g a => WeOk g.prior g.gains g.W a.2.1 ∧ AllO (WeOk g.prior g.gains g.W) r a.2.2) (prev := spLW K r) T0 d (by omega) ih (fun C g a hK ha H vs Q l i p q => ?_) c__law_total c__law_most c__law_deed) fun vs H Q E h => ?_
    · subst hK
      exact ⟨g, a.2.1, a.2.2, by rw [List.append_nil]; exact p, ha.1, ha.2, fun v H' x rv => q v _ H' rfl x.le (C.exI i x) rv⟩
    · obtain ⟨g, ws, t, r, hok, ht, q⟩ := h
      exact ⟨g, ws, qs t, r, hok, ⟨ht.1, fun q hq => ⟨(ht.2 q hq).1, fun a ha => ⟨(ht.2 q hq).2 a ha, worth_sz _ a.2.1 a.2.2 ((ht.2 q hq).2 a ha).1 ((ht.2 q hq).2 a ha).2⟩⟩, hr⟩, q⟩
end
end Q3
namespace Q3
open PySem PySem.Spec PyProof.Rows L2
/-! askers -/
theorem ev_eqS {C : Ct} {nm : Nm} {ta tb : TE} {x y : Str} {b : Bool} (ha : Ev C nm ta (Is (.s x))) (hb : Ev C nm tb (Is (.s y))) (h : decide (x = y) = b) : Ev C nm (tOp rEq ta tb) (Is (.b b)) := by
  have e : decide (V.str x = V.str y) = b := by
    rw [← h]
    exact decide_eq_decide.mpr ⟨fun z => V.str.inj z, fun z => by rw [z]⟩
  rw [← e]
  exact ev_op ha hb (rv_eq rfl)
theorem ev_neS {C : Ct} {nm : Nm} {ta tb : TE} {x y : Str} {b : Bool} (ha : Ev C nm ta (Is (.s x))) (hb : Ev C nm tb (Is (.s y))) (h : (!decide (x = y)) = b) : Ev C nm (tOp rNe ta tb) (Is (.b b)) := by
  have e : (!decide (V.str x = V.str y)) = b := by
    rw [← h]
    exact congrArg (!·) (decide_eq_decide.mpr ⟨fun z => V.str.inj z, fun z => by rw [z]⟩)
  rw [← e]
  exact ev_op ha hb (rv_ne rfl)
theorem ev_lint {C : Ct} {nm : Nm} {E : XK} {t : TA} (a b c : Int) (h : Ea C nm t (fun es => es = [.i a, .i b, .i c])) (h1 : b ≤ a) (h2 : a ≤ c) : Ev C nm (tCall (spLInt C.K) [] E t) (Is (.b true)) := by
  have z := ev_P (C := C) (nm := nm) (E := E) (t := t) (enc := fun x : Int × Int × Int => [.i x.1, .i x.2.1, .i x.2.2]) (pre := fun _ => True) (out := fun x => .b (decide (x.2.1 ≤ x.1) && decide (x.1 ≤ x.2.2))) (a, b, c) h trivial
  refine z.imp fun d hd => ?_
  have hd : d = _ := hd
  rw [hd]
  exact congrArg D.b (by rw [Bool.and_eq_true, decide_eq_true_eq, decide_eq_true_eq]; exact ⟨h1, h2⟩)
def StopI (deeds : Nat) (d : D) : Prop := ∃ i, i < deeds ∧ d = stopD i
def AskN {Ch : Type} (deeds : Nat) (okA : Ch → D → Prop) (qL : List (List Ch)) (d : D) : Prop := StopI deeds d ∨ ∃ k q ds, qL[k]? = some q ∧ ds.length = q.length ∧ d = askD k ds ∧ ∀ (j : Nat) (a : Ch) (e : D), q[j]? = some a → ds[j]? = some e → okA a e
def AskOk (deeds : Nat) : (r : Nat) → T r → D → Prop
  | 0, _, d => AskN (Ch := Empty) deeds (fun a => nomatch a) [] d
  | r + 1, t, d => AskN deeds (fun (a : An r) e => AskOk deeds r a.2.2 e) (qs t) d
/-- what an asker gets -/
structure DW where
  prior : List Rat
  gains : List (List Rat)
  W : Nat
def GetS (x : DW) (ws : List Rat) (d : D) (v : Rat) : Prop := ∃ i g, x.gains[i]? = some g ∧ d = stopD i ∧ v = deed x.prior ws g ∧ DeedOk ⟨x.prior, ws, g, x.W⟩
def GetN {Ch : Type} (x : DW) (okA : Ch → D → Rat → Prop) (ws : List Rat) (qL : List (List Ch)) (d : D) (v : Rat) : Prop := GetS x ws d v ∨ ∃ k q ds us, qL[k]? = some q ∧ ds.length = q.length ∧ us.length = q.length ∧ q.length ≤ 3 ∧ d = askD k ds ∧ v = tot us ∧
  ∀ (j : Nat) (a : Ch) (e : D) (u : Rat), q[j]? = some a → ds[j]? = some e → us[j]? = some u → okA a e u ∧ Sz 1300 u
def Gets (x : DW) : (r : Nat) → List Rat → T r → D → Rat → Prop
  | 0, ws, _, d, v => GetN (Ch := Empty) x (fun a => nomatch a) ws [] d v
  | r + 1, ws, t, d, v => GetN x (fun (a : An r) e u => Gets x r a.2.1 a.2.2 e u) ws (qs t) d v
theorem Gets.ask (x : DW) : ∀ (r : Nat) (ws : List Rat) (t : T r) (d : D) (v : Rat), Gets x r ws t d v → AskOk x.gains.length r t d
  | 0, ws, t, d, v, h => by
    rcases h with ⟨i, g, h1, h2, _⟩ | ⟨k, q, ds, us, h1, _⟩
    · exact .inl ⟨i, (List.getElem?_eq_some_iff.mp h1).1, h2⟩
    · simp at h1
  | r + 1, ws, t, d, v, h => by
    rcases h with ⟨i, g, h1, h2, _⟩ | ⟨k, q, ds, us, h1, h2, h3, _, h4, _, h5⟩
    · exact .inl ⟨i, (List.getElem?_eq_some_iff.mp h1).1, h2⟩
    · refine .inr ⟨k, q, ds, h1, h2, h4, fun j a e ha he => ?_⟩
      have hj := (List.getElem?_eq_some_iff.mp ha).1
      exact Gets.ask x r a.2.1 a.2.2 e _ (h5 j a e (us[j]'(by omega)) ha he (List.getElem?_eq_getElem _)).1
section
variable {P : Program} {w : World} {K : PySem.W.Frag} {mg : Str → Option Value} {base : Heap} {aN aO aH : Addr}
variable {Ch : Type} (word sub : Ch → D) (wt : Ch → List Rat)
abbrev qD (q : List Ch) : D := .tup (q.map (encCh word sub wt))
theorem node_at {qL : List (List Ch)} {k : Nat} {q : List Ch} (h : qL[k]? = some q) : (qL.map fun q => D.tup (q.map (encCh word sub wt)))[k]? = some (qD word sub wt q) := by
  rw [List.getElem?_map, h] <;> rfl
def spIAn (K : PySem.W.Frag) (okA : Nat → Ch → D → Prop) : Sp := fun vs H Q _ => ∃ (deeds : Nat) (qL : List (List Ch)) (d : D), RepL K H [encNode word sub wt qL, .i (deeds : Int), d] vs ∧ AskN deeds (okA deeds) qL d ∧ (∀ q ∈ qL, q.length ≤ 1000) ∧ ∀ v H', Ex H H' → Rep K H' (.b true) v → Q v H'
theorem cal_is_askerN {j : Nat} {okA : Nat → Ch → D → Prop} {prev : Sp} (T : Txt K mg aN aO aH) (d : Df K mg "_law_is_asker" s__law_is_asker ["_law_node_here", "_law_deeds", "_law_thing"]) (h4 : 1 ≤ j) (c__law_is_asker : C8.Cal P w K mg base j "_law_is_asker" prev [])
    (hprev : ∀ (C : Ct) (deeds : Nat) (a : Ch) (e : D), C.K = K → okA deeds a e → Rc C (fun vs H Q => prev (vs ++ []) H Q C8.E0) [sub a, .i (deeds : Int), e] (Is (.b true)))
    (c__law_int : C8.Cal P w K mg base 1 "_law_int" (spLInt K) []) : C8.Cal P w K mg base (j + 1) "_law_is_asker" (spIAn word sub wt K okA) [] := by
  refine d.cal sc__law_is_asker (fun vs H Q E h => by obtain ⟨_, _, _, r, _⟩ := h; rw [r.len]; rfl) fun f cdv A outer s H vs Q E hr h => ?_
  refine ⟨_, (pss_cons (ps_if (PW.pt (pw_or (pt_not (pt_val (pe_callB (kIsi (K := K) rfl) (by rfl) T.isinstanceZ (by decide +kernel) (pa_cons (pv 2) (pa_cons (pe_bltn (v := .ty "tuple") (u := .type "tuple") (by rfl) T.tupleZ (by decide +kernel) rfl) pa_nil))))) (pw_or (pt_cmpR op_lt (pe_callB (kLen (K := K) rfl) (by rfl) T.lenZ PySem.boot_len (pa_cons (pv 2) pa_nil)) pe_int (nomark _)) (pw_or1 (pt_not (pt_val (pe_callB (kIsi (K := K) rfl) (by rfl) T.isinstanceZ (by decide +kernel) (pa_cons (pe_ix (kIxT (K := K) rfl) (pv 2) pe_int (fun _ _ => rfl)) (pa_cons (pe_bltn (v := .ty "str") (u := .type "str") (by rfl) T.strZ (by decide +kernel) rfl) pa_nil))))))))) (pss_one (ps_ret pe_bl)) pss_nil)
      (pss_cons (ps_if (pt_cmpR op_eq (pe_ix (kIxT (K := K) rfl) (pv 2) pe_int (fun _ _ => rfl)) pe_str (nomark _)) (pss_one (ps_ret (pe_and (pe_cmpR op_eq (pe_callB (kLen (K := K) rfl) (by rfl) T.lenZ PySem.boot_len (pa_cons (pv 2) pa_nil)) pe_int (nomark _)) (pe_one (C8.pe_c c__law_int hr h4 rfl (pa_cons (pe_ix (kIxT (K := K) rfl) (pv 2) pe_int (fun _ _ => rfl)) (pa_cons pe_int (pa_cons (pe_op op_sub (pv 1) pe_int) pa_nil)))))))) pss_nil)
      (pss_cons (ps_if (PW.pt (pw_or (pt_cmpR op_ne (pe_ix (kIxT (K := K) rfl) (pv 2) pe_int (fun _ _ => rfl)) pe_str (nomark _)) (pw_or (pt_cmpR op_ne (pe_callB (kLen (K := K) rfl) (by rfl) T.lenZ PySem.boot_len (pa_cons (pv 2) pa_nil)) pe_int (nomark _)) (pw_or1 (pt_not (pt_val (C8.pe_c c__law_int hr h4 rfl (pa_cons (pe_ix (kIxT (K := K) rfl) (pv 2) pe_int (fun _ _ => rfl)) (pa_cons pe_int (pa_cons (pe_op op_sub (pe_callB (kLen (K := K) rfl) (by rfl) T.lenZ PySem.boot_len (pa_cons (pv 0) pa_nil)) pe_int) pa_nil)))))))))) (pss_one (ps_ret pe_bl)) pss_nil)
      (pss_cons (ps_set (i := 3) sc__law_is_asker.nd rfl (Or.inl rfl) (pe_ix (kIxT (K := K) rfl) (pv 0) (pe_ix (kIxT (K := K) rfl) (pv 2) pe_int (fun _ _ => rfl)) (fun _ _ => rfl)))
      (pss_cons (ps_if (PW.pt (pw_or (pt_not (pt_val (pe_callB (kIsi (K := K) rfl) (by rfl) T.isinstanceZ (by decide +kernel) (pa_cons (pe_ix (kIxT (K := K) rfl) (pv 2) pe_int (fun _ _ => rfl)) (pa_cons (pe_bltn (v := .ty "tuple") (u := .type "tuple") (by rfl) T.tupleZ (by decide +kernel) rfl) pa_nil))))) (pw_or1 (pt_cmpR op_ne (pe_callB (kLen (K := K) rfl) (by rfl) T.lenZ PySem.boot_len (pa_cons (pe_ix (kIxT (K := K) rfl) (pv 2) pe_int (fun _ _ => rfl)) pa_nil)) (pe_callB (kLen (K := K) rfl) (by rfl) T.lenZ PySem.boot_len (pa_cons (pv 3) pa_nil)) (nomark _))))) (pss_one (ps_ret pe_bl)) pss_nil)
      (pss_one (ps_ret (pe_callB (kAll (K := K) rfl rfl) (by rfl) T.allZ (by decide +kernel) (pa_cons (pe_lc rfl sc__law_is_asker.nd (own := [("_law_answer", 4), ("_law_one", 5)]) (g := (gTup K 2 (gCons (gName 4) (gCons (gName 5) gNil)))) (tt := tYes) (kZip2 (K := K) rfl (by rfl) T.zipZ (pa_cons (pv 3) (pa_cons (pe_ix (kIxT (K := K) rfl) (pv 2) pe_int (fun _ _ => rfl)) pa_nil))) (blkOk_by (by kernel_rfl)) (fun _ _ _ _ _ => (kTg (K := K) rfl rfl (pgs_cons (pg_name (i := 4) sc__law_is_asker.nd rfl (Or.inl rfl)) (pgs_cons (pg_name (i := 5) sc__law_is_asker.nd rfl (Or.inl rfl)) pgs_nil)))) (fun _ _ _ _ _ => pts_nil) (fun _ _ _ _ _ => (C8.pe_c c__law_is_asker hr (Nat.le_refl _) rfl (pa_cons (pe_ix (kIxT (K := K) rfl) (pv 4) pe_int (fun _ _ => rfl)) (pa_cons (pv 1) (pa_cons (pv 5) pa_nil)))))) pa_nil))))))))), ?_⟩
  obtain ⟨deeds, qL, d, r, ha, hl, q⟩ := h
  refine (?_ : Es (Ct.pure K H) (nm0 6 [encNode word sub wt qL, .i (deeds : Int), d]) _ (fun _ => False) (Is (.b true))) _ H _ (sr0 (N := ["_law_node_here", "_law_deeds", "_law_thing", "_law_question_here", "_law_answer", "_law_one"]) r) (fun _ _ _ hn _ _ => hn.elim) fun v d H' rd l _ p => q v H' l (by
    have rd : d = _ := rd
    subst rd
    exact p)
  have first : ∀ (x : Str) (ds : List D), d = .tup (.s x :: ds) → 1 ≤ ds.length → Es (Ct.pure K H) (nm0 6 [encNode word sub wt qL, .i (deeds : Int), d]) (tIfS (tOr (tNot (tB (tCB (rIsi K) (tCons (tVar 2) (tCons (tC (.ty "tuple")) tNil))))) (tOr (tTest (tOp (rI0 fun i j => .bl (decide (i < j))) (tCB (rLenS K) (tCons (tVar 2) tNil)) (tC (.int 2)))) (tNot (tB (tCB (rIsi K) (tCons (tOp (rIxT K) (tVar 2) (tC (.int 0))) (tCons (tC (.ty "str")) tNil))))))) (tRet (tC (.bl false))) tNext) (fun nm' => nm' = nm0 6 [encNode word sub wt qL, .i (deeds : Int), d]) (Is (.b true)) := fun x ds e h1 => by
    subst e
    exact es_if (b := false) (et_or (a := false) (et_not (a := true) (et_val (ev_isi (t := "tuple") (ev_var rfl) ev_c tyx_tup (by decide +kernel)))) (fun _ => et_or (a := false) (et_test (ev_b (ev_len (ds := .s x :: ds) (ev_var rfl)) ev_c (decide_eq_false (by rw [List.length_cons]; omega)))) (fun _ => et_not (a := true) (et_val (ev_isi (t := "str") (ev_ixc 0 (ev_var rfl) rfl) ev_c tyx_str (by decide +kernel)))) rfl) rfl) (fun z => nomatch z) fun _ => es_next rfl
  rcases ha with ⟨i, hi, rfl⟩ | ⟨k, qn, ds, hk, hds, rfl, hall⟩
  · refine es_seq (N1 := fun nm' => nm' = nm0 6 [encNode word sub wt qL, .i (deeds : Int), stopD i]) (first "stop" [.i (i : Int)] rfl (by simp)) ?_
    rintro nm' rfl
    refine es_seq (N1 := fun _ => False) (es_if (b := true) (et_test (ev_eqS (x := "stop") (y := "stop") (ev_ixc 0 (ev_var rfl) rfl) ev_c (decide_eq_true rfl))) (fun _ => es_ret (ev_and (a := true) (b := true) (ev_eqI (ev_len (ds := [.s "stop", .i (i : Int)]) (ev_var rfl)) ev_c rfl) (fun _ => ?_) rfl)) fun z => nomatch z) fun _ h => h.elim
    exact ev_lint (C := Ct.pure K H) (i : Int) 0 ((deeds : Int) - 1) (ea_cons (ev_ixc 1 (ev_var rfl) rfl) (ea_cons ev_c (ea_cons (ev_sub (ev_var rfl) ev_c) ea_nil))) (by omega) (by omega)
  · have hkl := (List.getElem?_eq_some_iff.mp hk).1
    have hqm := hl qn (List.mem_of_getElem? hk)
    refine es_seq (N1 := fun nm' => nm' = nm0 6 [encNode word sub wt qL, .i (deeds : Int), askD k ds]) (first "ask" [.i (k : Int), .tup ds] rfl (by simp)) ?_
    rintro nm' rfl
    refine es_seq (N1 := fun nm' => nm' = nm0 6 [encNode word sub wt qL, .i (deeds : Int), askD k ds]) (es_if (b := false) (et_test (ev_eqS (x := "ask") (y := "stop") (ev_ixc 0 (ev_var rfl) rfl) ev_c (decide_eq_false (by decide)))) (fun z => nomatch z) fun _ => es_next rfl) ?_
    rintro nm' rfl
    have zz := ev_len (C := Ct.pure K H) (nm := nm0 6 [encNode word sub wt qL, .i (deeds : Int), askD k ds]) (te := tVar 0) (ds := qL.map fun q => D.tup (q.map (encCh word sub wt))) (ev_var rfl)
    rw [List.length_map] at zz
    have z := ev_lint (E := C8.E0) (C := Ct.pure K H) (nm := nm0 6 [encNode word sub wt qL, .i (deeds : Int), askD k ds]) (k : Int) 0 ((qL.length : Int) - 1) (ea_cons (ev_ixc (ta := tVar 2) (ds := [.s "ask", .i (k : Int), .tup ds]) 1 (ev_var rfl) rfl) (ea_cons ev_c (ea_cons (ev_sub zz (ev_c (v := .int 1))) ea_nil))) (by omega) (by omega)
    refine es_seq (N1 := fun nm' => nm' = nm0 6 [encNode word sub wt qL, .i (deeds : Int), askD k ds]) (es_if (b := false) (et_or (a := false) (et_test (ev_neS (x := "ask") (y := "ask") (ev_ixc 0 (ev_var rfl) rfl) ev_c rfl)) (fun _ => et_or (a := false) (et_test (ev_neI (ev_len (ds := [.s "ask", .i (k : Int), .tup ds]) (ev_var rfl)) ev_c rfl)) (fun _ => et_not (a := true) (et_val z)) rfl) rfl) (fun z => nomatch z) fun _ => es_next rfl) ?_
    rintro nm' rfl
    refine es_seq (N1 := fun nm' => nm' = [some (.val (encNode word sub wt qL)), some (.val (.i (deeds : Int))), some (.val (askD k ds)), some (.val (qD word sub wt qn)), none, none]) (es_asg (ev_ix k (ev_var rfl) (ev_ixc 1 (ev_var rfl) rfl) (node_at word sub wt hk)) rfl) ?_
    rintro nm' rfl
    refine es_seq (N1 := fun nm' => nm' = [some (.val (encNode word sub wt qL)), some (.val (.i (deeds : Int))), some (.val (askD k ds)), some (.val (qD word sub wt qn)), none, none]) (es_if (b := false) (et_or (a := false) (et_not (a := true) (et_val (ev_isi (t := "tuple") (ev_ixc 2 (ev_var rfl) rfl) ev_c tyx_tup (by decide +kernel)))) (fun _ => et_test (ev_neI (ev_len (ds := ds) (ev_ixc 2 (ev_var rfl) rfl)) (ev_len (ds := qn.map (encCh word sub wt)) (ev_var rfl)) (by rw [List.length_map, hds, decide_eq_true rfl]; rfl))) rfl) (fun z => nomatch z) fun _ => es_next rfl) ?_
    rintro nm' rfl
    refine es_ret (ev_allT (ei_zip2 (ds := qn.map (encCh word sub wt)) (es := ds) (ea_cons (ev_var rfl) (ea_cons (ev_ixc 2 (ev_var rfl) rfl) ea_nil))) trivial (by rw [z2D_len, List.length_map]; omega) fun i d hd => ?_)
    obtain ⟨a, b, h1, h2, rfl⟩ := z2D_at hd
    rw [List.getElem?_map] at h1
    cases hqa : qn[i]? with
    | none => rw [hqa] at h1; cases h1
    | some ch =>
    rw [hqa] at h1
    obtain rfl := Option.some.inj h1
    exact ⟨_, _, eg_two, by simp, ev_callF (ea_cons (ev_ixc 2 (ev_var rfl) rfl) (ea_cons (ev_var rfl) (ea_cons (ev_var rfl) ea_nil))) (hprev (Ct.pure K H) deeds ch b rfl (hall i ch b hqa h2))⟩
def spGotN (K : PySem.W.Frag) (okA : DW → Ch → D → Rat → Prop) : Sp := fun vs H Q _ => ∃ (x : DW) (ws : List Rat) (qL : List (List Ch)) (d : D) (v : Rat) (p : Addr) (us : List V), RepL K H [frs x.prior, .sc (.ref p), frs ws, encNode word sub wt qL, d] vs ∧ SqL K H p us ∧ RepL K H (x.gains.map frs) us ∧ GetN x (okA x) ws qL d v ∧ ∀ u H', Ex H H' → Rep K H' (fr v) u → Q u H'
theorem cal_gotN {j : Nat} {okA : DW → Ch → D → Rat → Prop} {prev : Sp} (d : Df K mg "_law_got" s__law_got ["_law_prior", "_law_gains_here", "_law_weights", "_law_node_here", "_law_asker"]) (T : Txt K mg aN aO aH) (h5 : 5 ≤ j) (c__law_got : C8.Cal P w K mg base j "_law_got" prev [])
    (hprev : ∀ (C : Ct) (x : DW) (a : Ch) (e : D) (u : Rat) (p : Addr) (us : List V), C.K = K → SqL K C.H0 p us → RepL K C.H0 (x.gains.map frs) us → C.B = [] → okA x a e u → Rc C (fun vs H Q => prev (vs ++ []) H Q C8.E0) [frs x.prior, .sc (.ref p), frs (wt a), sub a, e] (Is (fr u)))
    (c__law_total : C8.Cal P w K mg base 4 "_law_total" (spTotal K) []) (c__law_deed : C8.Cal P w K mg base 5 "_law_deed" (spDeed K) []) : C8.Cal P w K mg base (j + 1) "_law_got" (spGotN word sub wt K okA) [] := by
  refine d.cal sc__law_got (fun vs H Q E h => by obtain ⟨_, _, _, _, _, _, _, r, _⟩ := h; rw [r.len]; rfl) fun f cdv A outer s H vs Q E hr h => ?_
  have hj4 : 4 ≤ j := by omega
  refine ⟨_, (pss_cons (ps_if (pt_cmpR op_eq (pe_ix (kIxT (K := K) rfl) (pv 4) pe_int (fun _ _ => rfl)) pe_str (nomark _)) (pss_one (ps_ret (C8.pe_c c__law_deed hr h5 rfl (pa_cons (pv 0) (pa_cons (pv 2) (pa_cons (pe_ix (kIxL (K := K) rfl) (pv 1) (pe_ix (kIxT (K := K) rfl) (pv 4) pe_int (fun _ _ => rfl)) (fun _ _ => rfl)) pa_nil)))))) pss_nil)
      (pss_cons (ps_set (i := 5) sc__law_got.nd rfl (Or.inl rfl) (pe_lst pa_nil))
      (pss_cons (ps_for PassesOwn.never rfl (kZip2 (K := K) rfl (by rfl) T.zipZ (pa_cons (pe_ix (kIxT (K := K) rfl) (pv 3) (pe_ix (kIxT (K := K) rfl) (pv 4) pe_int (fun _ _ => rfl)) (fun _ _ => rfl)) (pa_cons (pe_ix (kIxT (K := K) rfl) (pv 4) pe_int (fun _ _ => rfl)) pa_nil))) (kTg (K := K) rfl rfl (pgs_cons (pg_name (i := 6) sc__law_got.nd rfl (Or.inl rfl)) (pgs_cons (pg_name (i := 7) sc__law_got.nd rfl (Or.inl rfl)) pgs_nil))) (pss_one (ps_expr (pe_bm PySem.F.plainAttrs_list PySem.F.slot_list_append PySem.F.type_list_append mt_append (pv 5) (pa_cons (C8.pe_c c__law_got hr (Nat.le_refl _) rfl (pa_cons (pv 0) (pa_cons (pv 1) (pa_cons (pe_ix (kIxT (K := K) rfl) (pv 6) pe_int (fun _ _ => rfl)) (pa_cons (pe_ix (kIxT (K := K) rfl) (pv 6) pe_int (fun _ _ => rfl)) (pa_cons (pv 7) pa_nil)))))) pa_nil)))))
      (pss_one (ps_ret (C8.pe_c c__law_total hr hj4 rfl (pa_cons (pv 5) pa_nil))))))), ?_⟩
  obtain ⟨x, ws, qL, d, v, p, us, r, hl, hu, hg, q⟩ := h
  refine (?_ : Es (Ct.pure K H) (nm0 8 [frs x.prior, .sc (.ref p), frs ws, encNode word sub wt qL, d]) _ (fun _ => False) (Is (fr v))) _ H _ (sr0 (N := ["_law_prior", "_law_gains_here", "_law_weights", "_law_node_here", "_law_asker", "_law_found", "_law_answer", "_law_one"]) r) (fun _ _ _ hn _ _ => hn.elim) fun v d H' rd l _ p => q v H' l (by
    have rd : d = _ := rd
    subst rd
    exact p)
  rcases hg with ⟨i, g, h1, rfl, rfl, hd⟩ | ⟨k, qn, ds, vs', hk, l1, l2, l3, rfl, rfl, hall⟩
  · have hgi : (x.gains.map frs)[i]? = some (frs g) := by rw [List.getElem?_map, h1] <;> rfl
    exact es_seq (N1 := fun _ => False) (es_if (b := true) (et_test (ev_eqS (x := "stop") (y := "stop") (ev_ixc 0 (ev_var rfl) rfl) ev_c (decide_eq_true rfl))) (fun _ => es_ret (ev_deed ⟨x.prior, ws, g, x.W⟩ (ea_cons (ev_var rfl) (ea_cons (ev_var rfl) (ea_cons (ev_op (ev_var rfl) (ev_ixc 1 (ev_var rfl) rfl) (rv_ixL (C := Ct.pure K H) hl (fun z => nomatch z) hu hgi)) ea_nil))) hd)) fun z => nomatch z) fun _ h => h.elim
  · refine es_seq (N1 := fun nm' => nm' = nm0 8 [frs x.prior, .sc (.ref p), frs ws, encNode word sub wt qL, askD k ds]) (es_if (b := false) (et_test (ev_eqS (x := "ask") (y := "stop") (ev_ixc 0 (ev_var rfl) rfl) ev_c (decide_eq_false (by decide)))) (fun z => nomatch z) fun _ => es_next rfl) ?_
    rintro nm' rfl
    refine es_seq (N1 := fun nm' => ∃ (b : Addr) (y z : Option D), nm' = [some (.val (frs x.prior)), some (.val (.sc (.ref p))), some (.val (frs ws)), some (.val (encNode word sub wt qL)), some (.val (askD k ds)), some (.own b ((vs'.take 0).map fr)), y.map Ent.val, z.map Ent.val]) (es_asgL (Rs := fun es => es = []) (el_lst ea_nil (by simp)) fun b es he _ => ⟨b, none, none, by rw [he]; rfl⟩) ?_
    rintro nm' ⟨b, y, z, rfl⟩
    refine es_seq (N1 := fun nm' => ∃ (b : Addr) (y z : Option D), nm' = [some (.val (frs x.prior)), some (.val (.sc (.ref p))), some (.val (frs ws)), some (.val (encNode word sub wt qL)), some (.val (askD k ds)), some (.own b (vs'.map fr)), y.map Ent.val, z.map Ent.val])
      (es_for (ei_zip2 (ds := qn.map (encCh word sub wt)) (es := ds) (ea_cons (ev_ix k (ev_var rfl) (ev_ixc 1 (ev_var rfl) rfl) (node_at word sub wt hk)) (ea_cons (ev_ixc 2 (ev_var rfl) rfl) ea_nil))) (fun i nm' => ∃ (b : Addr) (y z : Option D), nm' = [some (.val (frs x.prior)), some (.val (.sc (.ref p))), some (.val (frs ws)), some (.val (encNode word sub wt qL)), some (.val (askD k ds)), some (.own b ((vs'.take i).map fr)), y.map Ent.val, z.map Ent.val])
        ⟨b, y, z, rfl⟩ (fun _ _ _ => trivial) (fun i d nm' hd hP => ?_) fun nm' hP => ?_) ?_
    · obtain ⟨b, y, z, rfl⟩ := hP
      obtain ⟨a, e, h1, h2, rfl⟩ := z2D_at hd
      rw [List.getElem?_map] at h1
      cases hqa : qn[i]? with
      | none => rw [hqa] at h1; cases h1
      | some ch =>
      rw [hqa] at h1
      obtain rfl := Option.some.inj h1
      have hi := (List.getElem?_eq_some_iff.mp hqa).1
      have hu' : vs'[i]? = some (vs'[i]'(by omega)) := List.getElem?_eq_getElem _
      generalize vs'[i]'(by omega) = u at hu'
      obtain ⟨ok, sz⟩ := hall i ch e u hqa h2 hu'
      refine ⟨_, _, eg_two, es_app (a := b) (ds := (vs'.take i).map fr) rfl (ev_callF (R := Is (fr u)) (ea_cons (ev_var rfl) (ea_cons (ev_var rfl) (ea_cons (ev_ixc 1 (ev_var rfl) rfl) (ea_cons (ev_ixc 2 (ev_var rfl) rfl) (ea_cons (ev_var rfl) ea_nil))))) (hprev (Ct.pure K H) x ch e u p us rfl hl hu rfl ok)) ?_ ?_ fun d hd => ?_⟩
      · rw [List.length_map, List.length_take]
        omega
      · intro j b' zs hj h
        rcases j with _ | _ | _ | _ | _ | _ | _ | _ | j
        · cases h
        · cases h
        · cases h
        · cases h
        · cases h
        · exact absurd rfl hj
        · cases h
        · cases h
        · cases h
      · refine ⟨b, some (encCh word sub wt ch), some e, ?_⟩
        have hd : d = _ := hd
        rw [hd, take_snoc hu']
        rfl
    · obtain ⟨b, y, z, rfl⟩ := hP
      refine ⟨b, y, z, ?_⟩
      rw [z2D_len, List.length_map, l1, Nat.min_self, ← l2, List.take_length]
    · rintro nm' ⟨b, y, z, rfl⟩
      refine es_ret (ev_Qo (enc := fun x : NL => x.2.map fr) (pre := NLok) (out := fun x => fr (tot x.2)) (1300, vs') rfl ⟨fun y hy => ?_, ?_⟩)
      · obtain ⟨i, hi, rfl⟩ := List.mem_iff_getElem.mp hy
        have hi : i < vs'.length := hi
        exact (hall i (qn[i]'(by omega)) (ds[i]'(by omega)) _ (List.getElem?_eq_getElem _) (List.getElem?_eq_getElem _) (List.getElem?_eq_getElem _)).2
      · show 1 + vs'.length * (1300 + 1) ≤ 4000
        have h5 : vs'.length * (1300 + 1) ≤ 3 * (1300 + 1) := Nat.mul_le_mul_right _ (by omega)
        omega
end
/-! .. of trees -/
section
variable {P : Program} {w : World} {K : PySem.W.Frag} {mg : Str → Option Value} {base : Heap} {aN aO aH : Addr}
/-- questions of a tree: few answers -/
def Few : (r : Nat) → T r → Prop
  | 0, _ => True
  | r + 1, t => ∀ q, q ∈ qs t → q.length ≤ 3 ∧ ∀ a, a ∈ q → Few r a.2.2
theorem AllO.few {ok : List Rat → Prop} : ∀ (r : Nat) (t : T r), AllO ok r t → Few r t
  | 0, _, _ => trivial
  | r + 1, t, h => fun q hq => ⟨(h.2 q hq).1, fun a ha => AllO.few r a.2.2 ((h.2 q hq).2 a ha).2⟩
def spIA (K : PySem.W.Frag) (r : Nat) : Sp := fun vs H Q _ => ∃ (deeds : Nat) (t : T r) (d : D), RepL K H [encT r t, .i (deeds : Int), d] vs ∧ AskOk deeds r t d ∧ Few r t ∧ ∀ v H', Ex H H' → Rep K H' (.b true) v → Q v H'
theorem cal_is_asker (T0 : Txt K mg aN aO aH) (d : Df K mg "_law_is_asker" s__law_is_asker ["_law_node_here", "_law_deeds", "_law_thing"]) (c__law_int : C8.Cal P w K mg base 1 "_law_int" (spLInt K) []) : ∀ r : Nat, C8.Cal P w K mg base (2 + r) "_law_is_asker" (spIA K r) []
  | 0 => by
    refine Df.cimp (cal_is_askerN (Ch := Empty) (fun a => nomatch a) (fun a => nomatch a) (fun a => nomatch a) (j := 1) (okA := fun _ a => nomatch a) (prev := fun _ _ _ _ => False) T0 d (Nat.le_refl _) (d.cno 1) (fun _ _ a => nomatch a) c__law_int) fun vs H Q E h => ?_
    obtain ⟨deeds, t, d, r, ha, _, q⟩ := h
    exact ⟨deeds, [], d, r, ha, fun q hq => (nomatch hq), q⟩
  | r + 1 => by
    have ih := cal_is_asker T0 d c__law_int r
    refine Df.cimp (cal_is_askerN (Ch := An r) (fun a : An r => wordD a.1) (fun a : An r => encT r a.2.2) (fun a : An r => a.2.1) (j := 2 + r) (okA := fun deeds a e => AskOk deeds r a.2.2 e ∧ Few r a.2.2) (prev := spIA K r) T0 d (by omega) ih (fun C deeds a e hK ha H vs Q l i p q => ?_) c__law_int) fun vs H Q E h => ?_
    · subst hK
      exact ⟨deeds, a.2.2, e, by rw [List.append_nil]; exact p, ha.1, ha.2, fun v H' x rv => q v _ H' rfl x.le (C.exI i x) rv⟩
    · obtain ⟨deeds, t, d, r, ha, hf, q⟩ := h
      refine ⟨deeds, qs t, d, r, ?_, fun q hq => Nat.le_trans (hf q hq).1 (by decide), q⟩
      rcases ha with h | ⟨k, q', ds, h1, h2, h3, h4⟩
      · exact .inl h
      · exact .inr ⟨k, q', ds, h1, h2, h3, fun j a e e1 e2 => ⟨h4 j a e e1 e2, (hf q' (List.mem_of_getElem? h1)).2 a (List.mem_of_getElem? e1)⟩⟩
def spGot (K : PySem.W.Frag) (r : Nat) : Sp := fun vs H Q _ => ∃ (x : DW) (ws : List Rat) (t : T r) (d : D) (v : Rat) (p : Addr) (us : List V), RepL K H [frs x.prior, .sc (.ref p), frs ws, encT r t, d] vs ∧ SqL K H p us ∧ RepL K H (x.gains.map frs) us ∧ Gets x r ws t d v ∧ ∀ u H', Ex H H' → Rep K H' (fr v) u → Q u H'
theorem cal_got (T0 : Txt K mg aN aO aH) (d : Df K mg "_law_got" s__law_got ["_law_prior", "_law_gains_here", "_law_weights", "_law_node_here", "_law_asker"]) (c__law_total : C8.Cal P w K mg base 4 "_law_total" (spTotal K) []) (c__law_deed : C8.Cal P w K mg base 5 "_law_deed" (spDeed K) []) : ∀ r : Nat, C8.Cal P w K mg base (6 + r) "_law_got" (spGot K r) []
  | 0 => by
    refine Df.cimp (cal_gotN (Ch := Empty) (fun a => nomatch a) (fun a => nomatch a) (fun a => nomatch a) (j := 5) (okA := fun _ a => nomatch a) (prev := fun _ _ _ _ => False) d T0 (Nat.le_refl _) (d.cno 5) (fun _ _ a => nomatch a) c__law_total c__law_deed) fun vs H Q E h => ?_
    obtain ⟨x, ws, t, d, v, p, us, r, hl, hu, hg, q⟩ := h
    exact ⟨x, ws, [], d, v, p, us, r, hl, hu, hg, q⟩
  | r + 1 => by
    have ih := cal_got T0 d c__law_total c__law_deed r
    refine Df.cimp (cal_gotN (Ch := An r) (fun a : An r => wordD a.1) (fun a : An r => encT r a.2.2) (fun a : An r => a.2.1) (j := 6 + r) (okA := fun x a e u => Gets x r a.2.1 a.2.2 e u) (prev := spGot K r) d T0 (by omega) ih (fun C x a e u p us hK hl hu hB ha H vs Q l i pp q => ?_) c__law_total c__law_deed) fun vs H Q E h => ?_
    · subst hK
      exact ⟨x, a.2.1, a.2.2, e, u, p, us, by rw [List.append_nil]; exact pp, l.l (by rw [hB]; exact fun z => nomatch z) hl, hu.to l.fx, ha, fun v H' x rv => q v _ H' rfl x.le (C.exI i x) rv⟩
    · obtain ⟨x, ws, t, d, v, p, us, r, hl, hu, hg, q⟩ := h
      exact ⟨x, ws, qs t, d, v, p, us, r, hl, hu, hg, q⟩
end
end Q3
namespace Q3
open PySem PySem.Spec PyProof.Rows L2
/-! words, answers -/
/-- what is walked by a comprehension: lists that nobody else knows may be among it -/
def EiL (C : Ct) (nm : Nm) (wi : TI) (ds : List D) : Prop := ∀ σ H (R : It → Hp → Prop), SR C nm σ H → (∀ J H1 G, Le C.B H H1 → C.I H1 → IsIt J C ds G → (∀ H', Le C.B H1 H' → G H') → R J H1) → wi σ H R
section
variable {C : Ct} {nm : Nm} {wi : TI} {g : TG} {ds : List D}
theorem el_lcL {te : TE} {vs : List Nat} {Rs : List D → Prop} (hi : EiL C nm wi ds) (hz : ds.length ≤ 1000) (P : Nat → List D → Prop) (h0 : P 0 [])
    (hs : ∀ i d acc, ds[i]? = some d → P i acc → ∃ nm' js, Eg C (wipeN nm vs) g d nm' js ∧ (∀ j ∈ js, j ∈ vs) ∧ Ev C nm' te (fun e => P (i + 1) (acc ++ [e]))) (hd : ∀ acc, P ds.length acc → Rs acc) : El C nm (tLc wi g tYes te vs) Rs := fun σ H Q S q =>
  hi σ H _ S fun J H1 G l ii it hG D hD => by
    have S1 := S.step l ii
    have fD := S1.fresh hD
    refine lc_it it.walk (Pv := fun i H' => ∃ acc us, P i acc ∧ acc.length = i ∧ H' D = some (.lst us) ∧ RepL C.K H' acc us ∧ Le C.B H1 H' ∧ C.I H') ?_ (fun i H' _ ⟨acc, us, p, _, e, r, l', i'⟩ => hG H' l') (fun i x H' H2 hi' ⟨acc, us, p, al, e, r, l', i'⟩ y => ?_) fun H' ⟨acc, us, p, _, e, r, l', i'⟩ => q D us acc H' (hd acc p) (l.alive hD) (l.trans l') i' e r
    · have x : Ex H1 (upd H1 D (.lst [])) := Ex.new hD
      exact ⟨[], [], h0, rfl, upd_same, rfl, x.le, C.exI ii x⟩
    · obtain ⟨ex, d, e1, e2⟩ := y
      obtain ⟨nm', js, hg, hj, he⟩ := hs i d acc e1 p
      have S2 : SR C (wipeN nm vs) (L2.wipe σ vs) H2 := ((S1.step l' i').ex ex).wipe vs
      refine hg _ H2 x _ S2 e2 fun σ2 S3 hl2 hsl => ?_
      rw [wipe_length] at hl2
      refine ⟨wipe_again hl2 fun k hk' => hsl k fun z => hk' (hj k z), ?_⟩
      show te σ2 H2 _
      refine he σ2 H2 _ S3 fun y ed H4 pe l4 i4 ry => ?_
      have hD4 : H4 D = some (.lst us) := l4.keep (ex.keep e) (C.notB fD)
      have r4 := (r.to ex.fx).to l4.fx
      have fx : Fx H4 (upd H4 D (.lst (us ++ [y]))) := fun b o eb f => by
        rw [upd_ne (fun z => by rw [z, hD4] at eb; cases eb; exact f)]
        exact eb
      refine ⟨us, hD4, small1000 (by rw [r4.len, al]; omega), acc ++ [ed], us ++ [y], pe, by rw [List.length_append, al] <;> rfl, upd_same, (r4.snoc ry).to fx, fun b o eb => ?_, C.st _ _ i4 fun b o eb n => ?_⟩
      · obtain ⟨o', z1, z2⟩ := (l'.trans (ex.le.trans l4)) b o eb
        refine ⟨o', ?_, z2⟩
        rw [upd_ne (ne_of_none eb hD)]
        exact z1
      · rw [upd_ne (fun z => n.elim (fun n => n (by rw [z]; exact fD)) fun f => by rw [z, hD4] at eb; cases eb; exact f)]
        exact eb
theorem ev_allL {te : TE} {vs : List Nat} (hi : EiL C nm wi ds) (hz : ds.length ≤ 1000) (hs : ∀ (i : Nat) d, ds[i]? = some d → ∃ nm' js, Eg C (wipeN nm vs) g d nm' js ∧ (∀ j ∈ js, j ∈ vs) ∧ Ev C nm' te (Is (.b true))) :
    Ev C nm (tCB (rAll C.K) (tCons (tLc wi g tYes te vs) tNil)) (Is (.b true)) := by
  have h := ev_all (C := C) (nm := nm) (bs := List.replicate ds.length true) (te := tLc wi g tYes te vs) (el_lcL hi hz (fun i acc => acc = List.replicate i (D.b true)) rfl (fun i d acc hd hacc => by
    obtain ⟨nm', js, h1, h2, h3⟩ := hs i d hd
    refine ⟨nm', js, h1, h2, h3.imp fun x hx => ?_⟩
    have hx : x = _ := hx
    rw [hacc, hx, List.replicate_succ'])
    fun acc hacc => by rw [hacc, List.map_replicate])
  rw [all_rep] at h
  exact h
/-- zip(xs, xs[1:]), xs a list of the arguments -/
theorem ei_tail {p : Addr} {us : List V} {k : Nat} (hl : SqL C.K C.H0 p us) (hB : p ∉ C.B) (hr : RepL C.K C.H0 ds us) (h0 : nm[k]? = some (some (.val (.sc (.ref p))))) : EiL C nm (RZ.iZipA C.K (tCons (tVar k) (tCons (tSl (rSlL C.K) (tVar k) (tPart (tC (.int 1))) tNoPart) tNil))) (z2D ds (ds.drop 1)) := fun σ H R S q => by
  obtain ⟨v, h1, h2⟩ := S.val h0
  have h2 : v = .ref p := h2
  subst h2
  refine ⟨.ref p, h1, .ref p, h1, 1, rfl, p, us, rfl, S.le.l hB hl, fun b hb => ?_⟩
  have ecut : cutV us (some 1) none = us.drop 1 := by
    unfold cutV
    rw [HT.sIx_none, show (some (1 : Int)) = some ((1 : Nat) : Int) from rfl, HT.sIx_nat]
    by_cases hu : us.length = 0
    · rw [List.length_eq_zero_iff.mp hu] <;> rfl
    · rw [Nat.min_eq_left (by omega), List.take_of_length_le (by rw [List.length_drop] <;> omega)]
  have x : Ex H (upd H b (.lst (us.drop 1))) := Ex.new hb
  rw [ecut]
  have l0 := S.le.trans x.le
  have nB : b ∉ C.B := C.notB (S.fresh hb)
  have hb1 : upd H b (.lst (us.drop 1)) b = some (.lst (us.drop 1)) := upd_same
  refine ⟨p, b, us, us.drop 1, rfl, .inl ⟨l0.l hB hl, .inl (.inl hb1), q _ _ (fun H' => (SqL C.K H' p us ∧ RepL C.K H' ds us) ∧ (SqL C.K H' b (us.drop 1) ∧ RepL C.K H' (ds.drop 1) (us.drop 1))) x.le (C.exI S.inv x) ⟨fun i H' hi g => ?_, fun H' g => ?_, fun i H' x H2 hi g y => ?_⟩ fun H' l' => ⟨⟨(l0.trans l').l hB hl, hr.to (l0.trans l').fx⟩, ⟨.inl (.inl (l'.keep hb1 nB)), (hr.drop 1).to (l0.trans l').fx⟩⟩⟩⟩
  · obtain ⟨⟨g1, g2⟩, ⟨g3, g4⟩⟩ := g
    rw [z2D_len, ← g2.len, ← g4.len] at hi
    exact ⟨us, us.drop 1, us[i]'(by omega), (us.drop 1)[i]'(by omega), g1, g3, List.getElem?_eq_getElem _, List.getElem?_eq_getElem _⟩
  · obtain ⟨⟨g1, g2⟩, ⟨g3, g4⟩⟩ := g
    refine ⟨us, us.drop 1, g1, g3, ?_⟩
    rw [z2D_len, g2.len, g4.len]
    omega
  · obtain ⟨⟨g1, g2⟩, ⟨g3, g4⟩⟩ := g
    obtain ⟨T, x, y, rfl, nT, rfl, hx, hy⟩ := y
    obtain ⟨d1, k1, m1⟩ := g2.getV (hx us g1)
    obtain ⟨d2, k2, m2⟩ := g4.getV (hy _ g3)
    have ex : Ex H' (upd H' T (.tup [x, y])) := Ex.new nT
    exact ⟨ex, _, z2D_get k1 k2, .tup (.inl (.inl upd_same)) (.cons (m1.to ex.fx) (.cons (m2.to ex.fx) .nil))⟩
theorem ev_ltW {ta tb : TE} {xs ys : List Int} {b : Bool} (ha : Ev C nm ta (Is (wordD xs))) (hb : Ev C nm tb (Is (wordD ys))) (h : HT.lexLt xs ys = b) : Ev C nm (tOp (rLtT C.K) ta tb) (Is (.b b)) := ev_op ha hb fun H vx vy Q l I p1 p2 q => by
  obtain ⟨a, us, rfl, h1, r1⟩ := p1
  obtain ⟨b', ws, rfl, h2, r2⟩ := p2
  rw [r1.ints] at h1
  rw [r2.ints] at h2
  rw [← h] at q
  exact ⟨a, b', xs, ys, rfl, rfl, h1, h2, q _ _ H rfl (Le.refl _ _) I rfl⟩
theorem ev_cat {ta tb : TE} {ds es : List D} (ha : Ev C nm ta (Is (.tup ds))) (hb : Ev C nm tb (Is (.tup es))) (hz : ds.length + es.length ≤ 1000) : Ev C nm (tOp (rCatA C.K) ta tb) (Is (.tup (ds ++ es))) := ev_op ha hb fun H vx vy Q l I p1 p2 q => by
  obtain ⟨a, us, rfl, h1, r1⟩ := p1
  obtain ⟨b, ws, rfl, h2, r2⟩ := p2
  refine ⟨a, b, us, ws, rfl, rfl, h1, h2, Nat.le_of_lt (small1000 (by rw [r1.len, r2.len]; exact hz)), fun e => ?_, fun _ e => ?_, fun _ _ c hc => ?_⟩
  · have z := r1.len
    rw [e] at z
    rw [List.eq_nil_of_length_eq_zero z.symm] at q
    exact q _ _ H rfl (Le.refl _ _) I ⟨b, ws, rfl, h2, r2⟩
  · have z := r2.len
    rw [e] at z
    rw [List.eq_nil_of_length_eq_zero z.symm, List.append_nil] at q
    exact q _ _ H rfl (Le.refl _ _) I ⟨a, us, rfl, h1, r1⟩
  · have x : Ex H (upd H c (.tup (us ++ ws))) := Ex.new hc
    exact q _ _ _ rfl x.le (C.exI I x) (.tup (.inl (.inl upd_same)) ((r2.to x.fx).app (r1.to x.fx)))
end
section
variable {P : Program} {w : World} {K : PySem.W.Frag} {mg : Str → Option Value} {base : Heap} {aN aO aH : Addr}
structure WordOk (xs : List Int) : Prop where
  few : xs.length ≤ 8
  all : ∀ x ∈ xs, 0 ≤ x ∧ x ≤ 99
theorem ev_within {C : Ct} {nm : Nm} {E : XK} {t : TA} (a b c : Int) (h : Ea C nm t (fun es => es = [.i a, .i b, .i c])) (h1 : b ≤ a) (h2 : a ≤ c) : Ev C nm (tCall (spWithin C.K) [] E t) (Is (.b true)) := ev_lint a b c h h1 h2
abbrev spWord (K : PySem.W.Frag) : Sp := spP K (fun xs : List Int => [wordD xs]) WordOk (fun _ => .b true)
theorem cal_is_word (T : Txt K mg aN aO aH) (d : Df K mg "is_word" s_is_word ["thing"]) (c_is_within : C8.Cal P w K mg base 2 "is_within" (spWithin K) []) (c_is_sized : C8.Cal P w K mg base 1 "is_sized" (spSized K) []) : C8.Cal P w K mg base 3 "is_word" (spWord K) [] := by
  refine d.cal sc_is_word (fun vs H Q E h => spP_len (fun _ => rfl) h) fun f cdv A outer s H vs Q E hr h => ?_
  refine ⟨_, (pss_one (ps_ret (pe_and (C8.pe_c c_is_sized hr (by decide) rfl (pa_cons (pv 0) (pa_cons pe_int (pa_cons (C8.pe_gc rfl T.MOST_NUMBERS) pa_nil)))) (pe_one (pe_callB (kAll (K := K) rfl rfl) (by rfl) T.allZ (by decide +kernel) (pa_cons (pe_lc rfl sc_is_word.nd (own := [("number", 1)]) (g := (gName 1)) (tt := tYes) (kPiT (K := K) rfl (pv 0)) (blkOk_by (by kernel_rfl)) (fun _ _ _ _ _ => (pg_name (i := 1) sc_is_word.nd rfl (Or.inl rfl))) (fun _ _ _ _ _ => pts_nil) (fun _ _ _ _ _ => (C8.pe_c c_is_within hr (by decide) rfl (pa_cons (pv 1) (pa_cons pe_int (pa_cons (C8.pe_gc rfl T.MOST_NUMBER) pa_nil)))))) pa_nil)))))), spP_body h fun xs hx => ?_⟩
  have hl : (xs.map D.i).length ≤ 8 := by rw [List.length_map]; exact hx.few
  refine es_ret (ev_and (a := true) (b := true) (ev_sizedT (ds := xs.map D.i) (ea_cons (ev_var rfl) (ea_cons ev_c (ea_cons ev_c ea_nil))) (by omega) (by omega)) (fun _ => ev_allT (ds := xs.map D.i) (ei_tup (ev_var rfl)) trivial (by omega) fun i d hd => ?_) rfl)
  rw [List.getElem?_map] at hd
  cases hq : xs[i]? with
  | none => rw [hq] at hd; cases hd
  | some n =>
  rw [hq] at hd
  obtain rfl := Option.some.inj hd
  obtain ⟨h1, h2⟩ := hx.all n (List.mem_of_getElem? hq)
  exact ⟨_, _, eg_name, by simp, ev_within n 0 99 (ea_cons (ev_var rfl) (ea_cons ev_c (ea_cons ev_c ea_nil))) h1 h2⟩
structure AnIn where
  W : Nat
  word : List Int
  ws : List Rat
  sub : D
structure AnOk (x : AnIn) : Prop where
  w : WordOk x.word
  len : x.ws.length = x.W
  w4 : x.W ≤ 4
  nn : ∀ q ∈ x.ws, 0 ≤ q ∧ q ≤ 1
abbrev spAnswer (K : PySem.W.Frag) : Sp := spP K (fun x : AnIn => [.i (x.W : Int), .tup [wordD x.word, frs x.ws, x.sub]]) AnOk (fun _ => .b true)
theorem cal_is_answer (T : Txt K mg aN aO aH) (d : Df K mg "is_answer" s_is_answer ["worlds", "thing"]) (c_is_triple : C8.Cal P w K mg base 1 "is_triple" (spTriple K) []) (c_is_sized : C8.Cal P w K mg base 1 "is_sized" (spSized K) []) (c_is_word : C8.Cal P w K mg base 3 "is_word" (spWord K) []) (c_is_chance : C8.Cal P w K mg base 3 "is_chance" (spIsChance K) []) : C8.Cal P w K mg base 4 "is_answer" (spAnswer K) [] := by
  refine d.cal sc_is_answer (fun vs H Q E h => spP_len (fun _ => rfl) h) fun f cdv A outer s H vs Q E hr h => ?_
  refine ⟨_, (pss_cons (ps_if (PW.pt (pw_or (pt_not (pt_val (C8.pe_c c_is_triple hr (by decide) rfl (pa_cons (pv 1) pa_nil)))) (pw_or (pt_not (pt_val (C8.pe_c c_is_word hr (by decide) rfl (pa_cons (pe_ix (kIxT (K := K) rfl) (pv 1) pe_int (fun _ _ => rfl)) pa_nil)))) (pw_or1 (pt_not (pt_val (C8.pe_c c_is_sized hr (by decide) rfl (pa_cons (pe_ix (kIxT (K := K) rfl) (pv 1) pe_int (fun _ _ => rfl)) (pa_cons (pv 0) (pa_cons (pv 0) pa_nil)))))))))) (pss_one (ps_ret pe_bl)) pss_nil)
      (pss_one (ps_ret (pe_callB (kAll (K := K) rfl rfl) (by rfl) T.allZ (by decide +kernel) (pa_cons (pe_lc rfl sc_is_answer.nd (own := [("chance", 2)]) (g := (gName 2)) (tt := tYes) (kPiT (K := K) rfl (pe_ix (kIxT (K := K) rfl) (pv 1) pe_int (fun _ _ => rfl))) (blkOk_by (by kernel_rfl)) (fun _ _ _ _ _ => (pg_name (i := 2) sc_is_answer.nd rfl (Or.inl rfl))) (fun _ _ _ _ _ => pts_nil) (fun _ _ _ _ _ => (C8.pe_c c_is_chance hr (by decide) rfl (pa_cons (pv 2) pa_nil)))) pa_nil))))), spP_body h fun x hx => ?_⟩
  have hl : (x.ws.map fr).length = x.W := by rw [List.length_map]; exact hx.len
  have h4 := hx.w4
  refine es_seq (N1 := fun nm' => nm' = nm0 3 [.i (x.W : Int), .tup [wordD x.word, frs x.ws, x.sub]]) (es_if (b := false) (et_or (a := false) (et_not (a := true) (et_val (ev_P (pre := fun _ => True) (enc := fun x : List D => [.tup x]) (out := fun x => .b (decide ((x.length : Int) = 3))) [wordD x.word, frs x.ws, x.sub] (ea_cons (ev_var rfl) ea_nil) trivial)))
    (fun _ => et_or (a := false) (et_not (a := true) (et_val (ev_P (pre := WordOk) (enc := fun xs : List Int => [wordD xs]) (out := fun _ => .b true) x.word (ea_cons (ev_ixc 0 (ev_var rfl) rfl) ea_nil) hx.w))) (fun _ => et_not (a := true) (et_val (ev_sizedT (ds := x.ws.map fr) (ea_cons (ev_ixc 1 (ev_var rfl) rfl) (ea_cons (ev_var rfl) (ea_cons (ev_var rfl) ea_nil))) (by omega) (by omega)))) rfl) rfl) (fun z => nomatch z) fun _ => es_next rfl) ?_
  rintro nm' rfl
  refine es_ret (ev_allT (ds := x.ws.map fr) (ei_tup (ev_ixc 1 (ev_var rfl) rfl)) trivial (by omega) fun i d hd => ?_)
  obtain ⟨q, hq, rfl⟩ := fr_at hd
  exact ⟨_, _, eg_name, by simp, ev_P (pre := fun q : Rat => 0 ≤ q ∧ q ≤ 1) (enc := fun q : Rat => [fr q]) (out := fun _ => .b true) q (ea_cons (ev_var rfl) ea_nil) (hx.nn q (List.mem_of_getElem? hq))⟩
/-! words in order -/
structure RiseOk (xs : List (List Int)) : Prop where
  few : xs.length ≤ 12
  up : ∀ (i : Nat) (a b : List Int), xs[i]? = some a → xs[i + 1]? = some b → HT.lexLt a b = true
abbrev spRise (K : PySem.W.Frag) : Sp := spQ K (fun xs : List (List Int) => xs.map wordD) RiseOk (fun _ => .b true)
theorem cal_are_rising (T : Txt K mg aN aO aH) (d : Df K mg "are_rising" s_are_rising ["things"]) : C8.Cal P w K mg base 1 "are_rising" (spRise K) [] := by
  refine d.cal sc_are_rising (fun vs H Q E h => spQ_len h) fun f cdv A outer s H vs Q E hr h => ?_
  refine ⟨_, (pss_one (ps_ret (pe_callB (kAll (K := K) rfl rfl) (by rfl) T.allZ (by decide +kernel) (pa_cons (pe_lc rfl sc_are_rising.nd (own := [("one", 1), ("other", 2)]) (g := (gTup K 2 (gCons (gName 1) (gCons (gName 2) gNil)))) (tt := tYes) (kZip2 (K := K) rfl (by rfl) T.zipZ (pa_cons (pv 0) (pa_cons (pe_slice (kSlL (K := K) rfl) (pv 0) (po_some pe_int) po_none) pa_nil))) (blkOk_by (by kernel_rfl)) (fun _ _ _ _ _ => (kTg (K := K) rfl rfl (pgs_cons (pg_name (i := 1) sc_are_rising.nd rfl (Or.inl rfl)) (pgs_cons (pg_name (i := 2) sc_are_rising.nd rfl (Or.inl rfl)) pgs_nil)))) (fun _ _ _ _ _ => pts_nil) (fun _ _ _ _ _ => (pe_cmpR (kLtT (K := K) rfl (hu0 hr)) (pv 1) (pv 2) (nomark _)))) pa_nil)))), spQ_body h fun xs p us hl r hx => ?_⟩
  have h12 := hx.few
  refine es_ret (ev_allL (ei_tail (C := Ct.pure K H) hl (fun z => nomatch z) r rfl) (by rw [z2D_len, List.length_drop, List.length_map]; omega) fun i d hd => ?_)
  obtain ⟨a, b, h1, h2, rfl⟩ := z2D_at hd
  rw [List.getElem?_map] at h1
  rw [List.getElem?_drop, List.getElem?_map, Nat.add_comm 1 i] at h2
  cases e1 : xs[i]? with
  | none => rw [e1] at h1; cases h1
  | some a1 =>
  cases e2 : xs[i + 1]? with
  | none => rw [e2] at h2; cases h2
  | some b1 =>
  rw [e1] at h1
  rw [e2] at h2
  obtain rfl := Option.some.inj h1
  obtain rfl := Option.some.inj h2
  exact ⟨_, _, eg_two, by simp, ev_ltW (C := Ct.pure K H) (xs := a1) (ys := b1) (ev_var rfl) (ev_var rfl) (hx.up i a1 b1 e1 e2)⟩
end
end Q3
namespace Q3
open PySem PySem.Spec PyProof.Rows L2
/-! a comprehension of two clauses -/
theorem SR.bump {C : Ct} {nm : Nm} {σ : L2.St} {H : Hp} {D : Addr} {us us' : List V} (S : SR C nm σ H) (h0 : C.H0 D = none) (hD : H D = some (.lst us)) (hn : ∀ (i : Nat) (a : Addr) (zs : List Q3.D), nm[i]? ≠ some (some (.own a zs))) : SR C nm σ (upd H D (.lst us')) := by
  have fx : Fx H (upd H D (.lst us')) := fun b o eb f => by
    rw [upd_ne (fun z => by rw [z, hD] at eb; cases eb; exact f)]
    exact eb
  refine ⟨fun b o eb => ?_, C.st _ _ S.inv fun b o eb n => ?_, S.len, fun i e he => ?_⟩
  · obtain ⟨o', z1, z2⟩ := S.le b o eb
    exact ⟨o', by rw [upd_ne (ne_of_none eb h0)]; exact z1, z2⟩
  · rw [upd_ne (fun z => n.elim (fun n => n (by rw [z]; exact h0)) fun f => by rw [z, hD] at eb; cases eb; exact f)]
    exact eb
  · obtain ⟨v, h1, h2⟩ := S.at_ i e he
    refine ⟨v, h1, ?_⟩
    cases e with
    | val d => exact Rep.to h2 fx
    | own a ds => exact absurd he (hn i a ds)
theorem el_lc2 {C : Ct} {nm : Nm} {wi wi1 : TI} {g g1 : TG} {ds : List D} {Kp : Nm → Prop} {te : TE} {vs vs1 : List Nat} {Rs : List D → Prop} (hi : Ei C nm wi ds Kp) (hk : Kp nm) (P : Nat → List D → Prop) (h0 : P 0 [])
    (hs : ∀ i d acc, ds[i]? = some d → P i acc → ∃ nm2 js ds1 Kp1, Eg C (wipeN nm vs) g d nm2 js ∧ (∀ j ∈ js, j ∈ vs) ∧ Ei C nm2 wi1 ds1 Kp1 ∧ Kp1 nm2 ∧ (∀ (i : Nat) (a : Addr) (zs : List Q3.D), nm2[i]? ≠ some (some (.own a zs))) ∧ ∃ P1 : Nat → List D → Prop, P1 0 acc ∧ (∀ j acc1, P1 j acc1 → acc1.length ≤ 1000) ∧
      (∀ j d1 acc1, ds1[j]? = some d1 → P1 j acc1 → ∃ nm3 js1, Eg C (wipeN nm2 vs1) g1 d1 nm3 js1 ∧ (∀ k ∈ js1, k ∈ vs1) ∧ Ev C nm3 te (fun e => P1 (j + 1) (acc1 ++ [e]))) ∧ ∀ acc1, P1 ds1.length acc1 → P (i + 1) acc1) (hd : ∀ acc, P ds.length acc → Rs acc) :
    El C nm (tLc2 wi g tYes wi1 g1 tYes te vs vs1) Rs := fun σ H Q S q => hi σ H _ S fun J H1 G l ii it hG D hD => by
  have S1 := S.step l ii
  have fD := S1.fresh hD
  have x0 : Ex H1 (upd H1 D (.lst [])) := Ex.new hD
  refine ⟨fun i m H' => m = ds.length - i ∧ i ≤ ds.length ∧ ∃ acc us, P i acc ∧ H' D = some (.lst us) ∧ RepL C.K H' acc us ∧ Le C.B H1 H' ∧ C.I H', ⟨ds.length, by simp, Nat.zero_le _, [], [], h0, upd_same, rfl, x0.le, C.exI ii x0⟩, ?_⟩
  rintro i m H' ⟨rfl, hile, acc, us, p, e, r, l', i'⟩
  have gg := hG nm σ H' hk (S1.step l' i') l'.fx
  by_cases hlt : i < ds.length
  · refine .inr ⟨it.go i H' hlt gg, fun H' => ∃ acc us, P (i + 1) acc ∧ H' D = some (.lst us) ∧ RepL C.K H' acc us ∧ Le C.B H1 H' ∧ C.I H', fun H' p' => ⟨ds.length - (i + 1), by omega, rfl, hlt, p'⟩, fun x H2 y => ?_⟩
    obtain ⟨ex, d, e1, e2⟩ := it.yld i H' x H2 hlt gg y
    obtain ⟨nm2, js, ds1, Kp1, hg, hj, hi1, hk1, hno, P1, p0, hz, hs1, hd1⟩ := hs i d acc e1 p
    have S2 : SR C (wipeN nm vs) (L2.wipe σ vs) H2 := ((S1.step l' i').ex ex).wipe vs
    refine hg _ H2 x _ S2 e2 fun σ2 S3 hl2 hsl => ?_
    rw [wipe_length] at hl2
    refine ⟨wipe_again hl2 fun k hk' => hsl k fun z => hk' (hj k z), ?_⟩
    show wi1 σ2 H2 _
    refine hi1 σ2 H2 _ S3 fun J1 H4 G1 l4 ii4 it1 hG1 => ?_
    have S4 := S3.step l4 ii4
    have e4 : H4 D = some (.lst us) := l4.keep (ex.keep e) (C.notB fD)
    have l14 : Le C.B H1 H4 := l'.trans (ex.le.trans l4)
    refine ⟨fun j k H' => k = ds1.length - j ∧ j ≤ ds1.length ∧ ∃ acc us, P1 j acc ∧ H' D = some (.lst us) ∧ RepL C.K H' acc us ∧ Le C.B H1 H' ∧ Fx H4 H' ∧ SR C nm2 σ2 H', ⟨ds1.length, by simp, Nat.zero_le _, acc, us, p0, e4, (r.to ex.fx).to l4.fx, l14, Fx.refl _, S4⟩, ?_⟩
    rintro j k H5 ⟨rfl, hjle, acc1, us1, p1, e5, r5, l5, f5, S5⟩
    have g5 := hG1 nm2 σ2 H5 hk1 S5 f5
    by_cases hlt1 : j < ds1.length
    · refine .inr ⟨it1.go j H5 hlt1 g5, fun H' => ∃ acc us, P1 (j + 1) acc ∧ H' D = some (.lst us) ∧ RepL C.K H' acc us ∧ Le C.B H1 H' ∧ Fx H4 H' ∧ SR C nm2 σ2 H', fun H' p' => ⟨ds1.length - (j + 1), by omega, rfl, hlt1, p'⟩, fun x1 H6 y1 => ?_⟩
      obtain ⟨ex1, d1, f1, f2⟩ := it1.yld j H5 x1 H6 hlt1 g5 y1
      obtain ⟨nm3, js1, hg3, hj3, he⟩ := hs1 j d1 acc1 f1 p1
      refine hg3 _ H6 x1 _ ((S5.ex ex1).wipe vs1) f2 fun σ3 S6 hl3 hsl3 => ?_
      rw [wipe_length] at hl3
      refine ⟨wipe_again hl3 fun k hk' => hsl3 k fun z => hk' (hj3 k z), ?_⟩
      show te σ3 H6 _
      refine he σ3 H6 _ S6 fun y ed H7 pe l7 i7 ry => ?_
      have hD7 : H7 D = some (.lst us1) := l7.keep (ex1.keep e5) (C.notB fD)
      have r7 := (r5.to ex1.fx).to l7.fx
      have fx : Fx H7 (upd H7 D (.lst (us1 ++ [y]))) := fun b o eb f => by
        rw [upd_ne (fun z => by rw [z, hD7] at eb; cases eb; exact f)]
        exact eb
      refine ⟨us1, hD7, small1000 (by rw [r7.len]; exact hz j acc1 p1), acc1 ++ [ed], us1 ++ [y], pe, upd_same, (r7.snoc ry).to fx, fun b o eb => ?_, ((f5.trans ex1.fx).trans l7.fx).trans fx, ((S5.ex ex1).step l7 i7).bump fD hD7 hno⟩
      obtain ⟨o', z1, z2⟩ := (l5.trans (ex1.le.trans l7)) b o eb
      exact ⟨o', by rw [upd_ne (ne_of_none eb hD)]; exact z1, z2⟩
    · have ej : j = ds1.length := by omega
      subst ej
      exact .inl ⟨it1.stop H5 g5, acc1, us1, hd1 acc1 p1, e5, r5, l5, S5.inv⟩
  · have ei : i = ds.length := by omega
    subst ei
    exact .inl ⟨it.stop H' gg, q D us acc H' (hd acc p) (l.alive hD) (l.trans l') i' e r⟩
section
variable {P : Program} {w : World} {K : PySem.W.Frag} {mg : Str → Option Value} {base : Heap} {aN aO aH : Addr}
variable {Ch : Type} (word sub : Ch → D) (wt : Ch → List Rat) (wI : Ch → List Int)
/-- a question that a house takes -/
structure QOk (W : Nat) (ahead : List Rat) (q : List Ch) : Prop where
  lo : 1 ≤ q.length
  hi : q.length ≤ 3
  rise : RiseOk (q.map wI)
  cols : ∀ i, i < W → tot (q.map fun a => (wt a).getD i 0) = ahead.getD i 0
  al : ahead.length = W
  words : ∀ a ∈ q, WordOk (wI a)
  len : ∀ a ∈ q, (wt a).length = W
  nn : ∀ a ∈ q, ∀ x ∈ wt a, (0 ≤ x ∧ x ≤ 1) ∧ Sz 14 x
  w1 : 1 ≤ W
  w4 : W ≤ 4
theorem ch_at {q : List Ch} {i : Nat} {d : D} (h : (q.map (encCh word sub wt))[i]? = some d) : ∃ a, q[i]? = some a ∧ a ∈ q ∧ d = encCh word sub wt a := by
  rw [List.getElem?_map] at h
  cases hq : q[i]? with
  | none => rw [hq] at h; cases h
  | some a =>
    rw [hq] at h
    exact ⟨a, rfl, List.mem_of_getElem? hq, (Option.some.inj h).symm⟩
/-! added_weights -/
structure ColIn (Ch : Type) where
  W : Nat
  q : List Ch
def cols (W : Nat) (q : List Ch) : List Rat := (List.range W).map fun i => tot (q.map fun a => (wt a).getD i 0)
structure ColOk (x : ColIn Ch) : Prop where
  w4 : x.W ≤ 4
  hi : x.q.length ≤ 3
  len : ∀ a ∈ x.q, (wt a).length = x.W
  sz : ∀ a ∈ x.q, ∀ y ∈ wt a, Sz 14 y
abbrev spAdded (K : PySem.W.Frag) : Sp := spP K (fun x : ColIn Ch => [.i (x.W : Int), qD word sub wt x.q]) (ColOk wt) (fun x => frs (cols wt x.W x.q))
theorem cal_added_weights (T : Txt K mg aN aO aH) (d : Df K mg "added_weights" s_added_weights ["worlds", "question"]) (c_total : C8.Cal P w K mg base 4 "total" (spTotal K) []) : C8.Cal P w K mg base 5 "added_weights" (spAdded word sub wt K) [] := by
  refine d.cal sc_added_weights (fun vs H Q E h => spP_len (fun _ => rfl) h) fun f cdv A outer s H vs Q E hr h => ?_
  refine ⟨_, (pss_one (ps_ret (pe_callTy (kTuple (K := K) rfl rfl) (by rfl) T.tupleZ (by decide +kernel) (pa_cons (pe_lc rfl sc_added_weights.nd (own := [("world", 3)]) (g := (gName 3)) (tt := tYes) (pi_range1 (by rfl) T.rangeZ (pa_cons (pv 0) pa_nil)) (blkOk_by (by kernel_rfl)) (fun _ _ _ _ _ => (pg_name (i := 3) sc_added_weights.nd rfl (Or.inr rfl))) (fun _ _ _ _ _ => pts_nil) (fun _ _ _ _ _ => (C8.pe_c c_total hr (by decide) rfl (pa_cons (pe_lc rfl sc_added_weights.nd (own := [("answer", 2)]) (g := (gName 2)) (tt := tYes) (kPiT (K := K) rfl (pv 1)) (blkOk_by (by kernel_rfl)) (fun _ _ _ _ _ => (pg_name (i := 2) sc_added_weights.nd rfl (Or.inl rfl))) (fun _ _ _ _ _ => pts_nil) (fun _ _ _ _ _ => (pe_ix (kIxT (K := K) rfl) (pe_ix (kIxT (K := K) rfl) (pv 2) pe_int (fun _ _ => rfl)) (pv 3) (fun _ _ => rfl)))) pa_nil)))) pa_nil)))), spP_body h fun x hx => ?_⟩
  have h4 := hx.w4
  have h3 := hx.hi
  have e : frs (cols wt x.W x.q) = .tup ((List.range x.W).map fun i => fr (tot (x.q.map fun a => (wt a).getD i 0))) := by
    unfold frs cols
    rw [List.map_map]
    rfl
  rw [e]
  refine es_ret (ev_tupL1 (el_lc (ei_range (n := x.W) (ea_cons (ev_var rfl) ea_nil) (by omega)) trivial (by rw [List.length_map, List.length_range]; omega) (fun i acc => acc = (List.range i).map fun i => fr (tot (x.q.map fun a => (wt a).getD i 0))) rfl (fun i d acc hd hacc => ?_) fun acc hacc => by rw [hacc, List.length_map, List.length_range]))
  have hi : i < x.W := by
    have z := (List.getElem?_eq_some_iff.mp hd).1
    rw [List.length_map, List.length_range] at z
    exact z
  rw [range_at hi] at hd
  obtain rfl := Option.some.inj hd
  refine ⟨_, _, eg_name, by simp, Ev.imp (Ra := Is (fr (tot (x.q.map fun a => (wt a).getD i 0)))) (ev_Q (enc := fun x : NL => x.2.map fr) (pre := NLok) (out := fun x => fr (tot x.2)) (14, x.q.map fun a => (wt a).getD i 0) (el_lc (ei_tup (ds := x.q.map (encCh word sub wt)) (ev_var rfl)) trivial (by rw [List.length_map]; omega) (fun j acc => acc = ((x.q.take j).map fun a => (wt a).getD i 0).map fr) rfl (fun j d acc hd hacc => ?_) fun acc hacc => by rw [hacc, List.length_map, List.take_length]) ⟨fun y hy => ?_, ?_⟩) fun y hy => ?_⟩
  · obtain ⟨a, ha, ham, rfl⟩ := ch_at word sub wt hd
    have hl : i < (wt a).length := by rw [hx.len a ham]; exact hi
    have hg : ((wt a).map fr)[i]? = some (fr ((wt a).getD i 0)) := by
      rw [List.getElem?_map, List.getElem?_eq_getElem hl, List.getD_eq_getElem?_getD, List.getElem?_eq_getElem hl] <;> rfl
    refine ⟨_, _, eg_name, by simp, (ev_ix i (ev_ixc 1 (ev_var rfl) rfl) (ev_var rfl) hg).imp fun x hx => ?_⟩
    have hx : x = _ := hx
    rw [hacc, hx, take_snoc ha, List.map_append]
    rfl
  · obtain ⟨a, ha, rfl⟩ := List.mem_map.mp hy
    have hl : i < (wt a).length := by rw [hx.len a ha]; exact hi
    rw [List.getD_eq_getElem?_getD, List.getElem?_eq_getElem hl]
    exact hx.sz a ha _ (List.getElem_mem hl)
  · show 1 + (x.q.map fun a => (wt a).getD i 0).length * (14 + 1) ≤ 4000
    rw [List.length_map]
    omega
  · have hy : y = _ := hy
    rw [hacc, hy, List.range_succ, List.map_append]
    rfl
theorem qok_cols {W : Nat} {ahead : List Rat} {q : List Ch} (h : QOk wt wI W ahead q) : cols wt W q = ahead := by
  refine List.ext_getElem? fun i => ?_
  unfold Q3.cols
  rw [List.getElem?_map]
  by_cases hi : i < W
  · rw [List.getElem?_range hi]
    show some (tot (q.map fun a => (wt a).getD i 0)) = _
    have hl : i < ahead.length := by rw [h.al]; exact hi
    rw [h.cols i hi, List.getD_eq_getElem?_getD, List.getElem?_eq_getElem hl]
    rfl
  · rw [List.getElem?_eq_none (by rw [List.length_range]; omega), List.getElem?_eq_none (by rw [h.al]; omega)]
    rfl
/-! wrong_in_question, wrong_in_node -/
theorem ev_notN {C : Ct} {nm : Nm} {ta : TE} (ha : Ev C nm ta (Is (.sc .non))) : Ev C nm (tOp (fun x y H Q => y = .non ∧ Q (.bl (!decide (x = .non))) H) ta (tC .non)) (Is (.b false)) := ev_op ha ev_c fun H vx vy Q l I p1 p2 q => by
  have p1 : vx = .non := p1
  have p2 : vy = .non := p2
  rw [p1, p2]
  exact ⟨rfl, q _ _ H rfl (Le.refl _ _) I rfl⟩
theorem snoc_len {pl : List D} {d : D} {m : Nat} (h : pl.length ≤ m) : (pl ++ [d]).length ≤ m + 1 := by
  rw [List.length_append]
  exact Nat.succ_le_succ h
def spWQ (K : PySem.W.Frag) (okC : Nat → Ch → Prop) (m : Nat) : Sp := fun vs H Q _ => ∃ (W : Nat) (ahead : List Rat) (q : List Ch) (pl : List D), RepL K H [.i (W : Int), qD word sub wt q, frs ahead, .tup pl] vs ∧ QOk wt wI W ahead q ∧ pl.length ≤ m ∧ (∀ a ∈ q, okC W a) ∧ ∀ v H', Ex H H' → Rep K H' (.sc .non) v → Q v H'
theorem cal_wrong_q {j m : Nat} {okC : Nat → Ch → Prop} {prev : Sp} (hw : ∀ a, word a = wordD (wI a)) (T : Txt K mg aN aO aH) (d : Df K mg "wrong_in_question" s_wrong_in_question ["worlds", "question", "ahead", "place"]) (h5 : 5 ≤ j) (hm : m ≤ 500) (c_wrong_in_node : C8.Cal P w K mg base j "wrong_in_node" prev [])
    (hprev : ∀ (C : Ct) (W : Nat) (a : Ch) (pl : List D), C.K = K → okC W a → pl.length ≤ m + 1 → Rc C (fun vs H Q => prev (vs ++ []) H Q C8.E0) [.i (W : Int), sub a, frs (wt a), .tup pl] (Is (.sc .non)))
    (c_is_sized : C8.Cal P w K mg base 1 "is_sized" (spSized K) []) (c_is_answer : C8.Cal P w K mg base 4 "is_answer" (spAnswer K) []) (c_are_rising : C8.Cal P w K mg base 1 "are_rising" (spRise K) []) (c_added_weights : C8.Cal P w K mg base 5 "added_weights" (spAdded word sub wt K) []) :
    C8.Cal P w K mg base (j + 1) "wrong_in_question" (spWQ word sub wt wI K okC m) [] := by
  refine d.cal sc_wrong_in_question (fun vs H Q E h => by obtain ⟨_, _, _, _, r, _⟩ := h; rw [r.len]; rfl) fun f cdv A outer s H vs Q E hr h => ?_
  have h1 : 1 ≤ j := by omega
  have h4 : 4 ≤ j := by omega
  refine ⟨_, (pss_cons (ps_if (pt_not (pt_val (C8.pe_c c_is_sized hr h1 rfl (pa_cons (pv 1) (pa_cons pe_int (pa_cons (C8.pe_gc rfl T.MOST_ANSWERS) pa_nil)))))) (pss_one (ps_ret (pv 3))) pss_nil)
      (pss_cons (ps_for PassesOwn.never rfl (kEnum (K := K) rfl (by rfl) T.enumerateZ (pa_cons (pv 1) pa_nil)) (kTg (K := K) rfl rfl (pgs_cons (pg_name (i := 4) sc_wrong_in_question.nd rfl (Or.inl rfl)) (pgs_cons (pg_name (i := 5) sc_wrong_in_question.nd rfl (Or.inl rfl)) pgs_nil))) (pss_one (ps_if (pt_not (pt_val (C8.pe_c c_is_answer hr h4 rfl (pa_cons (pv 0) (pa_cons (pv 5) pa_nil))))) (pss_one (ps_ret (pe_op (kCat (K := K) rfl) (pv 3) (pe_tup (pa_cons (pv 4) pa_nil))))) pss_nil)))
      (pss_cons (ps_if (PW.pt (pw_or (pt_not (pt_val (C8.pe_c c_are_rising hr h1 rfl (pa_cons (pe_lc rfl sc_wrong_in_question.nd (own := [("answer", 5)]) (g := (gName 5)) (tt := tYes) (kPiT (K := K) rfl (pv 1)) (blkOk_by (by kernel_rfl)) (fun _ _ _ _ _ => (pg_name (i := 5) sc_wrong_in_question.nd rfl (Or.inl rfl))) (fun _ _ _ _ _ => pts_nil) (fun _ _ _ _ _ => (pe_ix (kIxT (K := K) rfl) (pv 5) pe_int (fun _ _ => rfl)))) pa_nil)))) (pw_or1 (pt_cmpR (kNeD (K := K) rfl (hu64 hr)) (C8.pe_c c_added_weights hr h5 rfl (pa_cons (pv 0) (pa_cons (pv 1) pa_nil))) (pv 2) (nomark _))))) (pss_one (ps_ret (pv 3))) pss_nil)
      (pss_cons (ps_for PassesOwn.never rfl (kEnum (K := K) rfl (by rfl) T.enumerateZ (pa_cons (pv 1) pa_nil)) (kTg (K := K) rfl rfl (pgs_cons (pg_name (i := 4) sc_wrong_in_question.nd rfl (Or.inl rfl)) (pgs_cons (pg_name (i := 5) sc_wrong_in_question.nd rfl (Or.inl rfl)) pgs_nil))) (pss_cons (ps_set (i := 6) sc_wrong_in_question.nd rfl (Or.inl rfl) (C8.pe_c c_wrong_in_node hr (Nat.le_refl _) rfl (pa_cons (pv 0) (pa_cons (pe_ix (kIxT (K := K) rfl) (pv 5) pe_int (fun _ _ => rfl)) (pa_cons (pe_ix (kIxT (K := K) rfl) (pv 5) pe_int (fun _ _ => rfl)) (pa_cons (pe_op (kCat (K := K) rfl) (pv 3) (pe_tup (pa_cons (pv 4) pa_nil))) pa_nil))))))
      (pss_one (ps_if (pt_cmpR op_notN (pv 6) pe_non (nomark _)) (pss_one (ps_ret (pv 6))) pss_nil))))
      (pss_one (ps_ret pe_non)))))), ?_⟩
  obtain ⟨W, ahead, qn, pl, r, hq, hpl, hall, q⟩ := h
  refine (?_ : Es (Ct.pure K H) (nm0 7 [.i (W : Int), qD word sub wt qn, frs ahead, .tup pl]) _ (fun _ => False) (Is (.sc .non))) _ H _ (sr0 (N := ["worlds", "question", "ahead", "place", "number", "answer", "wrong"]) r) (fun _ _ _ hn _ _ => hn.elim) fun v d H' rd l _ p => q v H' l (by
    have rd : d = _ := rd
    subst rd
    exact p)
  have hi := hq.hi
  have lo := hq.lo
  have hl : (qn.map (encCh word sub wt)).length = qn.length := List.length_map ..
  refine es_seq (N1 := fun nm' => nm' = nm0 7 [.i (W : Int), qD word sub wt qn, frs ahead, .tup pl]) (es_if (b := false) (et_not (a := true) (et_val (ev_sizedT (ds := qn.map (encCh word sub wt)) (ea_cons (ev_var rfl) (ea_cons ev_c (ea_cons ev_c ea_nil))) (by omega) (by omega)))) (fun z => nomatch z) fun _ => es_next rfl) ?_
  rintro nm' rfl
  refine es_seq (N1 := fun nm' => ∃ x y : Option D, nm' = [some (.val (.i (W : Int))), some (.val (qD word sub wt qn)), some (.val (frs ahead)), some (.val (.tup pl)), x.map Ent.val, y.map Ent.val, none])
    (es_for (ei_enum (ds := qn.map (encCh word sub wt)) (ea_cons (ev_var rfl) ea_nil)) (fun i nm' => ∃ x y : Option D, nm' = [some (.val (.i (W : Int))), some (.val (qD word sub wt qn)), some (.val (frs ahead)), some (.val (.tup pl)), x.map Ent.val, y.map Ent.val, none]) ⟨none, none, rfl⟩ (fun _ _ _ => trivial) (fun i d nm' hd hP => ?_) fun nm' hP => hP) ?_
  · obtain ⟨x, y, rfl⟩ := hP
    obtain ⟨d', hd', rfl⟩ := enD_at hd
    obtain ⟨a, ha, ham, rfl⟩ := ch_at word sub wt hd'
    refine ⟨_, _, eg_two, es_if (b := false) (et_not (a := true) (et_val (ev_P (pre := AnOk) (enc := fun x : AnIn => [.i (x.W : Int), .tup [wordD x.word, frs x.ws, x.sub]]) (out := fun _ => .b true) ⟨W, wI a, wt a, sub a⟩ (ea_cons (ev_var rfl) (ea_cons (ev_var (by show _ = some (some (Ent.val (.tup [wordD (wI a), frs (wt a), sub a]))); rw [← hw]; rfl)) ea_nil)) ⟨hq.words a ham, hq.len a ham, hq.w4, fun x hx => (hq.nn a ham x hx).1⟩))) (fun z => nomatch z) fun _ => es_next ⟨some _, some _, rfl⟩⟩
  rintro nm' ⟨x, y, rfl⟩
  refine es_seq (N1 := fun nm' => ∃ x y : Option D, nm' = [some (.val (.i (W : Int))), some (.val (qD word sub wt qn)), some (.val (frs ahead)), some (.val (.tup pl)), x.map Ent.val, y.map Ent.val, none])
    (es_if (b := false) (et_or (a := false) (et_not (a := true) (et_val (ev_Q (enc := fun xs : List (List Int) => xs.map wordD) (pre := RiseOk) (out := fun _ => .b true) (qn.map wI) (el_lc (ei_tup (ds := qn.map (encCh word sub wt)) (ev_var rfl)) trivial (by omega) (fun i acc => acc = ((qn.take i).map wI).map wordD) rfl (fun i d acc hd hacc => ?_) fun acc hacc => by rw [hacc, hl, List.take_length]) hq.rise)))
      (fun _ => et_test (ev_neD (d := frs ahead) (Ev.imp (ev_P (pre := ColOk wt) (enc := fun x : ColIn Ch => [.i (x.W : Int), qD word sub wt x.q]) (out := fun x => frs (cols wt x.W x.q)) ⟨W, qn⟩ (ea_cons (ev_var rfl) (ea_cons (ev_var rfl) ea_nil)) ⟨hq.w4, hi, hq.len, fun a ha y hy => (hq.nn a ha y hy).2⟩) fun z hz => ?_) (ev_var rfl) (plain_frs ahead) (by have z := dep_frs ahead; show depL (ahead.map fr) + 1 ≤ 64; omega))) rfl) (fun z => nomatch z) fun _ => es_next ⟨x, y, rfl⟩) ?_
  · obtain ⟨a, ha, ham, rfl⟩ := ch_at word sub wt hd
    refine ⟨_, _, eg_name, by simp, (ev_ixc 0 (ev_var rfl) rfl).imp fun x hx => ?_⟩
    have hx : x = _ := hx
    rw [hacc, hx, take_snoc ha, List.map_append, hw]
    rfl
  · have hz : z = _ := hz
    rw [hz]
    show frs (cols wt W qn) = frs ahead
    rw [qok_cols wt wI hq]
  rintro nm' ⟨x, y, rfl⟩
  refine es_seq (N1 := fun nm' => True)
    (es_for (ei_enum (ds := qn.map (encCh word sub wt)) (ea_cons (ev_var rfl) ea_nil)) (fun i nm' => ∃ x y z : Option D, nm' = [some (.val (.i (W : Int))), some (.val (qD word sub wt qn)), some (.val (frs ahead)), some (.val (.tup pl)), x.map Ent.val, y.map Ent.val, z.map Ent.val]) ⟨x, y, none, rfl⟩ (fun _ _ _ => trivial) (fun i d nm' hd hP => ?_) fun nm' hP => trivial) fun nm' _ => es_ret ev_c
  obtain ⟨x, y, z, rfl⟩ := hP
  obtain ⟨d', hd', rfl⟩ := enD_at hd
  obtain ⟨a, ha, ham, rfl⟩ := ch_at word sub wt hd'
  refine ⟨_, _, eg_two, es_seq (N1 := fun nm' => nm' = [some (.val (.i (W : Int))), some (.val (qD word sub wt qn)), some (.val (frs ahead)), some (.val (.tup pl)), some (.val (.i (i : Int))), some (.val (encCh word sub wt a)), some (.val (.sc .non))]) (es_asg (ev_callF (R := Is (.sc .non)) (ea_cons (ev_var rfl) (ea_cons (ev_ixc 2 (ev_var rfl) rfl) (ea_cons (ev_ixc 1 (ev_var rfl) rfl) (ea_cons (ev_cat (ev_var rfl) (ev_tup (ds := [.i (i : Int)]) (ea_cons (ev_var rfl) ea_nil) (by simp)) (by show pl.length + 1 ≤ 1000; omega)) ea_nil)))) (hprev (Ct.pure K H) W a (pl ++ [.i (i : Int)]) rfl (hall a ham) (snoc_len hpl))) rfl) ?_⟩
  rintro nm' rfl
  exact es_if (b := false) (et_test (ev_notN (ev_var rfl))) (fun z => nomatch z) fun _ => es_next ⟨some _, some _, some _, rfl⟩
def spWN (K : PySem.W.Frag) (okQ : Nat → List Rat → List Ch → Prop) (m : Nat) : Sp := fun vs H Q _ => ∃ (W : Nat) (ahead : List Rat) (qL : List (List Ch)) (pl : List D), RepL K H [.i (W : Int), encNode word sub wt qL, frs ahead, .tup pl] vs ∧ qL.length ≤ 5 ∧ pl.length ≤ m ∧ (∀ q ∈ qL, okQ W ahead q) ∧ ∀ v H', Ex H H' → Rep K H' (.sc .non) v → Q v H'
theorem cal_wrong_n {j m : Nat} {okQ : Nat → List Rat → List Ch → Prop} {prev : Sp} (T : Txt K mg aN aO aH) (d : Df K mg "wrong_in_node" s_wrong_in_node ["worlds", "node", "ahead", "place"]) (h5 : 1 ≤ j) (hm : m ≤ 15) (c_wrong_in_question : C8.Cal P w K mg base j "wrong_in_question" prev [])
    (hprev : ∀ (C : Ct) (W : Nat) (ahead : List Rat) (q : List Ch) (pl : List D), C.K = K → okQ W ahead q → pl.length ≤ m + 1 → Rc C (fun vs H Q => prev (vs ++ []) H Q C8.E0) [.i (W : Int), qD word sub wt q, frs ahead, .tup pl] (Is (.sc .non)))
    (c_is_sized : C8.Cal P w K mg base 1 "is_sized" (spSized K) []) : C8.Cal P w K mg base (j + 1) "wrong_in_node" (spWN word sub wt K okQ m) [] := by
  refine d.cal sc_wrong_in_node (fun vs H Q E h => by obtain ⟨_, _, _, _, r, _⟩ := h; rw [r.len]; rfl) fun f cdv A outer s H vs Q E hr h => ?_
  refine ⟨_, (pss_cons (ps_if (PW.pt (pw_or (pt_not (pt_val (C8.pe_c c_is_sized hr h5 rfl (pa_cons (pv 1) (pa_cons pe_int (pa_cons (C8.pe_gc rfl T.MOST_QUESTIONS) pa_nil)))))) (pw_or1 (PW.pt (pw_and (pt_cmpR op_eq (pe_callB (kLen (K := K) rfl) (by rfl) T.lenZ PySem.boot_len (pa_cons (pv 3) pa_nil)) (pe_op op_mulW pe_int (C8.pe_gc rfl T.MOST_ROUNDS)) (nomark _)) (pw_and1 (pt_cmpR op_gt (pe_callB (kLen (K := K) rfl) (by rfl) T.lenZ PySem.boot_len (pa_cons (pv 1) pa_nil)) pe_int (nomark _)))))))) (pss_one (ps_ret (pv 3))) pss_nil)
      (pss_cons (ps_for PassesOwn.never rfl (kEnum (K := K) rfl (by rfl) T.enumerateZ (pa_cons (pv 1) pa_nil)) (kTg (K := K) rfl rfl (pgs_cons (pg_name (i := 4) sc_wrong_in_node.nd rfl (Or.inl rfl)) (pgs_cons (pg_name (i := 5) sc_wrong_in_node.nd rfl (Or.inl rfl)) pgs_nil))) (pss_cons (ps_set (i := 6) sc_wrong_in_node.nd rfl (Or.inl rfl) (C8.pe_c c_wrong_in_question hr (Nat.le_refl _) rfl (pa_cons (pv 0) (pa_cons (pv 5) (pa_cons (pv 2) (pa_cons (pe_op (kCat (K := K) rfl) (pv 3) (pe_tup (pa_cons (pv 4) pa_nil))) pa_nil))))))
      (pss_one (ps_if (pt_cmpR op_notN (pv 6) pe_non (nomark _)) (pss_one (ps_ret (pv 6))) pss_nil))))
      (pss_one (ps_ret pe_non)))), ?_⟩
  obtain ⟨W, ahead, qL, pl, r, hq, hpl, hall, q⟩ := h
  refine (?_ : Es (Ct.pure K H) (nm0 7 [.i (W : Int), encNode word sub wt qL, frs ahead, .tup pl]) _ (fun _ => False) (Is (.sc .non))) _ H _ (sr0 (N := ["worlds", "node", "ahead", "place", "number", "question", "wrong"]) r) (fun _ _ _ hn _ _ => hn.elim) fun v d H' rd l _ p => q v H' l (by
    have rd : d = _ := rd
    subst rd
    exact p)
  have hl : (qL.map fun q => D.tup (q.map (encCh word sub wt))).length = qL.length := List.length_map ..
  refine es_seq (N1 := fun nm' => nm' = nm0 7 [.i (W : Int), encNode word sub wt qL, frs ahead, .tup pl]) (es_if (b := false) (et_or (a := false) (et_not (a := true) (et_val (ev_sizedT (ds := qL.map fun q => D.tup (q.map (encCh word sub wt))) (ea_cons (ev_var rfl) (ea_cons ev_c (ea_cons ev_c ea_nil))) (by omega) (by omega))))
    (fun _ => et_and (a := false) (b := false) (et_test (ev_eqI (ev_len (ds := pl) (ev_var rfl)) (ev_mul (ev_c (v := .int 2)) (ev_c (v := .int 8)) (by show (2 : Int).natAbs.log2 + (8 : Int).natAbs.log2 < 1000000; decide)) (decide_eq_false (by omega)))) (fun z => nomatch z) rfl) rfl) (fun z => nomatch z) fun _ => es_next rfl) ?_
  rintro nm' rfl
  refine es_seq (N1 := fun nm' => True)
    (es_for (ei_enum (ds := qL.map fun q => D.tup (q.map (encCh word sub wt))) (ea_cons (ev_var rfl) ea_nil)) (fun i nm' => ∃ x y z : Option D, nm' = [some (.val (.i (W : Int))), some (.val (encNode word sub wt qL)), some (.val (frs ahead)), some (.val (.tup pl)), x.map Ent.val, y.map Ent.val, z.map Ent.val]) ⟨none, none, none, rfl⟩ (fun _ _ _ => trivial) (fun i d nm' hd hP => ?_) fun nm' hP => trivial) fun nm' _ => es_ret ev_c
  obtain ⟨x, y, z, rfl⟩ := hP
  obtain ⟨d', hd', rfl⟩ := enD_at hd
  rw [List.getElem?_map] at hd'
  cases hqi : qL[i]? with
  | none => rw [hqi] at hd'; cases hd'
  | some qn =>
  rw [hqi] at hd'
  obtain rfl := Option.some.inj hd'
  refine ⟨_, _, eg_two, es_seq (N1 := fun nm' => nm' = [some (.val (.i (W : Int))), some (.val (encNode word sub wt qL)), some (.val (frs ahead)), some (.val (.tup pl)), some (.val (.i (i : Int))), some (.val (qD word sub wt qn)), some (.val (.sc .non))]) (es_asg (ev_callF (R := Is (.sc .non)) (ea_cons (ev_var rfl) (ea_cons (ev_var rfl) (ea_cons (ev_var rfl) (ea_cons (ev_cat (ev_var rfl) (ev_tup (ds := [.i (i : Int)]) (ea_cons (ev_var rfl) ea_nil) (by simp)) (by show pl.length + 1 ≤ 1000; omega)) ea_nil)))) (hprev (Ct.pure K H) W ahead qn (pl ++ [.i (i : Int)]) rfl (hall qn (List.mem_of_getElem? hqi)) (snoc_len hpl))) rfl) ?_⟩
  rintro nm' rfl
  exact es_if (b := false) (et_test (ev_notN (ev_var rfl))) (fun z => nomatch z) fun _ => es_next ⟨some _, some _, some _, rfl⟩
/-! count_answers -/
def cntN (cnt : Ch → Nat) (qL : List (List Ch)) : Nat := (qL.map fun q => (q.map fun a => 1 + cnt a).sum).sum
def cntL (cnt : Ch → Nat) (qL : List (List Ch)) : List Int := qL.flatMap fun q => q.map fun a => 1 + (cnt a : Int)
theorem cntL_sum (cnt : Ch → Nat) : ∀ qL : List (List Ch), (cntL cnt qL).sum = (cntN cnt qL : Int)
  | [] => rfl
  | q :: qL => by
    have e : ∀ q : List Ch, (q.map fun a => 1 + (cnt a : Int)).sum = (((q.map fun a => 1 + cnt a).sum : Nat) : Int) := fun q => by
      induction q with
      | nil => rfl
      | cons a q ih => rw [List.map_cons, List.sum_cons, List.map_cons, List.sum_cons, ih]; omega
    show ((q.map fun a => 1 + (cnt a : Int)) ++ cntL cnt qL).sum = (((q.map fun a => 1 + cnt a).sum + cntN cnt qL : Nat) : Int)
    rw [List.sum_append, e, cntL_sum]
    omega
theorem cntL_snoc (cnt : Ch → Nat) (qL : List (List Ch)) (q : List Ch) : cntL cnt (qL ++ [q]) = cntL cnt qL ++ q.map fun a => 1 + (cnt a : Int) := by
  unfold cntL
  rw [List.flatMap_append]
  simp
def spCnt (cnt : Ch → Nat) (K : PySem.W.Frag) (okC : Ch → Prop) : Sp := fun vs H Q _ => ∃ (qL : List (List Ch)), RepL K H [encNode word sub wt qL] vs ∧ qL.length ≤ 5 ∧ (∀ q ∈ qL, q.length ≤ 3 ∧ ∀ a ∈ q, okC a) ∧ ∀ v H', Ex H H' → Rep K H' (.i (cntN cnt qL : Nat)) v → Q v H'
theorem cntL_len (cnt : Ch → Nat) : ∀ (qL : List (List Ch)), (∀ q ∈ qL, q.length ≤ 3) → (cntL cnt qL).length ≤ 3 * qL.length
  | [], _ => by show 0 ≤ _; omega
  | q :: qL, h => by
    have h1 := h q List.mem_cons_self
    have h2 := cntL_len cnt qL fun q hq => h q (List.mem_cons_of_mem _ hq)
    show ((q.map fun a => 1 + (cnt a : Int)) ++ cntL cnt qL).length ≤ 3 * (qL.length + 1)
    rw [List.length_append, List.length_map]
    omega
theorem cal_cnt {j : Nat} {cnt : Ch → Nat} {okC : Ch → Prop} {prev : Sp} (T : Txt K mg aN aO aH) (d : Df K mg "count_answers" s_count_answers ["node"]) (c_count_answers : C8.Cal P w K mg base j "count_answers" prev [])
    (hprev : ∀ (C : Ct) (a : Ch), C.K = K → okC a → Rc C (fun vs H Q => prev (vs ++ []) H Q C8.E0) [sub a] (Is (.i (cnt a : Nat)))) : C8.Cal P w K mg base (j + 1) "count_answers" (spCnt word sub wt cnt K okC) [] := by
  refine d.cal sc_count_answers (fun vs H Q E h => by obtain ⟨_, r, _⟩ := h; rw [r.len]; rfl) fun f cdv A outer s H vs Q E hr h => ?_
  refine ⟨_, (pss_one (ps_ret (pe_callB (kSum (K := K) rfl rfl) (by rfl) T.sumZ (by decide +kernel) (pa_cons (pe_lc2 rfl sc_count_answers.nd (own := [("question", 1), ("answer", 2)]) (vs1 := [2]) (g := (gName 1)) (tt := tYes) (g1 := (gName 2)) (tt1 := tYes) (kPiT (K := K) rfl (pv 0)) (blkOk_by (by kernel_rfl)) (by decide) (fun _ _ _ _ _ => (pg_name (i := 1) sc_count_answers.nd rfl (Or.inl rfl))) (fun _ _ _ _ _ => pts_nil) (fun _ _ _ _ _ => (kPiT (K := K) rfl (pv 1))) (fun _ _ _ _ _ => (pg_name (i := 2) sc_count_answers.nd rfl (Or.inl rfl))) (fun _ _ _ _ _ => pts_nil) (fun _ _ _ _ _ => (pe_op op_add pe_int (C8.pe_c c_count_answers hr (Nat.le_refl _) rfl (pa_cons (pe_ix (kIxT (K := K) rfl) (pv 2) pe_int (fun _ _ => rfl)) pa_nil))))) pa_nil)))), ?_⟩
  obtain ⟨qL, r, hq, hall, q⟩ := h
  refine (?_ : Es (Ct.pure K H) (nm0 3 [encNode word sub wt qL]) _ (fun _ => False) (Is (.i (cntN cnt qL : Nat)))) _ H _ (sr0 (N := ["node", "question", "answer"]) r) (fun _ _ _ hn _ _ => hn.elim) fun v d H' rd l _ p => q v H' l (by
    have rd : d = _ := rd
    subst rd
    exact p)
  rw [← cntL_sum]
  refine es_ret (ev_sum (ns := cntL cnt qL) (el_lc2 (ei_tup (ds := qL.map fun q => D.tup (q.map (encCh word sub wt))) (ev_var rfl)) trivial (fun i acc => acc = (cntL cnt (qL.take i)).map D.i) rfl (fun i d acc hd hacc => ?_) fun acc hacc => by rw [hacc, List.length_map, List.take_length]))
  rw [List.getElem?_map] at hd
  cases hqi : qL[i]? with
  | none => rw [hqi] at hd; cases hd
  | some qn =>
  rw [hqi] at hd
  obtain rfl := Option.some.inj hd
  obtain ⟨h3, hok⟩ := hall qn (List.mem_of_getElem? hqi)
  have hz := cntL_len cnt (qL.take i) fun q hq => (hall q (List.mem_of_mem_take hq)).1
  rw [List.length_take] at hz
  refine ⟨_, _, qn.map (encCh word sub wt), _, eg_name, by simp, ei_tup (ds := qn.map (encCh word sub wt)) (ev_var rfl), trivial, fun k a zs he => ?_, fun j acc => j ≤ qn.length ∧ acc = (cntL cnt (qL.take i) ++ (qn.take j).map fun a => 1 + (cnt a : Int)).map D.i, ⟨Nat.zero_le _, by rw [hacc]; simp⟩, fun j acc hj => ?_, fun j d acc hd hj => ?_, fun acc hj => ?_⟩
  · rcases k with _ | _ | _ | k
    · cases he
    · cases he
    · cases he
    · cases he
  · rw [hj.2, List.length_map, List.length_append, List.length_map, List.length_take]
    omega
  · obtain ⟨a, ha, ham, rfl⟩ := ch_at word sub wt hd
    have hjl := (List.getElem?_eq_some_iff.mp ha).1
    refine ⟨_, _, eg_name, by simp, (ev_add (ev_c (v := .int 1)) (ev_callF (R := Is (.i (cnt a : Nat))) (ea_cons (ev_ixc 2 (ev_var rfl) rfl) ea_nil) (hprev (Ct.pure K H) a rfl (hok a ham)))).imp fun x hx => ?_⟩
    have hx : x = _ := hx
    refine ⟨hjl, ?_⟩
    rw [hj.2, hx, take_snoc ha, ← List.append_assoc, List.map_append (l₁ := cntL cnt (List.take i qL) ++ _)]
    rfl
  · rw [hj.2, List.length_map, List.take_length, List.take_add_one, hqi]
    show _ = (cntL cnt (qL.take i ++ [qn])).map D.i
    rw [cntL_snoc]
end
end Q3
namespace Q3
open PySem PySem.Spec PyProof.Rows L2
/-! != of instances by an own == -/
section
variable {prog : Program} {w : World} {A : Around} {E : Value → Shared → Prop} {s : Shared} {K : PySem.W.Frag} {x y C f : Addr} {ox oy : Obj} {od od' : Option Obj}
theorem ifBound_objNe {args : List Value} {Q : Option Value → Shared → Prop} (X : K.In s.heap) (I : PySem.W.InstAt s.heap x ox C od) (hs : PySem.W.findIn K (.ref C) "__ne__" = some (some (.builtin "object.__ne__")))
    (h : wpAny (model prog w) A (call (.builtin "object.__ne__") (.ref x :: args)) (fun v => Q (some v)) E s) : wpAny (model prog w) A (callSpecialIfBound? (.ref x) "__ne__" args) Q E s := by
  simp only [callSpecialIfBound?, bindSpecialIfBound?]
  refine wpAny_holding (wpAny_bind (wpAny_bind (wpAny_bind (I.type.here ((PySem.W.looks_findIn X hs).here ?_)))))
  refine wpAny_bind (wpAny_askSetting (wpAny_ite ?_))
  have fin : wpAny (model prog w) A (call (.builtin "object.__ne__") ([.ref x] ++ args) >>= fun v => pure (some v)) Q E s := wpAny_bind (wpAny_mono h (fun v s' h' => wpAny_pure h') fun _ _ h' => h')
  split
  · exact wpAny_bind (wpAny_of_eq (F.cmp_object.ne.bind _) (wpAny_pure (by exact fin)))
  · exact wpAny_tryCatch (wpAny_bind (wpAny_of_eq (F.cmp_object.ne.bind _) (wpAny_pure (by exact fin))))
theorem entry_ne {Q : Fin → Shared → Prop} (X : K.In s.heap) (I : PySem.W.InstAt s.heap x ox C od) (hu : A.units < cLine) (he : PySem.W.findIn K (.ref C) "__eq__" = some (some (.ref f))) (hf : PySem.W.isFn K (.ref f) = true)
    (h : wpAny (model prog w) A (call (.ref f) [.ref x, .ref y]) (fun v s' => ∃ b, v = .bool b ∧ Q (.done (.ret (.bool (!b)))) s') E s) : wpAny (model prog w) A (Builtin.«object.__ne__» ⟨[.ref x, .ref y], []⟩) Q E s := by
  unfold Builtin.«object.__ne__»
  repeat (first
    | with_reducible refine wpAny_cRoomFor hu ?_
    | (refine wpAny_bind (m := callSpecialIfBound? (.ref x) (Str.ofString "__eq__") [.ref y])
        (PySem.W.ifBound_K X I he hf (wpAny_mono h (fun r s' hr => by
          obtain ⟨b, rfl, hq⟩ := hr
          repeat (first | exact hq | exact wpAny_pure hq | exact wpAny_truthy_bool hq | (refine wpAny_bind (m := truthy (.bool _)) (wpAny_truthy_bool ?_)) | wp_step)) fun _ _ e => e)))
    | wp_step)
theorem ne_K {Q : Value → Shared → Prop} (X : K.In s.heap) (I : PySem.W.InstAt s.heap x ox C od) (J : PySem.W.InstAt s.heap y oy C od') (hu : A.units + 1 < cLine) (hm : PySem.W.mroIn K C (.type "object") = some true) (hs : PySem.W.findIn K (.ref C) "__ne__" = some (some (.builtin "object.__ne__")))
    (he : PySem.W.findIn K (.ref C) "__eq__" = some (some (.ref f))) (hf : PySem.W.isFn K (.ref f) = true)
    (h : wpAny (model prog w) A.in1 (call (.ref f) [.ref x, .ref y]) (fun v s' => ∃ b, v = .bool b ∧ Q (.bool (!b)) s') E s) : wpAny (model prog w) A (richCompare .NotEq (.ref x) (.ref y)) Q E s := by
  have one : wpAny (model prog w) A (tryCompare (.ref x) "__ne__" (.ref y)) (fun r s' => ∃ b, r = some (.bool b) ∧ Q (.bool b) s') E s := by
    unfold tryCompare
    refine wpAny_bind (ifBound_objNe X I hs (wpAny_call (codeAny_call_builtin F.cmp_object.ne.plain F.cmpEntry_ne (PySem.W.check_slot F.cmpKind_ne F.cmpSplit_ne (I.type.andThen (PySem.W.looks_mroIn X hm)) (F.cmpArgs_ne _ _) (entry_ne X I hu he hf (wpAny_mono h (fun v s' hv => ?_) fun _ _ e => e))))))
    obtain ⟨b, rfl, hq⟩ := hv
    first | exact ⟨b, rfl, wpAny_pure ⟨_, rfl, hq⟩⟩ | exact ⟨b, rfl, ⟨_, rfl, hq⟩⟩
  unfold richCompare
  simp only [oneThing_ref]
  refine wpAny_holding (wpAny_bind (wpAny_cRoomFor (Nat.lt_of_succ_lt hu) ?_))
  rw [cmpInfo_NotEq]
  dsimp only
  refine wpAny_bind (I.type.here (wpAny_bind (J.type.here ?_)))
  rw [show (Value.ref C != Value.ref C) = false from by simp]
  simp only [Bool.false_eq_true, if_false]
  refine wpAny_bind (wpAny_pure ?_)
  simp only [Bool.false_eq_true, if_false]
  refine wpAny_bind (wpAny_mono one (fun r s' z => ?_) fun _ _ e => e)
  obtain ⟨b, rfl, hq⟩ := z
  first | exact wpAny_pure hq | exact wpAny_pure (wpAny_pure hq)
end
def rNeG (D : Eqv) : R2 := fun x y H Q => D x y H ∧ ∀ H', Ext H H' → Q (.bl false) H'
theorem op_neH {X : Cx} {n : Nat} {CX : CXT} {C f : Addr} {fd : FuncData} {ps : List Str} {R : Addr → Addr → Hp → Prop} {E : XK} (Fo : FnOk X.prog X.w X.K X.mg X.base CX n f fd ps (spEq R)) (hm : PySem.W.mroIn X.K C (.type "object") = some true) (hs : PySem.W.findIn X.K (.ref C) "__ne__" = some (some (.builtin "object.__ne__")))
    (he : PySem.W.findIn X.K (.ref C) "__eq__" = some (some (.ref f))) (hf : PySem.W.isFn X.K (.ref f) = true) (hb : Binds X.K fd ps []) (hx : Passes CX X E) (hr : Room (n + 1) X.A) : OpR X (compareOp .NotEq) (rNeG (DIns C R)) := by
  intro pins s σ H x y v u Q I rx ry h
  obtain ⟨⟨a, b, dx, dy, fs, gs, rfl, rfl, ha, hb', hR⟩, q⟩ := h
  cases rx
  cases ry
  obtain ⟨mA, J, _⟩ := ins_get I.hok ha
  obtain ⟨mB, J', _⟩ := ins_get I.hok hb'
  obtain ⟨od, J, _⟩ := J.look
  obtain ⟨od', J', _⟩ := J'.look
  show wpAny (model X.prog X.w) X.A (richCompare .NotEq (.ref a) (.ref b)) (EP X pins σ Q) X.xe s
  refine ne_K I.kIn J J' (by have := hr.un; omega) hm hs he hf ?_
  have hsp : spEq R [.ref a, .ref b] H (fun v H' => v = .bl true ∧ Ext H H') E := ⟨a, b, rfl, hR, fun H' e => ⟨rfl, e⟩⟩
  have hl := Fo.len _ _ _ _ hsp
  have r2 : Vals [V.ref a, V.ref b] [Value.ref a, Value.ref b] := .cons rfl (.cons rfl .nil)
  refine wpAny_call (codeAny_mono (Fo.run X.A.in1 X.stack s H ⟨[.ref a, .ref b], []⟩ [.ref a, .ref b] [.ref a, .ref b] _ E hr.in1 I.env0.in1 (by
    have := hb s [.ref a, .ref b] I.kIn (by simpa using hl)
    simpa using this) r2 hsp) fun r s' hq => ?_)
  cases r with
  | error e => exact hx pins σ H s e s' I hq
  | ok fl =>
    cases fl with
    | ret w =>
      obtain ⟨z, H', I', rz, ez, ex⟩ := I.after hq
      subst ez
      cases rz
      exact ⟨true, rfl, .bl false, H', I', rfl, q H' ex⟩
    | next => exact False.elim hq
    | brk => exact False.elim hq
    | cont => exact False.elim hq
/-! good trees -/
section
variable {P : Program} {w : World} {K : PySem.W.Frag} {mg : Str → Option Value} {base : Heap} {aN aO aH : Addr}
def GoodT (W : Nat) : (r : Nat) → List Rat → T r → Prop
  | 0, _, _ => True
  | r + 1, ahead, t => (qs t).length ≤ 2 ∧ ∀ q, q ∈ qs t → QOk (fun a : An r => a.2.1) (fun a : An r => a.1) W ahead q ∧ ∀ a, a ∈ q → GoodT W r a.2.1 a.2.2
def spWNode (K : PySem.W.Frag) (r : Nat) : Sp := fun vs H Q _ => ∃ (W : Nat) (ahead : List Rat) (t : T r) (pl : List D), RepL K H [.i (W : Int), encT r t, frs ahead, .tup pl] vs ∧ GoodT W r ahead t ∧ pl.length + 2 * r ≤ 8 ∧ ∀ v H', Ex H H' → Rep K H' (.sc .non) v → Q v H'
theorem cal_wrong (T0 : Txt K mg aN aO aH) (dn : Df K mg "wrong_in_node" s_wrong_in_node ["worlds", "node", "ahead", "place"]) (dq : Df K mg "wrong_in_question" s_wrong_in_question ["worlds", "question", "ahead", "place"]) (da : Df K mg "added_weights" s_added_weights ["worlds", "question"])
    (c_is_sized : C8.Cal P w K mg base 1 "is_sized" (spSized K) []) (c_is_answer : C8.Cal P w K mg base 4 "is_answer" (spAnswer K) []) (c_are_rising : C8.Cal P w K mg base 1 "are_rising" (spRise K) []) (c_total : C8.Cal P w K mg base 4 "total" (spTotal K) []) :
    ∀ r : Nat, r ≤ 4 → C8.Cal P w K mg base (6 + 2 * r) "wrong_in_node" (spWNode K r) []
  | 0, _ => by
    refine Df.cimp (cal_wrong_n (Ch := Empty) (fun a => nomatch a) (fun a => nomatch a) (fun a => nomatch a) (j := 5) (m := 8) (okQ := fun _ _ _ => False) (prev := fun _ _ _ _ => False) T0 dn (by decide) (by decide) (dq.cno 5) (fun _ _ _ _ _ _ h => h.elim) c_is_sized) fun vs H Q E h => ?_
    obtain ⟨W, ahead, t, pl, r, _, hp, q⟩ := h
    exact ⟨W, ahead, [], pl, r, by simp, by omega, fun q hq => (nomatch hq), q⟩
  | r + 1, hr => by
    have ih := cal_wrong T0 dn dq da c_is_sized c_is_answer c_are_rising c_total r (by omega)
    have ca := cal_added_weights (P := P) (w := w) (base := base) (Ch := An r) (fun a : An r => wordD a.1) (fun a : An r => encT r a.2.2) (fun a : An r => a.2.1) T0 da c_total
    have cq := cal_wrong_q (Ch := An r) (fun a : An r => wordD a.1) (fun a : An r => encT r a.2.2) (fun a : An r => a.2.1) (fun a : An r => a.1) (j := 6 + 2 * r) (m := 7 - 2 * r) (okC := fun W a => GoodT W r a.2.1 a.2.2) (prev := spWNode K r) (fun _ => rfl) T0 dq (by omega) (by omega) ih (fun C W a pl hK ha hl H vs Q l i p q => by
      subst hK
      exact ⟨W, a.2.1, a.2.2, pl, by rw [List.append_nil]; exact p, ha, by omega, fun v H' x rv => q v _ H' rfl x.le (C.exI i x) rv⟩) c_is_sized c_is_answer c_are_rising ca
    refine Df.cimp (cal_wrong_n (Ch := An r) (fun a : An r => wordD a.1) (fun a : An r => encT r a.2.2) (fun a : An r => a.2.1) (j := 6 + 2 * r + 1) (m := 6 - 2 * r) (okQ := fun W ahead q => QOk (fun a : An r => a.2.1) (fun a : An r => a.1) W ahead q ∧ ∀ a ∈ q, GoodT W r a.2.1 a.2.2) T0 dn (by omega) (by omega) cq (fun C W ahead qn pl hK ha hl H vs Q l i p q => by
      subst hK
      exact ⟨W, ahead, qn, pl, by rw [List.append_nil]; exact p, ha.1, by omega, ha.2, fun v H' x rv => q v _ H' rfl x.le (C.exI i x) rv⟩) c_is_sized) fun vs H Q E h => ?_
    obtain ⟨W, ahead, t, pl, r, ht, hp, q⟩ := h
    exact ⟨W, ahead, qs t, pl, r, Nat.le_trans ht.1 (by decide), by omega, ht.2, q⟩
/-- how many answers -/
def cnt : (r : Nat) → T r → Nat
  | 0, _ => 0
  | r + 1, t => cntN (fun a : An r => cnt r a.2.2) (qs t)
def Few2 : (r : Nat) → T r → Prop
  | 0, _ => True
  | r + 1, t => (qs t).length ≤ 2 ∧ ∀ q, q ∈ qs t → q.length ≤ 3 ∧ ∀ a, a ∈ q → Few2 r a.2.2
theorem GoodT.few {W : Nat} : ∀ (r : Nat) (ahead : List Rat) (t : T r), GoodT W r ahead t → Few2 r t
  | 0, _, _, _ => trivial
  | r + 1, _, t, h => ⟨h.1, fun q hq => ⟨(h.2 q hq).1.hi, fun a ha => GoodT.few r a.2.1 a.2.2 ((h.2 q hq).2 a ha)⟩⟩
theorem sum_le {α : Type} {f : α → Nat} {m : Nat} : ∀ {l : List α}, (∀ a ∈ l, f a ≤ m) → (l.map f).sum ≤ l.length * m
  | [], _ => by show 0 ≤ _; omega
  | a :: l, h => by
    have h1 := h a List.mem_cons_self
    have h2 := sum_le (l := l) fun b hb => h b (List.mem_cons_of_mem _ hb)
    rw [List.map_cons, List.sum_cons, List.length_cons, Nat.succ_mul]
    omega
def cntB : Nat → Nat
  | 0 => 0
  | r + 1 => 6 * (1 + cntB r)
theorem cnt_le : ∀ (r : Nat) (t : T r), Few2 r t → cnt r t ≤ cntB r
  | 0, _, _ => Nat.le_refl _
  | r + 1, t, h => by
    have h1 : ∀ q ∈ qs t, (q.map fun a : An r => 1 + cnt r a.2.2).sum ≤ 3 * (1 + cntB r) := fun q hq => by
      obtain ⟨h3, ha⟩ := h.2 q hq
      refine Nat.le_trans (sum_le (m := 1 + cntB r) fun a ham => ?_) (Nat.mul_le_mul_right _ h3)
      have := cnt_le r a.2.2 (ha a ham)
      omega
    show ((qs t).map fun q => (q.map fun a : An r => 1 + cnt r a.2.2).sum).sum ≤ 6 * (1 + cntB r)
    refine Nat.le_trans (sum_le h1) ?_
    have z := Nat.mul_le_mul_right (3 * (1 + cntB r)) h.1
    omega
def spCount (K : PySem.W.Frag) (r : Nat) : Sp := fun vs H Q _ => ∃ (t : T r), RepL K H [encT r t] vs ∧ Few2 r t ∧ ∀ v H', Ex H H' → Rep K H' (.i (cnt r t : Nat)) v → Q v H'
theorem cal_count (T0 : Txt K mg aN aO aH) (d : Df K mg "count_answers" s_count_answers ["node"]) : ∀ r : Nat, C8.Cal P w K mg base (1 + r) "count_answers" (spCount K r) []
  | 0 => by
    refine Df.cimp (cal_cnt (Ch := Empty) (fun a => nomatch a) (fun a => nomatch a) (fun a => nomatch a) (j := 0) (cnt := fun a => nomatch a) (okC := fun _ => True) (prev := fun _ _ _ _ => False) T0 d (d.cno 0) (fun _ a => nomatch a)) fun vs H Q E h => ?_
    obtain ⟨t, r, _, q⟩ := h
    exact ⟨[], r, by simp, fun q hq => (nomatch hq), q⟩
  | r + 1 => by
    have ih := cal_count T0 d r
    refine Df.cimp (cal_cnt (Ch := An r) (fun a : An r => wordD a.1) (fun a : An r => encT r a.2.2) (fun a : An r => a.2.1) (j := 1 + r) (cnt := fun a : An r => cnt r a.2.2) (okC := fun a => Few2 r a.2.2) (prev := spCount K r) T0 d ih (fun C a hK ha H vs Q l i p q => by
      subst hK
      exact ⟨a.2.2, by rw [List.append_nil]; exact p, ha, fun v H' x rv => q v _ H' rfl x.le (C.exI i x) rv⟩)) fun vs H Q E h => ?_
    obtain ⟨t, r, ht, q⟩ := h
    exact ⟨qs t, r, Nat.le_trans ht.1 (by decide), ht.2, q⟩
end
end Q3
namespace Q3
open PySem PySem.Spec PyProof.Rows L2
/-! House(..), == of houses -/
theorem es_then {C : Ct} {nm : Nm} {t u : TS} {N1 : Nm → Prop} {Dd : Ends} {σ : L2.St} {H : Hp} (S : SR C nm σ H) (h : Es C nm t N1 (fun _ => False)) (q : ∀ nm' σ' H', N1 nm' → SR C nm' σ' H' → u Dd σ' H') : tSeq t u Dd σ H :=
  h σ H { Dd with nx := u Dd } S (fun nm' σ' H' hn S' _ => q nm' σ' H' hn S') (fun _ _ _ h => h.elim)
structure HouK (K : PySem.W.Frag) (mg : Str → Option Value) (aH : Addr) : Prop where
  ex : ∃ fI fE fdI fdE, Mk K aH fI ∧ C8.Fun K "__init__" "House.__init__" s_House_init fI fdI ∧ Binds K fdI ["self", "worlds", "tree"] [] ∧ C8.Fun K "__eq__" "House.__eq__" s_House_eq fE fdE ∧ Binds K fdE ["self", "other"] [] ∧
    PySem.W.findIn K (.ref aH) "__eq__" = some (some (.ref fE)) ∧ PySem.W.isFn K (.ref fE) = true
  mgH : mg "House" = some (.ref aH)
  ne : PySem.W.findIn K (.ref aH) "__ne__" = some (some (.builtin "object.__ne__"))
  mro : PySem.W.mroIn K aH (.type "object") = some true
  ins : C8.InsC K aH
  cls : HCls K aH
section
variable {P : Program} {w : World} {K : PySem.W.Frag} {mg : Str → Option Value} {base : Heap} {aN aO aH : Addr}
theorem cntB_le : ∀ {r : Nat}, r ≤ 3 → cntB r ≤ 1500
  | 0, _ => by decide
  | 1, _ => by decide
  | 2, _ => by decide
  | 3, _ => by decide
theorem ones_len (n : Nat) : (ones n).length = n := List.length_replicate ..
def spHouse (K : PySem.W.Frag) (aH : Addr) (r : Nat) : Sp := fun vs H Q _ => ∃ (W : Nat) (t : T r) (x dx : Addr), RepL K H [.sc (.ref x), .i (W : Int), encT r t] vs ∧ H x = some (.ins aH dx []) ∧ 1 ≤ W ∧ W ≤ 4 ∧ GoodT W r (ones W) t ∧ ∀ H', (∀ a o, a ≠ x → H a = some o → H' a = some o) → HouseAt K aH H' x W r t → Q .non H'
theorem cal_House {r : Nat} (hr3 : r ≤ 3) (T0 : Txt K mg aN aO aH) (hk : HouK K mg aH) (c_is_within : C8.Cal P w K mg base 2 "is_within" (spWithin K) []) (c_wrong_in_node : C8.Cal P w K mg base 12 "wrong_in_node" (spWNode K r) []) (c_count_answers : C8.Cal P w K mg base 4 "count_answers" (spCount K r) []) :
    C8.Mak P w K mg base 13 "House" aH (spHouse K aH r) [] := by
  obtain ⟨fI, fE, fdI, fdE, M, FI, bI, _⟩ := hk.ex
  refine C8.mak0 M hk.mgH FI bI .nil sc_House_init (fun vs H Q E h => by obtain ⟨_, _, _, _, r, _⟩ := h; rw [r.len]; rfl) fun cdv A outer s H vs Q E hr h => ?_
  have T := T0
  refine ⟨_, (pss_cons (ps_if (pt_not (pt_val (C8.pe_c c_is_within hr (by decide) rfl (pa_cons (pv 1) (pa_cons pe_int (pa_cons (C8.pe_gc rfl T.MOST_WORLDS_houses) pa_nil)))))) (pss_one ps_never) pss_nil)
      (pss_cons (ps_set (i := 3) sc_House_init.nd rfl (Or.inl rfl) (C8.pe_c c_wrong_in_node hr (by decide) rfl (pa_cons (pv 1) (pa_cons (pv 2) (pa_cons (pe_op (kRep (K := K) rfl) (pe_tup (pa_cons (pe_glob (v := .ref aO) rfl T.ONE rfl) pa_nil)) (pv 1)) (pa_cons (pe_tup pa_nil) pa_nil))))))
      (pss_cons (ps_if (pt_cmpR op_notN (pv 3) pe_non (nomark _)) (pss_one ps_never) pss_nil)
      (pss_cons (ps_if (pt_cmpR op_gt (C8.pe_c c_count_answers hr (by decide) rfl (pa_cons (pv 2) pa_nil)) (C8.pe_gc rfl T.MOST_IN_ALL) (nomark _)) (pss_one ps_never) pss_nil)
      (pss_cons (ps_fld (pv 0) (pv 1) rfl)
      (pss_one (ps_fld (pv 0) (pv 2) rfl))))))), ?_⟩
  obtain ⟨W, t, x, dx, r0, hx, h1, h4, hg, q⟩ := h
  have S := sr0 (N := ["self", "worlds", "tree", "wrong"]) r0
  refine es_then S (N1 := fun nm' => nm' = nm0 4 [.sc (.ref x), .i (W : Int), encT r t]) (es_if (b := false) (et_not (a := true) (et_val (ev_within (W : Int) 1 5 (ea_cons (ev_var rfl) (ea_cons ev_c (ea_cons ev_c ea_nil))) (by omega) (by omega)))) (fun z => nomatch z) fun _ => es_next rfl) ?_
  rintro nm' σ1 H1 rfl S1
  refine es_then S1 (N1 := fun nm' => nm' = [some (.val (.sc (.ref x))), some (.val (.i (W : Int))), some (.val (encT r t)), some (.val (.sc .non))]) (es_asg (ev_callF (R := Is (.sc .non)) (ea_cons (ev_var rfl) (ea_cons (ev_var rfl) (ea_cons (ev_ones (C := Ct.pure K H) (n := W) (.tup (T.oT H) (.cons rfl (.cons rfl .nil))) (ev_var rfl) h1 (by omega)) (ea_cons (ev_tup (ds := []) ea_nil (by simp)) ea_nil)))) fun H2 vs2 Q2 l i p q2 => ⟨W, ones W, t, [], by rw [List.append_nil]; exact p, hg, by show 0 + 2 * r ≤ 8; omega, fun v H' e rv => q2 v _ H' rfl e.le (Ct.exI _ i e) rv⟩) rfl) ?_
  rintro nm' σ2 H2 rfl S2
  refine es_then S2 (N1 := fun nm' => nm' = [some (.val (.sc (.ref x))), some (.val (.i (W : Int))), some (.val (encT r t)), some (.val (.sc .non))]) (es_if (b := false) (et_test (ev_notN (ev_var rfl))) (fun z => nomatch z) fun _ => es_next rfl) ?_
  rintro nm' σ3 H3 rfl S3
  have hf := GoodT.few r (ones W) t hg
  have hc : ((cnt r t : Nat) : Int) ≤ 1500 := by
    have z := cnt_le r t hf
    have z2 := cntB_le hr3
    omega
  refine es_then S3 (N1 := fun nm' => nm' = [some (.val (.sc (.ref x))), some (.val (.i (W : Int))), some (.val (encT r t)), some (.val (.sc .non))]) (es_if (b := false) (et_test (ev_b (ev_callF (R := Is (.i (cnt r t : Nat))) (ea_cons (ev_var rfl) ea_nil) fun H2 vs2 Q2 l i p q2 => ⟨t, by rw [List.append_nil]; exact p, hf, fun v H' e rv => q2 v _ H' rfl e.le (Ct.exI _ i e) rv⟩) (ev_c (v := .int 1500)) (decide_eq_false (by omega)))) (fun z => nomatch z) fun _ => es_next rfl) ?_
  rintro nm' σ4 H4 rfl S4
  obtain ⟨v0, a0, e0⟩ := S4.val (i := 0) rfl
  obtain ⟨v1, a1, e1⟩ := S4.val (i := 1) rfl
  obtain ⟨v2, a2, e2⟩ := S4.val (i := 2) rfl
  have e0 : v0 = .ref x := e0
  have e1 : v1 = .int (W : Int) := e1
  subst e0 e1
  have hx4 : H4 x = some (.ins aH dx []) := S4.le.fx _ _ hx trivial
  refine ⟨_, a1, _, a0, x, aH, dx, [], rfl, hx4, hk.cls.cls, hk.cls.w, by decide, ?_⟩
  refine ⟨_, a2, _, a0, x, aH, dx, _, rfl, upd_same, hk.cls.cls, hk.cls.t, by show 1 < 1000; decide, ?_⟩
  refine q _ (fun a o ha e => ?_) ⟨dx, _, v2, upd_same, ?_, ?_, Rep.seq (fun a xs h => ?_) _ _ e2⟩
  · rw [upd_ne ha, upd_ne ha]
    exact Ex.keep S4.le e
  · rfl
  · rfl
  · have nx : ∀ o, H4 a = some o → (∀ C d f, o ≠ .ins C d f) → a ≠ x := fun o e n z => by
      rw [z, hx4] at e
      exact n _ _ _ (Option.some.inj e).symm
    rcases h with (h | ⟨o, h⟩) | h
    · have z := nx _ h (fun _ _ _ z => by cases z)
      exact .inl (.inl (by rw [upd_ne z, upd_ne z]; exact h))
    · have z := nx _ h (fun _ _ _ z => by cases z)
      exact .inl (.inr ⟨o, by rw [upd_ne z, upd_ne z]; exact h⟩)
    · exact .inr h
/-! plain trees -/
theorem plain_word : ∀ xs : List Int, plainL (xs.map D.i) = true
  | [] => rfl
  | x :: xs => by
    show (plain (D.i x) && plainL (xs.map D.i)) = true
    rw [plain_word xs] <;> rfl
theorem plainL_map {α : Type} {f : α → D} : ∀ {l : List α}, (∀ a ∈ l, plain (f a) = true) → plainL (l.map f) = true
  | [], _ => rfl
  | a :: l, h => by
    show (plain (f a) && plainL (l.map f)) = true
    rw [h a List.mem_cons_self, plainL_map fun b hb => h b (List.mem_cons_of_mem _ hb)] <;> rfl
theorem plain_tree : ∀ (r : Nat) (t : T r), plain (encT r t) = true
  | 0, _ => rfl
  | r + 1, t => plainL_map fun q _ => plainL_map fun a _ => by
    show (plainL (a.1.map D.i) && (plainL (a.2.1.map fr) && (plain (encT r a.2.2) && true))) = true
    rw [plain_word, plain_frs, plain_tree r a.2.2] <;> rfl
theorem depL_map {α : Type} {f : α → D} {m : Nat} : ∀ {l : List α}, (∀ a ∈ l, dep (f a) ≤ m) → depL (l.map f) ≤ m
  | [], _ => Nat.zero_le _
  | a :: l, h => by
    show max (dep (f a)) (depL (l.map f)) ≤ m
    have h1 := h a List.mem_cons_self
    have h2 := depL_map (l := l) fun b hb => h b (List.mem_cons_of_mem _ hb)
    omega
theorem dep_tree : ∀ (r : Nat) (t : T r), dep (encT r t) ≤ 3 * r + 4
  | 0, _ => by show 0 + 1 ≤ _; omega
  | r + 1, t => by
    show depL ((qs t).map _) + 1 ≤ 3 * (r + 1) + 4
    have z : depL ((qs t).map fun q => D.tup (q.map (encCh (fun a : An r => wordD a.1) (fun a : An r => encT r a.2.2) (fun a : An r => a.2.1)))) ≤ 3 * r + 6 := depL_map fun q _ => by
      show depL (q.map _) + 1 ≤ 3 * r + 6
      have z : depL (q.map (encCh (fun a : An r => wordD a.1) (fun a : An r => encT r a.2.2) (fun a : An r => a.2.1))) ≤ 3 * r + 5 := depL_map fun a _ => by
        show max (dep (wordD a.1)) (max (dep (frs a.2.1)) (max (dep (encT r a.2.2)) 0)) + 1 ≤ 3 * r + 5
        have h1 : dep (wordD a.1) ≤ 1 := by
          show depL (a.1.map D.i) + 1 ≤ 1
          have z : depL (a.1.map D.i) ≤ 0 := depL_map fun _ _ => Nat.le_refl _
          omega
        have h2 : dep (frs a.2.1) ≤ 2 := by
          show depL (a.2.1.map fr) + 1 ≤ 2
          have := dep_frs a.2.1
          omega
        have h3 := dep_tree r a.2.2
        omega
      omega
    omega
/-! houses are equal -/
def EqR (K : PySem.W.Frag) (aH : Addr) (r : Nat) : Addr → Addr → Hp → Prop := fun a b H => ∃ (W : Nat) (t : T r), HouseAt K aH H a W r t ∧ HouseAt K aH H b W r t
theorem fn_House_eq {r : Nat} (hr3 : r ≤ 3) (T : Txt K mg aN aO aH) (hk : HouK K mg aH) : ∃ fE fdE, FnOk P w K mg base C8.CX0 1 fE fdE ["self", "other"] (spEq (EqR K aH r)) ∧ Binds K fdE ["self", "other"] [] ∧ PySem.W.findIn K (.ref aH) "__eq__" = some (some (.ref fE)) ∧ PySem.W.isFn K (.ref fE) = true := by
  obtain ⟨fI, fE, fdI, fdE, M, FI, bI, FE, bE, e1, e2⟩ := hk.ex
  refine ⟨fE, fdE, C8.fn0 FE sc_House_eq (fun vs H Q E h => by obtain ⟨a, b, rfl, _⟩ := h; rfl) fun cdv A outer s H vs Q E hr h => ?_, bE, e1, e2⟩
  refine ⟨_, (pss_one (ps_ret (pe_and (pe_callB (C8.call_isC hk.ins) (by rfl) T.isinstanceZ (by decide +kernel) (pa_cons (pv 1) (pa_cons (pe_glob (v := .ref aH) rfl T.House rfl) pa_nil))) (pe_and (pe_cmpR op_eq (kFld (K := K) rfl (pv 0) rfl) (kFld (K := K) rfl (pv 1) rfl) (nomark _)) (pe_one (pe_cmpR (kEqD (K := K) rfl (hu64 hr)) (kFld (K := K) rfl (pv 0) rfl) (kFld (K := K) rfl (pv 1) rfl) (nomark _))))))), ?_⟩
  obtain ⟨a, b, rfl, ⟨W, t, ha, hb⟩, q⟩ := h
  refine (?_ : Es (Ct.pure K H) (nm0 2 [.sc (.ref a), .sc (.ref b)]) _ (fun _ => False) (Is (.b true))) _ H _ (sr0 (N := ["self", "other"]) (.cons rfl (.cons rfl .nil))) (fun _ _ _ hn _ _ => hn.elim) fun v d H' rd l _ p => by
    have rd : d = _ := rd
    subst rd
    have p : v = .bl true := p
    rw [p]
    exact q H' fun x o e => Ex.keep l e
  refine es_ret (ev_and (a := true) (b := true) ?_ (fun _ => ev_and (a := true) (b := true) (ev_eqI (i := (W : Int)) (j := (W : Int)) (ev_worlds (C := Ct.pure K H) hk.cls ha (ev_var rfl)) (ev_worlds (C := Ct.pure K H) hk.cls hb (ev_var rfl)) (decide_eq_true rfl)) (fun _ => ev_eqD (ev_tree (C := Ct.pure K H) hk.cls ha (ev_var rfl)) (ev_tree (C := Ct.pure K H) hk.cls hb (ev_var rfl)) (plain_tree r t) (by have := dep_tree r t; omega)) rfl) rfl)
  refine ev_callB (ea_cons (ev_var rfl) (ea_cons (ev_c (v := .ref aH)) ea_nil)) fun H1 vs Q1 l i p q1 => ?_
  obtain ⟨v1, r1, rfl, p1, v2, r2, rfl, p2, e⟩ := p
  have e : r2 = [] := e
  have p1 : v1 = .ref b := p1
  have p2 : v2 = .ref aH := p2
  subst e p1 p2
  obtain ⟨dx, fs, tv, h1, _⟩ := hb.to l.fx
  exact ⟨b, dx, fs, rfl, h1, q1 _ _ H1 rfl (Le.refl _ _) i rfl⟩
end
end Q3
namespace Q3
open PySem PySem.Spec PyProof.Rows L2
/-! the bag -/
def rGetL (K : PySem.W.Frag) : V → V → Hp → VK → Prop := fun x y H Q => ∃ (p : Addr) (xs : List V) (i : Nat) (v : V), x = .ref p ∧ y = .int (i : Int) ∧ SqL K H p xs ∧ xs[i]? = some v ∧ Q v H
theorem get_list {X : Cx} : PGet X (rGetL X.K) := fun pins s σ H o i ov iv Q I ro ri h => by
  obtain ⟨p, xs, j, v, rfl, rfl, hq, hj, q⟩ := h
  cases ro
  obtain ⟨t, rfl⟩ := ri
  obtain ⟨its, r, pl, hz⟩ := I.list hq
  obtain ⟨u, hu, ru⟩ := r.get hj
  have hl := r.length
  have hn := line63
  have hlt := (List.getElem?_eq_some_iff.mp hj).1
  refine getItem_listL pl.isList (by omega) (by omega) (x := u) (by rw [Int.toNat_natCast]; exact hu) ⟨v, H, I, ru, q⟩
theorem kGet {X : Cx} {K : PySem.W.Frag} (h : X.K = K) : PGet X (rGetL K) := h ▸ get_list
section
variable {C : Ct} {nm : Nm} {te : TE}
theorem repl_sc {K : PySem.W.Frag} {H : Hp} : ∀ vs : List V, RepL K H (vs.map D.sc) vs
  | [] => rfl
  | v :: vs => ⟨v, vs, rfl, rfl, repl_sc vs⟩
theorem ev_at {b : Addr} {vs : List V} {v : V} (j : Nat) (hl : SqL C.K C.H0 b vs) (hB : b ∉ C.B) (he : Ev C nm te (Is (.sc (.ref b)))) (h : vs[j]? = some v) : Ev C nm (tOp (rIxL C.K) te (tC (.int (j : Int)))) (Is (.sc v)) :=
  ev_op he ev_c (rv_ixL hl hB (repl_sc vs) (by rw [List.getElem?_map, h] <;> rfl))
theorem ev_int1 {i : Int} (h : Ev C nm te (Is (.i i))) : Ev C nm (tCB (fun xs H Q => (∃ i, xs = [.int i] ∧ Q (.int i) H) ∨ ∃ k, xs = [.bl k] ∧ Q (.int (if k then 1 else 0)) H) (tCons te tNil)) (Is (.i i)) := ev_callB (ea_cons h ea_nil) fun H vs Q l ii p q => by
  obtain ⟨v, r, rfl, p1, e⟩ := p
  have e : r = [] := e
  have p1 : v = .int i := p1
  subst e p1
  exact .inl ⟨i, rfl, q _ _ H rfl (Le.refl _ _) ii rfl⟩
theorem ev_notNb {v : V} (ha : Ev C nm te (Is (.sc v))) : Ev C nm (tOp (fun x y H Q => y = .non ∧ Q (.bl (!decide (x = .non))) H) te (tC .non)) (Is (.b (!decide (v = .non)))) := ev_op ha ev_c fun H vx vy Q l I p1 p2 q => by
  have p1 : vx = v := p1
  have p2 : vy = .non := p2
  rw [p1, p2]
  exact ⟨rfl, q _ _ H rfl (Le.refl _ _) I rfl⟩
theorem ev_lenL {b : Addr} {vs : List V} (hl : SqL C.K C.H0 b vs) (hB : b ∉ C.B) (he : Ev C nm te (Is (.sc (.ref b)))) : Ev C nm (tCB (rLenS C.K) (tCons te tNil)) (Is (.i (vs.length : Int))) := ev_callB (ea_cons he ea_nil) fun H us Q l ii p q => by
  obtain ⟨v, r, rfl, p1, e⟩ := p
  have e : r = [] := e
  have p1 : v = .ref b := p1
  subst e p1
  exact ⟨b, vs, rfl, .inl (l.l hB hl), q _ _ H rfl (Le.refl _ _) ii rfl⟩
end
theorem Le.put {B : List Addr} {H : Hp} {b : Addr} {xs ys : List V} (hb : b ∈ B) (h : H b = some (.lst xs)) : Le B H (upd H b (.lst ys)) := fun a o e => by
  by_cases ha : a = b
  · subst ha
    rw [h] at e
    cases e
    exact ⟨_, upd_same, fun z => z.elim (fun z => z.elim) fun z => absurd hb z⟩
  · exact ⟨o, by rw [upd_ne ha]; exact e, fun _ => rfl⟩
theorem ixN_at {n i : Nat} (h : i < n) : ixN n (i : Int) = some i := by
  unfold ixN
  rw [if_pos (by omega), if_pos (by omega)]
  rfl
theorem seq_at0 {n : Nat} (h : 0 < n) : seqIndex? 0 n = some 0 := by
  unfold seqIndex?
  simp only [show ¬ ((0 : Int) < 0) by decide, if_false]
  rw [if_pos (by simp; omega)]
  rfl
/-- names that stand for themselves -/
theorem sr_flat {K : PySem.W.Frag} {C : Ct} {nm : Nm} {σ : L2.St} {H H' : Hp} (S : SR C nm σ H) (f : ∀ (i : Nat) (e : Ent), nm[i]? = some (some e) → ∃ v, e = .val (.sc v)) : SR (Ct.pure K H') nm σ H' :=
  ⟨Le.refl _ _, trivial, S.len, fun i e he => by
    obtain ⟨v, h1, h2⟩ := S.at_ i e he
    obtain ⟨u, rfl⟩ := f i e he
    exact ⟨v, h1, h2⟩⟩
/-- the bag: its lists at b and g, so many picks behind it -/
def BagN (b g : Addr) (n : Nat) (H : Hp) : Prop := ∃ (seed turn : Int) (gs : List Int) (al : V), H b = some (.lst [.int seed, .int turn, .ref g, al]) ∧ H g = some (.lst (gs.map V.int)) ∧ 0 ≤ seed ∧ seed < 2147483647 ∧ 0 ≤ turn ∧ turn ≤ (n : Int) ∧ (al = .non ∨ ∃ a, al = .int a)
theorem BagN.mono {b g : Addr} {n m : Nat} {H : Hp} (h : BagN b g n H) (l : n ≤ m) : BagN b g m H := by
  obtain ⟨seed, turn, gs, al, h1, h2, h3, h4, h5, h6, h7⟩ := h
  exact ⟨seed, turn, gs, al, h1, h2, h3, h4, h5, by omega, h7⟩
theorem BagN.keep {b g : Addr} {n : Nat} {H H' : Hp} (h : BagN b g n H) (hb : ∀ o, H b = some o → H' b = some o) (hg : ∀ o, H g = some o → H' g = some o) : BagN b g n H' := by
  obtain ⟨seed, turn, gs, al, h1, h2, h3⟩ := h
  exact ⟨seed, turn, gs, al, hb _ h1, hg _ h2, h3⟩
theorem fmod_rng {a m : Int} (h : 0 < m) : 0 ≤ a.fmod m ∧ a.fmod m < m := ⟨Int.fmod_nonneg_of_pos _ h, Int.fmod_lt_of_pos _ h⟩
theorem cmulS {i j : Int} (h1 : i.natAbs < 2 ^ 4000) (h2 : j.natAbs < 2 ^ 4000) : CMulW i j := Sz.mulW (n := 4000) (m := 4000) h1 h2 (Nat.le_refl _) (Nat.le_refl _)
theorem big4000 {i : Int} (h1 : -(2 ^ 100) < i) (h2 : i < 2 ^ 100) : i.natAbs < 2 ^ 4000 := by
  have : i.natAbs < 2 ^ 100 := by omega
  exact Nat.lt_of_lt_of_le this (Nat.pow_le_pow_right (by decide) (by decide))
section
variable {P : Program} {w : World} {K : PySem.W.Frag} {mg : Str → Option Value} {base : Heap} {aN aO aH : Addr}
def spPick (K : PySem.W.Frag) : Sp := fun vs H Q _ => ∃ (b g : Addr) (n : Nat) (m : Int), vs = [.ref b, .int m] ∧ BagN b g n H ∧ n ≤ 1000000 ∧ 0 < m ∧ m ≤ 1000 ∧ ∀ (i : Int) H', 0 ≤ i → i < m → Le [b, g] H H' → BagN b g (n + 1) H' → Q (.int i) H'
theorem cal_pick (T : Txt K mg aN aO aH) (d : Df K mg "_law_pick" s__law_pick ["_law_bag_here", "_law_many"]) : C8.Cal P w K mg base 1 "_law_pick" (spPick K) [] := by
  refine d.cal sc__law_pick (fun vs H Q E h => by obtain ⟨_, _, _, _, rfl, _⟩ := h; rfl) fun f cdv A outer s H vs Q E hr h => ?_
  refine ⟨_, (pss_cons (ps_if (pt_cmpR op_notN (pe_ix (kIxL (K := K) rfl) (pv 0) pe_int (fun _ _ => rfl)) pe_non (nomark _)) (pss_one (ps_ret (pe_op op_modN (pe_callTy call_int1 (by rfl) T.intZ (by decide +kernel) (pa_cons (pe_ix (kIxL (K := K) rfl) (pv 0) pe_int (fun _ _ => rfl)) pa_nil)) (pv 1)))) pss_nil)
      (pss_cons (ps_asg (pe_op op_add (pe_ix (kIxL (K := K) rfl) (pv 0) pe_int (fun _ _ => rfl)) pe_int) (pg_sub (pv 0) pe_int set_list))
      (pss_cons (ps_set (i := 2) sc__law_pick.nd rfl (Or.inl rfl) (pe_ix (kIxL (K := K) rfl) (pv 0) pe_int (fun _ _ => rfl)))
      (pss_cons (ps_if (pt_cmpR op_gt (pe_callB (kLen (K := K) rfl) (by rfl) T.lenZ PySem.boot_len (pa_cons (pv 2) pa_nil)) pe_int (nomark _)) (pss_cons (ps_set (i := 3) sc__law_pick.nd rfl (Or.inl rfl) (pe_op op_modN (pe_callTy call_int1 (by rfl) T.intZ (by decide +kernel) (pa_cons (pe_ix (kIxL (K := K) rfl) (pv 2) pe_int (fun _ _ => rfl)) pa_nil)) (pv 1)))
      (pss_cons (ps_asg (pe_op op_fdivW (pe_callTy call_int1 (by rfl) T.intZ (by decide +kernel) (pa_cons (pe_ix (kIxL (K := K) rfl) (pv 2) pe_int (fun _ _ => rfl)) pa_nil)) (pv 1)) (pg_sub (pv 2) pe_int set_list))
      (pss_cons (ps_if (pt_cmpR op_eq (pe_ix (kIxL (K := K) rfl) (pv 2) pe_int (fun _ _ => rfl)) pe_int (nomark _)) (pss_one (ps_expr (pe_bm PySem.F.plainAttrs_list PySem.F.slot_list_pop PySem.F.type_list_pop mt_popAt (pv 2) (pa_cons pe_int pa_nil)))) pss_nil)
      (pss_one (ps_ret (pv 3)))))) pss_nil)
      (pss_cons (ps_set (i := 4) sc__law_pick.nd rfl (Or.inl rfl) (pe_op op_modN (pe_callTy call_int1 (by rfl) T.intZ (by decide +kernel) (pa_cons (pe_op op_mulW (pe_op op_add (pe_ix (kIxL (K := K) rfl) (pv 0) pe_int (fun _ _ => rfl)) (pe_op op_mulW pe_int (pe_ix (kIxL (K := K) rfl) (pv 0) pe_int (fun _ _ => rfl)))) pe_int) pa_nil)) pe_int))
      (pss_cons (ps_set (i := 4) sc__law_pick.nd rfl (Or.inl rfl) (pe_op op_modN (pe_callTy call_int1 (by rfl) T.intZ (by decide +kernel) (pa_cons (pe_op op_mulW (pv 4) (pe_op op_add (pe_op op_fdivW (pv 4) pe_int) pe_int)) pa_nil)) pe_int))
      (pss_cons (ps_set (i := 4) sc__law_pick.nd rfl (Or.inl rfl) (pe_op op_modN (pe_callTy call_int1 (by rfl) T.intZ (by decide +kernel) (pa_cons (pe_op op_mulW (pv 4) (pe_op op_add (pe_op op_fdivW (pv 4) pe_int) pe_int)) pa_nil)) pe_int))
      (pss_one (ps_ret (pe_op op_modN (pe_callTy call_int1 (by rfl) T.intZ (by decide +kernel) (pa_cons (pe_op op_fdivW (pv 4) pe_int) pa_nil)) (pv 1))))))))))), ?_⟩
  obtain ⟨b, g, n, m, rfl, hbag, hn, m0, m1, q⟩ := h
  have hbag0 := hbag
  obtain ⟨seed, turn, gs, al, hb, hg, s0, s1, t0, t1, hal⟩ := hbag
  have hbg : b ≠ g := fun z => by
    rw [z, hg] at hb
    have z := HO.lst.inj (Option.some.inj hb)
    have z2 := congrArg (fun l : List V => l[2]?) z
    rw [List.getElem?_map] at z2
    cases e : gs[2]? with
    | none => rw [e] at z2; cases z2
    | some x => rw [e] at z2; cases z2
  have S : SR (Ct.pure K H) (nm0 5 [.sc (.ref b), .i m]) (L2.start ["_law_bag_here", "_law_many", "_law_great", "_law_digit", "_law_number"] [.ref b, .int m]) H := sr0 (K := K) (N := ["_law_bag_here", "_law_many", "_law_great", "_law_digit", "_law_number"]) (ds := [.sc (.ref b), .i m]) (.cons rfl (.cons rfl .nil))
  have at3 : ∀ {nm : Nm}, nm[0]? = some (some (.val (.sc (.ref b)))) → Ev (Ct.pure K H) nm (tOp (rIxL K) (tVar 0) (tC (.int 3))) (Is (.sc al)) := fun h => ev_at (C := Ct.pure K H) 3 (.inl (.inl hb)) (fun z => nomatch z) (ev_var h) rfl
  rcases hal with rfl | ⟨a, rfl⟩
  · -- no answer for always
    refine es_then S (N1 := fun nm' => nm' = nm0 5 [.sc (.ref b), .i m]) (es_if (b := false) (et_test (ev_notNb (at3 rfl))) (fun z => nomatch z) fun _ => es_next rfl) ?_
    rintro nm' σ1 H1 rfl S1
    obtain ⟨v0, a0, e0⟩ := S1.val (i := 0) rfl
    have e0 : v0 = .ref b := e0
    subst e0
    -- its turn
    refine ev_add (C := Ct.pure K H) (ev_at (C := Ct.pure K H) (v := .int turn) 1 (.inl (.inl hb)) (fun z => nomatch z) (ev_var rfl) rfl) (ev_c (v := .int 1)) σ1 H1 _ S1 fun v d H2 hd l2 i2 p2 => ?_
    have hd : d = _ := hd
    subst hd
    have p2 : v = .int (turn + 1) := p2
    subst p2
    have l02 := S1.le.trans l2
    have hb2 : H2 b = some (.lst [.int seed, .int turn, .ref g, .non]) := Ex.keep l02 hb
    have hg2 : H2 g = some (.lst (gs.map V.int)) := Ex.keep l02 hg
    refine ⟨_, a0, b, _, 1, 1, rfl, rfl, hb2, rfl, ?_⟩
    dsimp only [List.set]
    generalize hH3 : upd H2 b (.lst [.int seed, .int (turn + 1), .ref g, .non]) = H3
    have hb3 : H3 b = some (.lst [.int seed, .int (turn + 1), .ref g, .non]) := by rw [← hH3]; exact upd_same
    have hg3 : H3 g = some (.lst (gs.map V.int)) := by rw [← hH3, upd_ne hbg.symm]; exact hg2
    have l03 : Le [b, g] H H3 := by
      rw [← hH3]
      exact (Ex.le l02).trans (Le.put (by simp) hb2)
    have S3 : SR (Ct.pure K H3) (nm0 5 [.sc (.ref b), .i m]) σ1 H3 := sr_flat S1 fun i e he => by
      rcases i with _ | _ | _ | _ | _ | i
      · cases he; exact ⟨_, rfl⟩
      · cases he; exact ⟨_, rfl⟩
      · cases he
      · cases he
      · cases he
      · cases he
    have rest : ∀ nm : Nm, nm[0]? = some (some (.val (.sc (.ref b)))) → Ev (Ct.pure K H3) nm (tOp (rIxL K) (tVar 0) (tC (.int 2))) (Is (.sc (.ref g))) := fun nm h => ev_at (C := Ct.pure K H3) 2 (.inl (.inl hb3)) (fun z => nomatch z) (ev_var h) rfl
    refine es_then S3 (N1 := fun nm' => nm' = [some (.val (.sc (.ref b))), some (.val (.i m)), some (.val (.sc (.ref g))), none, none]) (es_asg (rest _ rfl) rfl) ?_
    rintro nm' σ4 H4 rfl S4
    have flat4 : ∀ {x : Option Ent}, (∀ e, x = some e → ∃ v, e = .val (.sc v)) → ∀ (i : Nat) (e : Ent), ([some (.val (.sc (.ref b))), some (.val (.i m)), some (.val (.sc (.ref g))), x, none] : Nm)[i]? = some (some e) → ∃ v, e = .val (.sc v) := fun hx i e he => by
      rcases i with _ | _ | _ | _ | _ | i
      · cases he; exact ⟨_, rfl⟩
      · cases he; exact ⟨_, rfl⟩
      · cases he; exact ⟨_, rfl⟩
      · exact hx e (Option.some.inj he)
      · cases he
      · cases he
    cases gs with
    | nil =>
      -- arithmetic
      refine es_then S4 (N1 := fun nm' => nm' = [some (.val (.sc (.ref b))), some (.val (.i m)), some (.val (.sc (.ref g))), none, none]) (es_if (b := false) (et_test (ev_b (ev_lenL (C := Ct.pure K H3) (b := g) (vs := []) (.inl (.inl hg3)) (fun z => nomatch z) (ev_var rfl)) (ev_c (v := .int 0)) (decide_eq_false (by decide)))) (fun z => nomatch z) fun _ => es_next rfl) ?_
      rintro nm' σ5 H5 rfl S5
      have sz : ∀ {x : Int}, 0 ≤ x → x < 2 ^ 100 → x.natAbs < 2 ^ 4000 := fun h1 h2 => big4000 (by omega) h2
      have e1 := fun nm (h : nm[0]? = some (some (.val (.sc (.ref b))))) => ev_at (C := Ct.pure K H3) (nm := nm) (v := .int seed) 0 (.inl (.inl hb3)) (fun z => nomatch z) (ev_var h) rfl
      have e2 := fun nm (h : nm[0]? = some (some (.val (.sc (.ref b))))) => ev_at (C := Ct.pure K H3) (nm := nm) (v := .int (turn + 1)) 1 (.inl (.inl hb3)) (fun z => nomatch z) (ev_var h) rfl
      have ht : turn + 1 < 2 ^ 40 := by omega
      refine es_then S5 (N1 := fun nm' => ∃ x : Int, 0 ≤ x ∧ x < 2147483647 ∧ nm' = [some (.val (.sc (.ref b))), some (.val (.i m)), some (.val (.sc (.ref g))), none, some (.val (.i x))]) (es_asg (ev_mod (ev_int1 (ev_mul (ev_add (e1 _ rfl) (ev_mul (ev_c (v := .int 7919)) (e2 _ rfl) (cmulS (sz (by decide) (by decide)) (sz (by omega) (by omega))))) (ev_c (v := .int 48271)) (cmulS (sz (by omega) (by omega)) (sz (by decide) (by decide))))) (ev_c (v := .int 2147483647)) (by decide)) ⟨_, (fmod_rng (by decide)).1, (fmod_rng (by decide)).2, rfl⟩) ?_
      rintro nm' σ6 H6 ⟨x, x0, x1, rfl⟩ S6
      have hq1 : ∀ y : Int, 0 ≤ y → y < 2147483647 → ∀ k : Int, 0 < k → 0 ≤ y / k ∧ y / k ≤ y := fun y h0 h1 k hk => ⟨Int.ediv_nonneg h0 (by omega), Int.ediv_le_self _ h0⟩
      have hx1 := hq1 x x0 x1 1009 (by decide)
      refine es_then S6 (N1 := fun nm' => ∃ x : Int, 0 ≤ x ∧ x < 2147483647 ∧ nm' = [some (.val (.sc (.ref b))), some (.val (.i m)), some (.val (.sc (.ref g))), none, some (.val (.i x))]) (es_asg (ev_mod (ev_int1 (ev_mul (ev_var rfl) (ev_add (ev_div (ev_var rfl) (ev_c (v := .int 1009)) ⟨by decide, by decide⟩) (ev_c (v := .int 69621))) (cmulS (sz x0 (by omega)) (sz (by omega) (by omega))))) (ev_c (v := .int 2147483647)) (by decide)) ⟨_, (fmod_rng (by decide)).1, (fmod_rng (by decide)).2, rfl⟩) ?_
      rintro nm' σ7 H7 ⟨y, y0, y1, rfl⟩ S7
      have hy1 := hq1 y y0 y1 2003 (by decide)
      refine es_then S7 (N1 := fun nm' => ∃ x : Int, nm' = [some (.val (.sc (.ref b))), some (.val (.i m)), some (.val (.sc (.ref g))), none, some (.val (.i x))]) (es_asg (ev_mod (ev_int1 (ev_mul (ev_var rfl) (ev_add (ev_div (ev_var rfl) (ev_c (v := .int 2003)) ⟨by decide, by decide⟩) (ev_c (v := .int 40692))) (cmulS (sz y0 (by omega)) (sz (by omega) (by omega))))) (ev_c (v := .int 2147483399)) (by decide)) ⟨_, rfl⟩) ?_
      rintro nm' σ8 H8 ⟨z, rfl⟩ S8
      refine (ev_mod (ev_int1 (ev_div (ev_var rfl) (ev_c (v := .int 16)) ⟨by decide, by decide⟩)) (ev_var rfl) (by omega) : Ev (Ct.pure K H3) [some (.val (.sc (.ref b))), some (.val (.i m)), some (.val (.sc (.ref g))), none, some (.val (.i z))] _ (Is (.i ((z / 16).fmod m)))) σ8 H8 _ S8 fun v d H9 hd l9 _ p => ?_
      have hd : d = _ := hd
      subst hd
      have p : v = .int ((z / 16).fmod m) := p
      subst p
      have l39 := S8.le.trans l9
      exact q _ H9 (fmod_rng m0).1 (fmod_rng m0).2 (l03.trans (Ex.le l39)) ⟨seed, turn + 1, [], .non, Ex.keep l39 hb3, Ex.keep l39 hg3, s0, s1, by omega, by omega, .inl rfl⟩
    | cons x gs =>
      refine (et_test (ev_b (g := fun i j => decide (i > j)) (b := true) (ev_lenL (C := Ct.pure K H3) (b := g) (vs := (x :: gs).map V.int) (.inl (.inl hg3)) (fun z => nomatch z) (ev_var rfl)) (ev_c (v := .int 0)) (decide_eq_true (by rw [List.length_map, List.length_cons]; omega)))) σ4 H4 _ S4 fun H5 l5 _ => ?_
      have S5 := S4.step l5 trivial
      rw [if_pos rfl]
      have eg := fun nm (h : nm[2]? = some (some (.val (.sc (.ref g))))) => ev_at (C := Ct.pure K H3) (nm := nm) (v := .int x) 0 (.inl (.inl hg3)) (fun z => nomatch z) (ev_var h) rfl
      refine es_then S5 (N1 := fun nm' => nm' = [some (.val (.sc (.ref b))), some (.val (.i m)), some (.val (.sc (.ref g))), some (.val (.i (x.fmod m))), none]) (es_asg (ev_mod (ev_int1 (eg _ rfl)) (ev_var rfl) (by omega)) rfl) ?_
      rintro nm' σ6 H6 rfl S6
      obtain ⟨v2, a2, e2⟩ := S6.val (i := 2) rfl
      have e2 : v2 = .ref g := e2
      subst e2
      refine ev_div (C := Ct.pure K H3) (ev_int1 (eg _ rfl)) (ev_var rfl) ⟨m0, by
        have z : m.natAbs < 2 ^ 10 := by omega
        exact Nat.lt_of_lt_of_le (PySem.Flt.log2_lt_of (by decide) z) (by decide)⟩ σ6 H6 _ S6 fun v d H7 hd l7 _ p => ?_
      have hd : d = _ := hd
      subst hd
      have p : v = .int (x / m) := p
      subst p
      have l37 := S6.le.trans l7
      have hg7 : H7 g = some (.lst ((x :: gs).map V.int)) := Ex.keep l37 hg3
      have hb7 := Ex.keep l37 hb3
      refine ⟨_, a2, g, _, 0, 0, rfl, rfl, hg7, ixN_at (i := 0) (by rw [List.length_map, List.length_cons]; exact Nat.succ_pos _), ?_⟩
      dsimp only
      rw [show (List.map V.int (x :: gs)).set 0 (V.int (x / m)) = (x / m :: gs).map V.int from rfl]
      generalize hH8 : upd H7 g (.lst ((x / m :: gs).map V.int)) = H8
      have hg8 : H8 g = some (.lst ((x / m :: gs).map V.int)) := by rw [← hH8]; exact upd_same
      have hb8 : H8 b = some (.lst [.int seed, .int (turn + 1), .ref g, .non]) := by rw [← hH8, upd_ne hbg]; exact hb7
      have l08 : Le [b, g] H H8 := by
        rw [← hH8]
        exact (l03.trans (Ex.le l37)).trans (Le.put (by simp) hg7)
      have S8 : SR (Ct.pure K H8) [some (.val (.sc (.ref b))), some (.val (.i m)), some (.val (.sc (.ref g))), some (.val (.i (x.fmod m))), none] σ6 H8 := sr_flat S6 (flat4 fun e he => by cases he; exact ⟨_, rfl⟩)
      have eg8 := fun nm (h : nm[2]? = some (some (.val (.sc (.ref g))))) => ev_at (C := Ct.pure K H8) (nm := nm) (v := .int (x / m)) 0 (.inl (.inl hg8)) (fun z => nomatch z) (ev_var h) rfl
      obtain ⟨v3, a3, e3⟩ := S8.val (i := 3) rfl
      have e3 : v3 = .int (x.fmod m) := e3
      subst e3
      refine (et_test (ev_eqI (b := decide (x / m = 0)) (eg8 _ rfl) (ev_c (v := .int 0)) rfl)) σ6 H8 _ S8 fun H9 l9 _ => ?_
      have hg9 := Ex.keep l9 hg8
      have hb9 := Ex.keep l9 hb8
      have l09 : Le [b, g] H H9 := l08.trans (Ex.le l9)
      by_cases hz : x / m = 0
      · rw [decide_eq_true hz]
        rw [if_pos rfl]
        obtain ⟨v2', a2', e2'⟩ := S8.val (i := 2) rfl
        have e2' : v2' = .ref g := e2'
        subst e2'
        refine ⟨_, a2', .inl ⟨rfl, _, .inl (.inl hg9)⟩, g, _, 0, 0, _, rfl, rfl, hg9, by decide, by decide, seq_at0 (by rw [List.length_map, List.length_cons]; omega), rfl, ?_⟩
        refine ⟨_, a3, ?_⟩
        exact q _ _ (fmod_rng m0).1 (fmod_rng m0).2 (l09.trans (Le.put (by simp) hg9)) ⟨seed, turn + 1, gs, .non, by rw [upd_ne hbg]; exact hb9, upd_same, s0, s1, by omega, by omega, .inl rfl⟩
      · rw [decide_eq_false hz, if_neg Bool.false_ne_true]
        refine ⟨_, a3, ?_⟩
        exact q _ _ (fmod_rng m0).1 (fmod_rng m0).2 l09 ⟨seed, turn + 1, x / m :: gs, .non, hb9, hg9, s0, s1, by omega, by omega, .inl rfl⟩
  · refine (?_ : Es (Ct.pure K H) (nm0 5 [.sc (.ref b), .i m]) _ (fun _ => False) (Is (.i (a.fmod m)))) _ H _ S (fun _ _ _ hn _ _ => hn.elim) fun v d H' rd l _ p => by
      have rd : d = _ := rd
      subst rd
      have p : v = .int (a.fmod m) := p
      rw [p]
      exact q _ H' (fmod_rng m0).1 (fmod_rng m0).2 (Ex.le l) ((hbag0.keep (fun o e => Ex.keep l e) (fun o e => Ex.keep l e)).mono (by omega))
    exact es_seq (N1 := fun _ => False) (es_if (b := true) (et_test (ev_notNb (at3 rfl))) (fun _ => es_ret (ev_mod (ev_int1 (at3 rfl)) (ev_var rfl) (by omega))) fun z => nomatch z) fun _ h => h.elim
end
end Q3
namespace Q3
open PySem PySem.Spec PyProof.Rows L2
/-! contexts whose lists change under the calls, so many at most -/
structure Fam where
  K : PySem.W.Frag
  B : List Addr
  H0 : Hp
  I : Nat → Hp → Prop
  st : ∀ n H H', I n H → (∀ a o, H a = some o → H0 a ≠ none ∨ Fix o → H' a = some o) → I n H'
  al : ∀ b ∈ B, H0 b ≠ none
  up : ∀ n m H, n ≤ m → I n H → I m H
abbrev Fam.c (F : Fam) (n : Nat) : Ct := ⟨F.K, F.B, F.H0, F.I n, F.st n, F.al⟩
theorem SR.re {F : Fam} {n m : Nat} {nm : Nm} {σ : L2.St} {H H' : Hp} (S : SR (F.c n) nm σ H) (l : Le F.B H H') (i : F.I m H') : SR (F.c m) nm σ H' := by
  refine ⟨S.le.trans l, i, S.len, fun j e h => ?_⟩
  obtain ⟨v, h1, h2⟩ := S.at_ j e h
  refine ⟨v, h1, ?_⟩
  cases e with
  | val d => exact Rep.to h2 l.fx
  | own a ds =>
    obtain ⟨e1, e2, vs, e3, e4⟩ := h2
    exact ⟨e1, e2, vs, l.keep e3 ((F.c n).notB e2), e4.to l.fx⟩
theorem SR.up {F : Fam} {n m : Nat} {nm : Nm} {σ : L2.St} {H : Hp} (S : SR (F.c n) nm σ H) (h : n ≤ m) : SR (F.c m) nm σ H := S.re (Le.refl _ _) (F.up n m H h S.inv)
def EvT (F : Fam) (n m : Nat) (nm : Nm) (te : TE) (R : D → Prop) : Prop := ∀ σ H (Q : VK), SR (F.c n) nm σ H → (∀ v d H', R d → Le F.B H H' → F.I m H' → Rep F.K H' d v → Q v H') → te σ H Q
def EaT (F : Fam) (n m : Nat) (nm : Nm) (ta : TA) (R : List D → Prop) : Prop := ∀ σ H (Q : List V → Hp → Prop), SR (F.c n) nm σ H → (∀ vs ds H', R ds → Le F.B H H' → F.I m H' → RepL F.K H' ds vs → Q vs H') → ta σ H Q
def ElT (F : Fam) (n m : Nat) (nm : Nm) (te : TE) (R : List D → Prop) : Prop := ∀ σ H (Q : VK), SR (F.c n) nm σ H → (∀ p vs ds H', R ds → H p = none → Le F.B H H' → F.I m H' → H' p = some (.lst vs) → RepL F.K H' ds vs → Q (.ref p) H') → te σ H Q
def RcT (F : Fam) (n m : Nat) (r : List V → Hp → VK → Prop) (ds : List D) (R : D → Prop) : Prop := ∀ H vs (Q : VK), Le F.B F.H0 H → F.I n H → RepL F.K H ds vs → (∀ v d H', R d → Le F.B H H' → F.I m H' → Rep F.K H' d v → Q v H') → r vs H Q
def EsT (F : Fam) (n m : Nat) (nm : Nm) (ts : TS) (N : Nm → Prop) (Rt : D → Prop) : Prop := ∀ σ H (Dd : Ends), SR (F.c n) nm σ H → (∀ nm' σ' H', N nm' → SR (F.c m) nm' σ' H' → Fx H H' → Dd.nx σ' H') →
  (∀ v d H', Rt d → Le F.B F.H0 H' → F.I m H' → Rep F.K H' d v → Dd.rt v H') → ts Dd σ H
section
variable {F : Fam} {n m k : Nat} {nm : Nm} {ta tb te : TE} {R Ra Rb : D → Prop} {t u tb' : TS} {N N1 : Nm → Prop} {Rt : D → Prop} {i : Nat}
theorem Ev.T (h : Ev (F.c n) nm te R) : EvT F n n nm te R := h
theorem Ea.T {ta : TA} {Rs : List D → Prop} (h : Ea (F.c n) nm ta Rs) : EaT F n n nm ta Rs := h
theorem El.T {Rs : List D → Prop} (h : El (F.c n) nm te Rs) : ElT F n n nm te Rs := h
theorem Es.T (h : Es (F.c n) nm t N Rt) : EsT F n n nm t N Rt := h
theorem EvT.imp (h : EvT F n m nm te Ra) (q : ∀ d, Ra d → R d) : EvT F n m nm te R := fun σ H Q S z => h σ H Q S fun v d H' r => z v d H' (q d r)
theorem EvT.up (h : EvT F n m nm te R) (l : m ≤ k) : EvT F n k nm te R := fun σ H Q S z => h σ H Q S fun v d H' r le i => z v d H' r le (F.up m k H' l i)
theorem ElT.up {Rs : List D → Prop} (h : ElT F n m nm te Rs) (l : m ≤ k) : ElT F n k nm te Rs := fun σ H Q S z => h σ H Q S fun p vs ds H' r e le i => z p vs ds H' r e le (F.up m k H' l i)
theorem EsT.up (h : EsT F n m nm t N Rt) (l : m ≤ k) : EsT F n k nm t N Rt := fun σ H Dd S q r => h σ H Dd S (fun nm' σ' H' hn S' f => q nm' σ' H' hn (S'.up l) f) fun v d H' rd le i => r v d H' rd le (F.up m k H' l i)
theorem evT_op {r : R2} (ha : EvT F n m nm ta Ra) (hb : EvT F m k nm tb Rb) (hr : ∀ x y, Ra x → Rb y → Rv (F.c k) r x y R) : EvT F n k nm (tOp r ta tb) R := fun σ H Q S q =>
  ha σ H _ S fun vx x H1 rx l1 i1 p1 => hb σ H1 _ (S.re l1 i1) fun vy y H2 ry l2 i2 p2 => hr x y rx ry H2 vx vy Q (S.le.trans (l1.trans l2)) i2 (p1.to l2.fx) p2 fun v d H3 rd l3 i3 p3 => q v d H3 rd (l1.trans (l2.trans l3)) i3 p3
theorem eaT_nil : EaT F n n nm tNil (fun ds => ds = []) := Ea.T ea_nil
theorem eaT_cons {tr : TA} {Rs : List D → Prop} (ha : EvT F n m nm ta Ra) (hr : EaT F m k nm tr Rs) : EaT F n k nm (tCons ta tr) (fun ds => ∃ d es, ds = d :: es ∧ Ra d ∧ Rs es) := fun σ H Q S q =>
  ha σ H _ S fun vx x H1 rx l1 i1 p1 => hr σ H1 _ (S.re l1 i1) fun vs ds H2 rs l2 i2 p2 => q (vx :: vs) (x :: ds) H2 ⟨x, ds, rfl, rx, rs⟩ (l1.trans l2) i2 (.cons (p1.to l2.fx) p2)
theorem EaT.imp {ta : TA} {Rs Rs' : List D → Prop} (h : EaT F n m nm ta Rs) (q : ∀ ds, Rs ds → Rs' ds) : EaT F n m nm ta Rs' := fun σ H Q S z => h σ H Q S fun vs ds H' r => z vs ds H' (q ds r)
theorem evT_tup {ta : TA} {Rs : List D → Prop} (h : EaT F n m nm ta Rs) (hl : ∀ ds, Rs ds → ds.length ≤ 1000) : EvT F n m nm (tTup ta) (fun d => ∃ ds, d = .tup ds ∧ Rs ds) := fun σ H Q S q =>
  h σ H _ S fun vs es H1 e l i p => by
    refine ⟨Nat.le_of_lt (small1000 (by rw [p.len]; exact hl es e)), fun a ha => ?_⟩
    have x : Ex H1 (upd H1 a (.tup vs)) := Ex.new ha
    exact q _ _ _ ⟨es, rfl, e⟩ (l.trans x.le) (F.st m _ _ i fun a o e _ => x.keep e) (.tup (.inl (.inl upd_same)) (p.to x.fx))
theorem evT_call {sp : Sp} {E : XK} {t : TA} {Rs : List D → Prop} (h : EaT F n m nm t Rs) (hr : ∀ ds, Rs ds → RcT F m k (fun vs H Q => sp (vs ++ []) H Q E) ds R) : EvT F n k nm (tCall sp [] E t) R := fun σ H Q S q =>
  h σ H _ S fun vs es H1 rs l i p => hr es rs H1 vs Q (S.le.trans l) i p fun v d H2 rd l2 i2 p2 => q v d H2 rd (l.trans l2) i2 p2
theorem evT_tupL {Rs : List D → Prop} (h : ElT F n m nm te Rs) : EvT F n m nm (tCB (rTupOf F.K) (tCons te tNil)) (fun d => ∃ es, d = .tup es ∧ Rs es) := fun σ H Q S q =>
  h σ H _ S fun p vs ds H1 rs n l i e r => ⟨p, vs, rfl, .inl ⟨.inl (.inl e), fun a ha => by
    have x : Ex H1 (upd H1 a (.tup vs)) := Ex.new ha
    exact q _ _ _ ⟨ds, rfl, rs⟩ (l.trans x.le) (F.st m _ _ i fun a o e _ => x.keep e) (.tup (.inl (.inl upd_same)) (r.to x.fx))⟩⟩
/-! statements -/
theorem esT_seq (h1 : EsT F n m nm t N1 Rt) (h2 : ∀ nm', N1 nm' → EsT F m k nm' u N Rt) (l : m ≤ k) : EsT F n k nm (tSeq t u) N Rt := fun σ H Dd S q r =>
  h1 σ H { Dd with nx := u Dd } S (fun nm' σ' H' hn S' f => h2 nm' hn σ' H' Dd S' (fun nm2 σ2 H2 hn2 S2 f2 => q nm2 σ2 H2 hn2 S2 (f.trans f2)) r) fun v d H' rd le i => r v d H' rd le (F.up m k H' l i)
theorem esT_asg (h : EvT F n m nm te R) (hn : ∀ d, R d → N (nm.set i (some (.val d)))) : EsT F n m nm (tAsg te (gName i)) N Rt := fun σ H Dd S q _ =>
  h σ H _ S fun v d H1 rd l ii p => q _ _ H1 (hn d rd) ((S.re l ii).set i (e := .val d) p) l.fx
theorem esT_asgL {Rs : List D → Prop} (h : ElT F n m nm te Rs) (hn : ∀ p ds, Rs ds → (∀ (j : Nat) (b : Addr) (zs : List D), nm[j]? = some (some (.own b zs)) → b ≠ p) → N (nm.set i (some (.own p ds)))) : EsT F n m nm (tAsg te (gName i)) N Rt := fun σ H Dd S q _ =>
  h σ H _ S fun p vs ds H1 rs hp l ii e r => q _ _ H1 (hn p ds rs fun j b zs hj z => by
      obtain ⟨_, _, ws, h3, _⟩ := S.own hj
      rw [z, hp] at h3
      cases h3) ((S.re l ii).set i (e := .own p ds) ⟨rfl, S.fresh hp, vs, e, r⟩) l.fx
theorem esT_app {a : Addr} {ds : List D} (ha : nm[i]? = some (some (.own a ds))) (h : EvT F n m nm te R) (hz : ds.length ≤ 1000) (hd : ∀ (j : Nat) (b : Addr) (zs : List D), j ≠ i → nm[j]? = some (some (.own b zs)) → b ≠ a) (hn : ∀ d, R d → N (nm.set i (some (.own a (ds ++ [d]))))) :
    EsT F n m nm (tDrop (tBM F.K "list" rAppend (tVar i) (tCons te tNil))) N Rt := fun σ H Dd S q _ => by
  obtain ⟨h1, h2, vs0, h3, _⟩ := S.own ha
  refine ⟨.ref a, h1, .inl ⟨rfl, _, .inl (.inl h3)⟩, h σ H _ S fun v d H1 rd l ii p => ?_⟩
  have S1 := S.re l ii
  obtain ⟨_, _, vs, e1, e2⟩ := S1.own ha
  obtain ⟨S2, fx⟩ := S1.put ha (e2.snoc p) hd
  exact ⟨a, vs, v, rfl, rfl, e1, small1000 (by rw [e2.len]; exact hz), q _ σ _ (hn d rd) S2 (l.fx.trans fx)⟩
theorem esT_ret (h : EvT F n m nm te Rt) : EsT F n m nm (tRet te) N Rt := fun σ H Dd S _ r => h σ H _ S fun v d H' rd l i p => r v d H' rd (S.le.trans l) i p
theorem esT_next (h : N nm) : EsT F n n nm tNext N Rt := fun σ H Dd S q _ => q nm σ H h S (Fx.refl H)
/-- a test without calls that change -/
theorem esT_if {c : TT} {b : Bool} (h : Et (F.c n) nm c b) (h1 : b = true → EsT F n m nm t N Rt) (h2 : b = false → EsT F n m nm u N Rt) : EsT F n m nm (tIfS c t u) N Rt := fun σ H Dd S q r => h σ H _ S fun H1 l i => by
  cases b with
  | true =>
    show t Dd σ H1
    exact h1 rfl σ H1 Dd (S.re l i) (fun nm' σ' H' hn S' f => q nm' σ' H' hn S' (l.fx.trans f)) r
  | false =>
    show u Dd σ H1
    exact h2 rfl σ H1 Dd (S.re l i) (fun nm' σ' H' hn S' f => q nm' σ' H' hn S' (l.fx.trans f)) r
/-! over a range -/
theorem esT_forR {ta : TA} {v c kmax : Nat} {K0 : Nat → Prop} (ha : EaT F n m nm ta (fun es => ∃ k : Nat, es = [.i (k : Int)] ∧ k ≤ kmax ∧ K0 k)) (hz : kmax < 1000) (P : Nat → Nat → Nm → Prop) (h0 : ∀ k, K0 k → P k 0 nm)
    (hs : ∀ k i nm', i < k → k ≤ kmax → K0 k → P k i nm' → EsT F (m + c * i) (m + c * (i + 1)) (nm'.set v (some (.val (.i (i : Int))))) tb' (P k (i + 1)) Rt) (hd : ∀ k nm', K0 k → P k k nm' → N nm') : EsT F n (m + c * kmax) nm (tFor (iRng1 ta) (gName v) tb') N Rt := fun σ H Dd S q r =>
  ha σ H _ S fun vs es H1 he l ii p => by
    obtain ⟨k, rfl, hk, hK⟩ := he
    obtain ⟨x, r0, rfl, e1, e2⟩ := p
    have e2 : r0 = [] := e2
    have e1 : x = .int (k : Int) := e1
    subst e1 e2
    have hcm : ∀ i, i ≤ k → m + c * i ≤ m + c * kmax := fun i hi => Nat.add_le_add_left (Nat.mul_le_mul_left c (Nat.le_trans hi hk)) m
    refine ⟨(k : Int), rfl, by omega, by omega, ?_⟩
    rw [Int.toNat_natCast]
    exact for_it walk_range (Pv := fun i σ' H' => ∃ nm', P k i nm' ∧ SR (F.c (m + c * i)) nm' σ' H' ∧ Fx H1 H') ⟨nm, h0 k hK, S.re l ii, Fx.refl _⟩ (fun _ _ _ _ _ => trivial)
      (fun i x σ' H' H2 hi ⟨nm', pp, S', f⟩ y => by
        obtain ⟨e1, e2⟩ := y
        subst e1 e2
        have S2 := S'.set v (e := .val (.i (i : Int))) (v := .int (0 + (i : Int))) (by show V.int (0 + (i : Int)) = V.int (i : Int); rw [Int.zero_add])
        exact hs k i nm' hi hk hK pp _ _ { Dd with nx := _, ct := _, bk := Dd.nx } S2 (fun nm3 σ3 H3 p3 S3 f3 => ⟨nm3, p3, S3, f.trans f3⟩) fun v d H3 rd le i3 => r v d H3 rd le (F.up _ _ _ (hcm (i + 1) hi) i3))
      (fun σ' H' ⟨nm', pp, S', f⟩ => q nm' σ' H' (hd k nm' hK pp) (S'.up (hcm k (Nat.le_refl _))) (l.fx.trans f))
/-- [.. for v in range(..)]; Z: what else is known of the heap, by the new list's place -/
theorem elT_lcR {ta : TA} {v c kmax : Nat} {vs : List Nat} {K0 : Nat → Prop} {Rs : List D → Prop} (ha : EaT F n m nm ta (fun es => ∃ k : Nat, es = [.i (k : Int)] ∧ k ≤ kmax ∧ K0 k)) (hz : kmax < 1000) (hv : v ∈ vs) (P : Nat → Nat → List D → Prop) (h0 : ∀ k, P k 0 [])
    (hs : ∀ k i acc, i < k → k ≤ kmax → K0 k → P k i acc → EvT F (m + c * i) (m + c * (i + 1)) ((wipeN nm vs).set v (some (.val (.i (i : Int))))) te (fun e => P k (i + 1) (acc ++ [e]))) (hd : ∀ k acc, K0 k → k ≤ kmax → P k k acc → acc.length = k → Rs acc) : ElT F n (m + c * kmax) nm (tLc (iRng1 ta) (gName v) tYes te vs) Rs := fun σ H Q S q =>
  ha σ H _ S fun xs es H1 he l ii p => by
    obtain ⟨k, rfl, hk, hK⟩ := he
    obtain ⟨x, r0, rfl, e1, e2⟩ := p
    have e2 : r0 = [] := e2
    have e1 : x = .int (k : Int) := e1
    subst e1 e2
    have hcm : ∀ i, i ≤ k → m + c * i ≤ m + c * kmax := fun i hi => Nat.add_le_add_left (Nat.mul_le_mul_left c (Nat.le_trans hi hk)) m
    refine ⟨(k : Int), rfl, by omega, by omega, ?_⟩
    rw [Int.toNat_natCast]
    intro Dd hD
    have S1 := S.re l ii
    have fD := S1.fresh hD
    refine lc_it walk_range (Pv := fun i H' => ∃ acc us, P k i acc ∧ acc.length = i ∧ H' Dd = some (.lst us) ∧ RepL F.K H' acc us ∧ Le F.B H1 H' ∧ F.I (m + c * i) H') ?_ (fun _ _ _ _ => trivial) (fun i x H' H2 hi ⟨acc, us, p, al, e, r, l', i'⟩ y => ?_) fun H' ⟨acc, us, p, al, e, r, l', i'⟩ => q Dd us acc H' (hd k acc hK hk p al) (l.alive hD) (l.trans l') (F.up _ _ _ (hcm k (Nat.le_refl _)) i') e r
    · have x : Ex H1 (upd H1 Dd (.lst [])) := Ex.new hD
      exact ⟨[], [], h0 k, rfl, upd_same, rfl, x.le, F.st _ _ _ ii fun a o e _ => x.keep e⟩
    · obtain ⟨e1, e2⟩ := y
      subst e1 e2
      have S2 : SR (F.c (m + c * i)) (wipeN nm vs) (L2.wipe σ vs) H2 := (S1.re l' i').wipe vs
      have S3 := S2.set v (e := .val (.i (i : Int))) (v := .int (0 + (i : Int))) (by show V.int (0 + (i : Int)) = V.int (i : Int); rw [Int.zero_add])
      show L2.wipe ((L2.wipe σ vs).set v _) vs = L2.wipe σ vs ∧ _
      refine ⟨wipe_again (by rw [List.length_set, wipe_length]) fun j hj => List.getElem?_set_ne fun z => hj (by rw [← z]; exact hv), ?_⟩
      show te _ H2 _
      refine hs k i acc hi hk hK p _ H2 _ S3 fun y ed H4 pe l4 i4 ry => ?_
      have hD4 : H4 Dd = some (.lst us) := l4.keep e ((F.c 0).notB fD)
      have r4 := r.to l4.fx
      have fx : Fx H4 (upd H4 Dd (.lst (us ++ [y]))) := fun b o eb f => by
        rw [upd_ne (fun z => by rw [z, hD4] at eb; cases eb; exact f)]
        exact eb
      refine ⟨us, hD4, small1000 (by rw [r4.len, al]; omega), acc ++ [ed], us ++ [y], pe, by rw [List.length_append, al] <;> rfl, upd_same, (r4.snoc ry).to fx, fun b o eb => ?_, F.st _ _ _ i4 fun b o eb n => ?_⟩
      · obtain ⟨o', z1, z2⟩ := (l'.trans l4) b o eb
        exact ⟨o', by rw [upd_ne (ne_of_none eb hD)]; exact z1, z2⟩
      · rw [upd_ne (fun z => n.elim (fun n => n (by rw [z]; exact fD)) fun f => by rw [z, hD4] at eb; cases eb; exact f)]
        exact eb
/-! the bag in such a context -/
structure HasBag (F : Fam) (b g : Addr) : Prop where
  bb : b ∈ F.B
  gg : g ∈ F.B
  get : ∀ n H, F.I n H → BagN b g n H
  put : ∀ n m H H', F.I n H → Le [b, g] H H' → BagN b g m H' → n ≤ m → F.I m H'
theorem HasBag.le {b g : Addr} {H H' : Hp} (hb : HasBag F b g) (l : Le [b, g] H H') : Le F.B H H' := l.mono fun x hx => by
  rcases List.mem_cons.mp hx with rfl | hx
  · exact hb.bb
  · rw [List.mem_singleton.mp hx]
    exact hb.gg
theorem evT_pick {b g : Addr} {kb : Nat} {M : Int} {E : XK} {tm : TE} (hb : HasBag F b g) (hn : nm[kb]? = some (some (.val (.sc (.ref b))))) (hm : Ev (F.c n) nm tm (Is (.i M))) (m0 : 0 < M) (m1 : M ≤ 1000) (hN : n ≤ 1000000) :
    EvT F n (n + 1) nm (tCall (spPick F.K) [] E (tCons (tVar kb) (tCons tm tNil))) (fun d => ∃ i : Int, d = .i i ∧ 0 ≤ i ∧ i < M) := fun σ H Q S q => by
  obtain ⟨v, h1, h2⟩ := S.val hn
  have h2 : v = .ref b := h2
  subst h2
  refine ⟨_, h1, hm σ H _ S fun w d H1 hd l i p => ?_⟩
  have hd : d = _ := hd
  subst hd
  have p : w = .int M := p
  subst p
  refine ⟨b, g, n, M, rfl, hb.get n H1 i, hN, m0, m1, fun j H' j0 j1 l' bag => ?_⟩
  exact q _ (.i j) H' ⟨j, rfl, j0, j1⟩ (l.trans (hb.le l')) (hb.put n (n + 1) H1 H' i l' bag (Nat.le_succ _)) rfl
end
end Q3
namespace Q3
open PySem PySem.Spec PyProof.Rows L2
/-! shares, plainly -/
theorem mk_add_same (a b : Int) {s : Nat} (h : s ≠ 0) : mkRat a s + mkRat b s = mkRat (a + b) s := by
  rw [Rat.mkRat_add_mkRat _ _ h h, ← Int.add_mul]
  exact Rat.mkRat_mul_right h
theorem mk_self {s : Nat} (h : s ≠ 0) : mkRat (s : Int) s = 1 := by
  have z := Rat.mkRat_mul_right (n := 1) (d := 1) (a := s) h
  rw [Int.one_mul, Nat.one_mul] at z
  rw [z]
  rfl
theorem mk_zero (s : Nat) : mkRat 0 s = 0 := Rat.zero_mkRat s
theorem mk_tot {s : Nat} (h : s ≠ 0) : ∀ L : List Int, tot (L.map fun x => mkRat x s) = mkRat L.sum s
  | [] => (mk_zero s).symm
  | x :: L => by
    rw [List.map_cons, tot_cons, mk_tot h L, mk_add_same _ _ h, List.sum_cons]
theorem mk_nn {x : Int} {s : Nat} (hx : 0 ≤ x) : 0 ≤ mkRat x s := by
  by_cases h : s = 0
  · subst h
    rw [Rat.mkRat_zero]
    exact Rat.le_refl
  · rw [← Rat.num_nonneg, (fr_num_mk x s h).1]
    exact Int.ediv_nonneg hx (Int.natCast_nonneg _)
theorem mk_le_one {x : Int} {s : Nat} (h : s ≠ 0) (hx : x ≤ (s : Int)) : mkRat x s ≤ 1 := by
  have e : mkRat x s + mkRat ((s : Int) - x) s = 1 := by
    rw [mk_add_same _ _ h, show x + ((s : Int) - x) = (s : Int) by omega, mk_self h]
  have z : 0 ≤ mkRat ((s : Int) - x) s := mk_nn (by omega)
  grind
theorem mk_sz {x : Int} {s n : Nat} (h : s ≠ 0) (h1 : x.natAbs < 2 ^ n) (h2 : s < 2 ^ n) : Sz n (mkRat x s) := by
  obtain ⟨e1, e2⟩ := fr_num_mk x s h
  refine ⟨?_, ?_⟩
  · rw [e1]
    refine Nat.lt_of_le_of_lt ?_ h1
    rw [Int.natAbs_ediv_of_dvd (Int.gcd_dvd_left ..)]
    exact Nat.div_le_self _ _
  · have z : ((mkRat x s).den : Int) ≤ (s : Int) := by
      rw [e2]
      exact Int.ediv_le_self _ (by omega)
    omega
/-- shares of so many parts -/
structure ShOk (many : Nat) (ss : List Rat) : Prop where
  len : ss.length = many
  nn : ∀ s ∈ ss, 0 ≤ s ∧ s ≤ 1
  sz : ∀ s ∈ ss, Sz 5 s
  sz4 : many ≤ 3 → ∀ s ∈ ss, Sz 4 s
  one : tot ss = 1
theorem sum_ge {L : List Int} (h : ∀ x ∈ L, 0 ≤ x) : ∀ x ∈ L, x ≤ L.sum := by
  induction L with
  | nil => intro x hx; cases hx
  | cons a L ih =>
    have hs : 0 ≤ L.sum := by
      clear ih
      induction L with
      | nil => show (0 : Int) ≤ 0; omega
      | cons b L ih2 =>
        have h1 := h b (by simp)
        have h2 := ih2 fun x hx => h x (by rcases List.mem_cons.mp hx with rfl | hx; · simp
                                           · simp [hx])
        rw [List.sum_cons]
        omega
    intro x hx
    have ha := h a (by simp)
    rw [List.sum_cons]
    rcases List.mem_cons.mp hx with rfl | hx
    · omega
    · have := ih (fun y hy => h y (by simp [hy])) x hx
      omega
theorem sum_ub {L : List Int} {m : Int} (h : ∀ x ∈ L, x ≤ m) : L.sum ≤ L.length * m := by
  induction L with
  | nil => simp
  | cons a L ih =>
    have h1 := h a (by simp)
    have h2 := ih fun x hx => h x (by simp [hx])
    rw [List.sum_cons, List.length_cons]
    have e : ((L.length + 1 : Nat) : Int) * m = (L.length : Int) * m + m := by rw [Int.natCast_add, Int.add_mul]; simp
    omega
theorem shares_ok {L : List Int} {many : Nat} (hl : L.length = many) (h4 : many ≤ 4) (h : ∀ x ∈ L, 0 ≤ x ∧ x ≤ 5) {j : Nat} {y : Int} (hj : L[j]? = some y) (y1 : 1 ≤ y) : L.sum.toNat ≠ 0 ∧ L.sum.toNat < 2 ^ 8001 ∧ (L.sum.toNat : Int) = L.sum ∧ ShOk many (L.map fun x => mkRat x L.sum.toNat) := by
  have g := sum_ge fun x hx => (h x hx).1
  have u := sum_ub fun x hx => (h x hx).2
  have gy := g y (List.mem_of_getElem? hj)
  have u20 : L.sum ≤ 20 := by
    have : (L.length : Int) ≤ 4 := by omega
    omega
  have e : (L.sum.toNat : Int) = L.sum := Int.toNat_of_nonneg (by omega)
  have n0 : L.sum.toNat ≠ 0 := by omega
  refine ⟨n0, ?_, e, ?_⟩
  · have z : L.sum.toNat < 2 ^ 5 := by omega
    exact Nat.lt_of_lt_of_le z (Nat.pow_le_pow_right (by decide) (by decide))
  · refine ⟨by rw [List.length_map]; exact hl, fun s hs => ?_, fun s hs => ?_, fun h3 s hs => ?_, ?_⟩
    · obtain ⟨x, hx, rfl⟩ := List.mem_map.mp hs
      exact ⟨mk_nn (h x hx).1, mk_le_one n0 (by rw [e]; exact g x hx)⟩
    · obtain ⟨x, hx, rfl⟩ := List.mem_map.mp hs
      obtain ⟨a, b⟩ := h x hx
      exact mk_sz n0 (by omega) (by omega)
    · obtain ⟨x, hx, rfl⟩ := List.mem_map.mp hs
      obtain ⟨a, b⟩ := h x hx
      have u15 : L.sum ≤ 15 := by
        have : (L.length : Int) ≤ 3 := by omega
        omega
      exact mk_sz n0 (by omega) (by omega)
    · rw [mk_tot n0, ← mk_self n0]
      congr 1
      exact e.symm
/-! the bag's own context -/
def bagF (K : PySem.W.Frag) (b g : Addr) (H0 : Hp) (h : ∃ n, BagN b g n H0) : Fam := ⟨K, [b, g], H0, fun n H => BagN b g n H, fun n H H' i e => by
    obtain ⟨n0, s0, t0, gs0, al0, e1, e2, _⟩ := h
    exact i.keep (fun o q => e b o q (.inl (by rw [e1]; exact fun z => nomatch z))) fun o q => e g o q (.inl (by rw [e2]; exact fun z => nomatch z)), fun x hx => by
    obtain ⟨n0, s0, t0, gs0, al0, e1, e2, _⟩ := h
    rcases List.mem_cons.mp hx with rfl | hx
    · rw [e1]; exact fun z => (nomatch z)
    · rw [List.mem_singleton.mp hx, e2]; exact fun z => (nomatch z), fun n m H l i => i.mono l⟩
theorem bagF_has {K : PySem.W.Frag} {b g : Addr} {H0 : Hp} {h : ∃ n, BagN b g n H0} : HasBag (bagF K b g H0 h) b g := ⟨by show b ∈ [b, g]; simp, by show g ∈ [b, g]; simp, fun n H i => i, fun n m H H' _ _ i _ => i⟩
theorem esT_then {F : Fam} {n m : Nat} {nm : Nm} {t u : TS} {N1 : Nm → Prop} {Dd : Ends} {σ : L2.St} {H : Hp} (S : SR (F.c n) nm σ H) (h : EsT F n m nm t N1 (fun _ => False)) (q : ∀ nm' σ' H', N1 nm' → SR (F.c m) nm' σ' H' → u Dd σ' H') : tSeq t u Dd σ H :=
  h σ H { Dd with nx := u Dd } S (fun nm' σ' H' hn S' _ => q nm' σ' H' hn S') (fun _ _ _ h => h.elim)
theorem sr0T {F : Fam} {n : Nat} {N : List Str} {ds : List D} {vs : List V} (r : RepL F.K F.H0 ds vs) (i : F.I n F.H0) : SR (F.c n) (nm0 N.length ds) (L2.start N vs) F.H0 := by
  have S := sr0 (K := F.K) (H := F.H0) (N := N) r
  exact ⟨Le.refl _ _, i, S.len, S.at_⟩
/-- sum of an own list -/
theorem ev_sumO {C : Ct} {nm : Nm} {k : Nat} {a : Addr} {ns : List Int} (h : nm[k]? = some (some (.own a (ns.map D.i)))) : Ev C nm (tCB (rSum C.K) (tCons (tVar k) tNil)) (Is (.i ns.sum)) := fun σ H Q S q => by
  obtain ⟨h1, h2, vs, h3, h4⟩ := S.own h
  rw [h4.ints] at h3
  exact ⟨.ref a, h1, a, ns, rfl, .inl (.inl h3), q _ _ H rfl (Le.refl _ _) S.inv rfl⟩
section
variable {P : Program} {w : World} {K : PySem.W.Frag} {mg : Str → Option Value} {base : Heap} {aN aO aH : Addr}
/-! one of some things -/
def spSome (K : PySem.W.Frag) : Sp := fun vs H Q _ => ∃ (b g : Addr) (n : Nat) (p : Addr) (us : List V) (ds : List D), vs = [.ref b, .ref p] ∧ BagN b g n H ∧ n ≤ 1000000 ∧ SqL K H p us ∧ p ≠ b ∧ p ≠ g ∧ RepL K H ds us ∧ 0 < ds.length ∧ ds.length ≤ 1000 ∧
  ∀ v d H', d ∈ ds → Le [b, g] H H' → BagN b g (n + 1) H' → Rep K H' d v → Q v H'
theorem cal_some (T : Txt K mg aN aO aH) (d : Df K mg "_law_some" s__law_some ["_law_bag_here", "_law_things"]) (c__law_pick : C8.Cal P w K mg base 1 "_law_pick" (spPick K) []) : C8.Cal P w K mg base 2 "_law_some" (spSome K) [] := by
  refine d.cal sc__law_some (fun vs H Q E h => by obtain ⟨_, _, _, _, _, _, rfl, _⟩ := h; rfl) fun f cdv A outer s H vs Q E hr h => ?_
  refine ⟨_, (pss_one (ps_ret (pe_ix (kIxL (K := K) rfl) (pv 1) (C8.pe_c c__law_pick hr (by decide) rfl (pa_cons (pv 0) (pa_cons (pe_callB (kLen (K := K) rfl) (by rfl) T.lenZ PySem.boot_len (pa_cons (pv 1) pa_nil)) pa_nil))) (fun _ _ => rfl)))), ?_⟩
  obtain ⟨b, g, n, p, us, ds, rfl, bag, hn, hl, pb, pg, r, l0, l1, q⟩ := h
  have S := sr0T (F := bagF K b g H ⟨n, bag⟩) (n := n) (N := ["_law_bag_here", "_law_things"]) (ds := [.sc (.ref b), .sc (.ref p)]) (vs := [.ref b, .ref p]) (.cons rfl (.cons rfl .nil)) bag
  have hB : p ∉ (bagF K b g H ⟨n, bag⟩).B := fun z => by
    rcases List.mem_cons.mp (show p ∈ [b, g] from z) with z | z
    · exact pb z
    · exact pg (List.mem_singleton.mp z)
  have hlen : us.length = ds.length := r.len
  refine (esT_ret (N := fun _ => False) (Rt := fun d => d ∈ ds) (evT_op (F := bagF K b g H ⟨n, bag⟩) (n := n) (m := n) (k := n + 1) (Ra := Is (.sc (.ref p))) (Ev.T (ev_var rfl)) (evT_pick bagF_has rfl (ev_lenL (C := (bagF K b g H ⟨n, bag⟩).c n) hl hB (ev_var rfl)) (by omega) (by omega) hn) fun x y hx hy => ?_)) _ H _ S (fun _ _ _ hn _ _ => hn.elim) fun v d H' rd l i rp => q v d H' rd l i rp
  obtain ⟨i, rfl, i0, i1⟩ := hy
  have hx : x = _ := hx
  subst hx
  have hi : i.toNat < ds.length := by omega
  have z := rv_ixL (C := (bagF K b g H ⟨n, bag⟩).c (n + 1)) (p := p) (vs := us) (ds := ds) (j := i.toNat) hl hB r (List.getElem?_eq_getElem hi)
  rw [Int.toNat_of_nonneg i0] at z
  intro H1 vx vy Q1 l1 i1 p1 p2 q1
  exact z H1 vx vy Q1 l1 i1 p1 p2 fun v d H' hd => q1 v d H' (by
    have hd : d = _ := hd
    rw [hd]
    exact List.getElem_mem hi)
/-! shares -/
def spShares (K : PySem.W.Frag) : Sp := fun vs H Q _ => ∃ (b g : Addr) (n many : Nat) (least : Int), vs = [.ref b, .int (many : Int), .int least] ∧ BagN b g n H ∧ n + 5 ≤ 1000000 ∧ 1 ≤ many ∧ many ≤ 4 ∧ 0 ≤ least ∧ least ≤ 1 ∧
  ∀ p us ss H', Le [b, g] H H' → H p = none → BagN b g (n + 5) H' → H' p = some (.lst us) → RepL K H' (ss.map fr) us → ShOk many ss → Q (.ref p) H'
theorem cal_shares (T : Txt K mg aN aO aH) (d : Df K mg "_law_shares" s__law_shares ["_law_bag_here", "_law_many", "_law_least"]) (c__law_pick : C8.Cal P w K mg base 1 "_law_pick" (spPick K) []) (c__law_low : C8.Cal P w K mg base 2 "_law_low" (spLow K) []) : C8.Cal P w K mg base 3 "_law_shares" (spShares K) [] := by
  refine d.cal sc__law_shares (fun vs H Q E h => by obtain ⟨_, _, _, _, _, rfl, _⟩ := h; rfl) fun f cdv A outer s H vs Q E hr h => ?_
  refine ⟨_, (pss_cons (ps_set (i := 3) sc__law_shares.nd rfl (Or.inr rfl) (pe_lc rfl sc__law_shares.nd (own := [("_law_k", 4)]) (g := (gName 4)) (tt := tYes) (pi_range1 (by rfl) T.rangeZ (pa_cons (pv 1) pa_nil)) (blkOk_by (by kernel_rfl)) (fun _ _ _ _ _ => (pg_name (i := 4) sc__law_shares.nd rfl (Or.inl rfl))) (fun _ _ _ _ _ => pts_nil) (fun _ _ _ _ _ => (pe_op op_add (pv 2) (C8.pe_c c__law_pick hr (by decide) rfl (pa_cons (pv 0) (pa_cons pe_int pa_nil)))))))
      (pss_cons (ps_augS (pv 3) (C8.pe_c c__law_pick hr (by decide) rfl (pa_cons (pv 0) (pa_cons (pv 1) pa_nil))) (kGet (K := K) rfl) pe_int ip_add set_list)
      (pss_one (ps_ret (pe_lc rfl sc__law_shares.nd (own := [("_law_part", 5)]) (g := (gName 5)) (tt := tYes) (kPiL (K := K) rfl (pv 3)) (blkOk_by (by kernel_rfl)) (fun _ _ _ _ _ => (pg_name (i := 5) sc__law_shares.nd rfl (Or.inl rfl))) (fun _ _ _ _ _ => pts_nil) (fun _ _ _ _ _ => (C8.pe_c c__law_low hr (by decide) rfl (pa_cons (pv 5) (pa_cons (pe_callB (kSum (K := K) rfl rfl) (by rfl) T.sumZ (by decide +kernel) (pa_cons (pv 3) pa_nil)) pa_nil))))))))), ?_⟩
  obtain ⟨b, g, n, many, least, rfl, bag, hn, m1, m4, e0, e1, q⟩ := h
  generalize hF : bagF K b g H ⟨n, bag⟩ = F
  have hb : HasBag F b g := by rw [← hF]; exact bagF_has
  have fK : F.K = K := by rw [← hF] <;> rfl
  have fB : F.B = [b, g] := by rw [← hF] <;> rfl
  have fH : F.H0 = H := by rw [← hF] <;> rfl
  have fI : ∀ n H, F.I n H → BagN b g n H := hb.get
  have S := sr0T (F := F) (n := n) (N := ["_law_bag_here", "_law_many", "_law_least", "_law_parts", "_law_k", "_law_part"]) (ds := [.sc (.ref b), .i (many : Int), .i least]) (vs := [.ref b, .int (many : Int), .int least]) (.cons rfl (.cons rfl (.cons rfl .nil))) (by rw [← hF]; exact bag)
  rw [fH] at S
  subst fK
  refine esT_then S (m := n + 4) (N1 := fun nm' => ∃ (p : Addr) (L : List Int), L.length = many ∧ (∀ x ∈ L, 0 ≤ x ∧ x ≤ 4) ∧ nm' = [some (.val (.sc (.ref b))), some (.val (.i (many : Int))), some (.val (.i least)), some (.own p (L.map D.i)), none, none])
    (esT_asgL (Rs := fun es => ∃ L : List Int, L.length = many ∧ (∀ x ∈ L, 0 ≤ x ∧ x ≤ 4) ∧ es = L.map D.i) (elT_lcR (n := n) (m := n) (c := 1) (kmax := 4) (K0 := fun k => k = many) (Ea.T (ea_cons (ev_var rfl) ea_nil) |>.imp fun ds hds => ⟨many, hds, m4, rfl⟩) (by decide) (by simp) (fun k i acc => ∃ L : List Int, L.length = i ∧ (∀ x ∈ L, 0 ≤ x ∧ x ≤ 4) ∧ acc = L.map D.i) (fun _ => ⟨[], rfl, fun x hx => (nomatch hx), rfl⟩)
      (fun k i acc hi hk hK hP => ?_) fun k acc hK hk hP hl => ?_) fun p ds hds _ => ?_) ?_
  · obtain ⟨L, l0, l1, rfl⟩ := hP
    refine (evT_op (Ra := Is (.i least)) (Ev.T (ev_var rfl)) (evT_pick hb rfl (ev_c (v := .int 4)) (by decide) (by decide) (by omega)) fun x y hx hy => ?_ : EvT F (n + 1 * i) (n + 1 * i + 1) _ _ (fun d => ∃ z : Int, d = .i z ∧ 0 ≤ z ∧ z ≤ 4)).imp fun e he => ?_
    · obtain ⟨z, rfl, z0, z1⟩ := hy
      have hx : x = _ := hx
      subst hx
      intro H1 vx vy Q1 l1 i1 p1 p2 q1
      exact ⟨least, z, p1, p2, q1 _ _ H1 ⟨least + z, rfl, by omega, by omega⟩ (Le.refl _ _) i1 rfl⟩
    · obtain ⟨z, rfl, z0, z1⟩ := he
      refine ⟨L ++ [z], by rw [List.length_append, l0] <;> rfl, fun x hx => ?_, by rw [List.map_append] <;> rfl⟩
      rcases List.mem_append.mp hx with hx | hx
      · exact l1 x hx
      · rw [List.mem_singleton.mp hx]
        exact ⟨z0, z1⟩
  · obtain ⟨L, l0, l1, rfl⟩ := hP
    exact ⟨L, by rw [l0, hK], l1, rfl⟩
  · obtain ⟨L, l0, l1, rfl⟩ := hds
    exact ⟨p, L, l0, l1, rfl⟩
  rintro nm' σ1 H1 ⟨p, L, l0, l1, rfl⟩ S1
  -- one more
  obtain ⟨s1, s2, us, s3, s4⟩ := S1.own (i := 3) rfl
  refine ⟨_, s1, evT_pick (F := F) (n := n + 4) hb (nm := [some (.val (.sc (.ref b))), some (.val (.i (many : Int))), some (.val (.i least)), some (.own p (L.map D.i)), none, none]) rfl (ev_var rfl) (by omega) (by omega) (by omega) σ1 H1 _ S1 fun v d H2 hd l2 i2 p2 => ?_⟩
  obtain ⟨j, rfl, j0, j1⟩ := hd
  have p2 : v = .int j := p2
  subst p2
  have S2 := S1.re l2 i2
  obtain ⟨_, _, us2, t3, t4⟩ := S2.own (i := 3) rfl
  have eus := t4.ints
  subst eus
  have hj : j.toNat < L.length := by omega
  have hjg : L[j.toNat]? = some (L[j.toNat]'hj) := List.getElem?_eq_getElem hj
  generalize L[j.toNat]'hj = y at hjg
  have ej : (j.toNat : Int) = j := Int.toNat_of_nonneg j0
  refine ⟨p, L.map V.int, j.toNat, .int y, rfl, by rw [ej], .inl (.inl t3), by rw [List.getElem?_map, hjg] <;> rfl, ?_⟩
  refine ⟨y, 1, rfl, rfl, p, _, j, j.toNat, rfl, rfl, t3, by rw [← ej]; exact ixN_at (by rw [List.length_map]; exact hj), ?_⟩
  dsimp only
  have eset : (L.map V.int).set j.toNat (.int (y + 1)) = (L.set j.toNat (y + 1)).map V.int := by rw [List.map_set]
  rw [eset]
  obtain ⟨S3, _⟩ := S2.put (i := 3) (a := p) (es := (L.set j.toNat (y + 1)).map D.i) (us := (L.set j.toNat (y + 1)).map V.int) rfl (by
    have : ∀ (K : PySem.W.Frag) (H : Hp) (M : List Int), RepL K H (M.map D.i) (M.map V.int) := fun K H M => by
      induction M with
      | nil => rfl
      | cons a M ih => exact ⟨.int a, M.map V.int, rfl, rfl, ih⟩
    exact this _ _ _) (fun j b' zs hj' h => by
    rcases j with _ | _ | _ | _ | _ | _ | j
    · cases h
    · cases h
    · cases h
    · exact absurd rfl hj'
    · cases h
    · cases h
    · cases h)
  have hM : ∀ x ∈ L.set j.toNat (y + 1), 0 ≤ x ∧ x ≤ 5 := fun x hx => by
    have hy := l1 y (List.mem_of_getElem? hjg)
    rcases List.mem_or_eq_of_mem_set hx with hx | rfl
    · have := l1 x hx
      omega
    · omega
  have hMj : (L.set j.toNat (y + 1))[j.toNat]? = some (y + 1) := by rw [List.getElem?_set_self hj]
  have hMl : (L.set j.toNat (y + 1)).length = many := by rw [List.length_set]; exact l0
  have hy := l1 y (List.mem_of_getElem? hjg)
  generalize L.set j.toNat (y + 1) = M at S3 hM hMj hMl
  obtain ⟨n0, n1, n2, sh⟩ := shares_ok hMl m4 hM hMj (by omega)
  have e3 : (L.map D.i).length = L.length := List.length_map ..
  refine (el_lc (C := F.c (n + 5)) (Rs := fun es => es = (M.map fun x => mkRat x M.sum.toNat).map fr) (ei_own (k := 3) (ds := M.map D.i) rfl) rfl (by rw [List.length_map]; omega) (fun i acc => acc = ((M.take i).map fun x => mkRat x M.sum.toNat).map fr) rfl (fun i d acc hd hacc => ?_) fun acc hacc => by rw [hacc, List.length_map, List.take_length]) σ1 _ _ S3 fun p' us' ds' H' hds hp' l' i' e' r' => ?_
  · rw [List.getElem?_map] at hd
    cases hMi : M[i]? with
    | none => rw [hMi] at hd; cases hd
    | some x =>
    rw [hMi] at hd
    obtain rfl := Option.some.inj hd
    refine ⟨_, _, eg_name, by simp, Ev.imp (Ra := Is (fr (mkRat x M.sum.toNat))) (ev_P (pre := fun x : Int × Nat => x.2 ≠ 0 ∧ x.2 < 2 ^ 8001) (enc := fun x : Int × Nat => [.i x.1, .i (x.2 : Int)]) (out := fun x => fr (mkRat x.1 x.2)) (x, M.sum.toNat) ?_ ⟨n0, n1⟩) fun e he => ?_⟩
    · rw [n2]
      exact ea_cons (ev_var rfl) (ea_cons (ev_sumO rfl) ea_nil)
    · have he : e = _ := he
      rw [hacc, he, take_snoc hMi, List.map_append]
      rfl
  · subst hds
    have lall : Le F.B H H' := by
      have z := S3.le.trans l'
      rw [← fH]
      exact z
    rw [fB] at lall
    have hp0 := S3.le.alive hp'
    have hp0 : F.H0 p' = none := hp0
    rw [fH] at hp0
    exact q p' us' _ H' lall hp0 (fI _ _ i') e' r' sh
end
end Q3
namespace Q3
open PySem PySem.Spec PyProof.Rows L2
/-! gains -/
section
variable {F : Fam} {n m k : Nat} {nm : Nm}
theorem evT_some {b g : Addr} {kb : Nat} {E : XK} {tl : TE} {ds : List D} (hb : HasBag F b g) (hn : nm[kb]? = some (some (.val (.sc (.ref b))))) (hl : El (F.c n) nm tl (fun es => es = ds)) (l0 : 0 < ds.length) (l1 : ds.length ≤ 1000) (hN : n ≤ 1000000) :
    EvT F n (n + 1) nm (tCall (spSome F.K) [] E (tCons (tVar kb) (tCons tl tNil))) (fun d => d ∈ ds) := fun σ H Q S q => by
  obtain ⟨v, h1, h2⟩ := S.val hn
  have h2 : v = .ref b := h2
  subst h2
  refine ⟨_, h1, hl σ H _ S fun p us es H1 he hp l i e r => ?_⟩
  subst he
  obtain ⟨_, _, _, _, b1, b2, _⟩ := hb.get n H S.inv
  refine ⟨b, g, n, p, us, es, rfl, hb.get n H1 i, hN, .inl (.inl e), (ne_of_none b1 hp).symm, (ne_of_none b2 hp).symm, r, l0, l1, fun v d H' hd l' bag rv => ?_⟩
  exact q v d H' hd (l.trans (hb.le l')) (hb.put n (n + 1) H1 H' i l' bag (Nat.le_succ _)) rv
theorem ev_max2 {C : Ct} {ta tb : TE} {i j : Int} (ha : Ev C nm ta (Is (.i i))) (hb : Ev C nm tb (Is (.i j))) : Ev C nm (tCB (fun xs H Q => ∃ i j, xs = [.int i, .int j] ∧ Q (.int (if j > i then j else i)) H) (tCons ta (tCons tb tNil))) (Is (.i (if j > i then j else i))) :=
  ev_callB (ea_cons ha (ea_cons hb ea_nil)) fun H vs Q l ii p q => by
    obtain ⟨v, r, rfl, p1, v2, r2, rfl, p2, e⟩ := p
    have e : r2 = [] := e
    have p1 : v = .int i := p1
    have p2 : v2 = .int j := p2
    subst e p1 p2
    exact ⟨i, j, rfl, q _ _ H rfl (Le.refl _ _) ii rfl⟩
end
/-- gains, none of which is below nought -/
structure GnOk (W : Nat) (gs : List (List Rat)) : Prop where
  g : GainsOk W gs
  nn : ∀ g ∈ gs, ∀ q ∈ g, 0 ≤ q
def RowOk (W : Nat) (g : List Rat) : Prop := g.length = W ∧ ∀ q ∈ g, 0 ≤ q ∧ Sz 4 q
section
variable {P : Program} {w : World} {K : PySem.W.Frag} {mg : Str → Option Value} {base : Heap} {aN aO aH : Addr}
def spGains (K : PySem.W.Frag) : Sp := fun vs H Q _ => ∃ (b g : Addr) (n W : Nat), vs = [.ref b, .int (W : Int), .int 0] ∧ BagN b g n H ∧ n + 49 ≤ 1000000 ∧ 1 ≤ W ∧ W ≤ 4 ∧ ∀ v gs H', Le [b, g] H H' → BagN b g (n + 49) H' → GnOk W gs → Rep K H' (gD gs) v → Q v H'
theorem cal_gains (T : Txt K mg aN aO aH) (d : Df K mg "_law_gains" s__law_gains ["_law_bag_here", "_law_worlds", "_law_least"]) (c__law_pick : C8.Cal P w K mg base 1 "_law_pick" (spPick K) []) (c__law_some : C8.Cal P w K mg base 2 "_law_some" (spSome K) []) (c__law_low : C8.Cal P w K mg base 2 "_law_low" (spLow K) []) : C8.Cal P w K mg base 3 "_law_gains" (spGains K) [] := by
  refine d.cal sc__law_gains (fun vs H Q E h => by obtain ⟨_, _, _, _, rfl, _⟩ := h; rfl) fun f cdv A outer s H vs Q E hr h => ?_
  refine ⟨_, (pss_cons (ps_set (i := 3) sc__law_gains.nd rfl (Or.inl rfl) (pe_lst pa_nil))
      (pss_cons (ps_for PassesOwn.never rfl (pi_range1 (by rfl) T.rangeZ (pa_cons (pe_op op_add pe_int (C8.pe_c c__law_pick hr (by decide) rfl (pa_cons (pv 0) (pa_cons pe_int pa_nil)))) pa_nil)) (pg_name (i := 4) sc__law_gains.nd rfl (Or.inl rfl)) (pss_cons (ps_set (i := 5) sc__law_gains.nd rfl (Or.inl rfl) (pe_lst pa_nil))
      (pss_cons (ps_for PassesOwn.never rfl (pi_range1 (by rfl) T.rangeZ (pa_cons (pv 1) pa_nil)) (pg_name (i := 6) sc__law_gains.nd rfl (Or.inl rfl)) (pss_cons (ps_set (i := 7) sc__law_gains.nd rfl (Or.inl rfl) (pe_op op_sub (C8.pe_c c__law_pick hr (by decide) rfl (pa_cons (pv 0) (pa_cons pe_int pa_nil))) (C8.pe_c c__law_pick hr (by decide) rfl (pa_cons (pv 0) (pa_cons pe_int pa_nil)))))
      (pss_one (ps_expr (pe_bm PySem.F.plainAttrs_list PySem.F.slot_list_append PySem.F.type_list_append mt_append (pv 5) (pa_cons (C8.pe_c c__law_low hr (by decide) rfl (pa_cons (pe_callB (call_max2 rfl) (by rfl) T.maxZ (by decide +kernel) (pa_cons (pv 2) (pa_cons (pv 7) pa_nil))) (pa_cons (C8.pe_c c__law_some hr (by decide) rfl (pa_cons (pv 0) (pa_cons (pe_lst (pa_cons pe_int (pa_cons pe_int (pa_cons pe_int (pa_cons pe_int (pa_cons pe_int pa_nil)))))) pa_nil))) pa_nil))) pa_nil))))))
      (pss_one (ps_expr (pe_bm PySem.F.plainAttrs_list PySem.F.slot_list_append PySem.F.type_list_append mt_append (pv 3) (pa_cons (pe_callTy (kTuple (K := K) rfl rfl) (by rfl) T.tupleZ (by decide +kernel) (pa_cons (pv 5) pa_nil)) pa_nil)))))))
      (pss_one (ps_ret (pe_callTy (kTuple (K := K) rfl rfl) (by rfl) T.tupleZ (by decide +kernel) (pa_cons (pv 3) pa_nil)))))), ?_⟩
  obtain ⟨b, g, n, W, rfl, bag, hn, w1, w4, q⟩ := h
  generalize hF : bagF K b g H ⟨n, bag⟩ = F
  have hb : HasBag F b g := by rw [← hF]; exact bagF_has
  have fK : F.K = K := by rw [← hF] <;> rfl
  have fB : F.B = [b, g] := by rw [← hF] <;> rfl
  have fH : F.H0 = H := by rw [← hF] <;> rfl
  have S := sr0T (F := F) (n := n) (N := ["_law_bag_here", "_law_worlds", "_law_least", "_law_found", "_law_k", "_law_deed_here", "_law_world", "_law_top"]) (ds := [.sc (.ref b), .i (W : Int), .i 0]) (vs := [.ref b, .int (W : Int), .int 0]) (.cons rfl (.cons rfl (.cons rfl .nil))) (by rw [← hF]; exact bag)
  rw [fH] at S
  subst fK
  refine (?_ : EsT F n (n + 49) _ _ (fun _ => False) (fun d => ∃ gs, d = gD gs ∧ GnOk W gs)) _ H _ S (fun _ _ _ hn _ _ => hn.elim) fun v d H' rd l i rp => by
    obtain ⟨gs, rfl, ok⟩ := rd
    rw [fB, fH] at l
    exact q v gs H' l (hb.get _ _ i) ok rp
  let B3 : List Ent := [.val (.sc (.ref b)), .val (.i (W : Int)), .val (.i 0)]
  refine esT_seq (m := n) (N1 := fun nm' => ∃ p : Addr, nm' = [some (.val (.sc (.ref b))), some (.val (.i (W : Int))), some (.val (.i 0)), some (.own p []), none, none, none, none]) (esT_asgL (Rs := fun es => es = []) (El.T (el_lst ea_nil (by simp))) fun p ds hds _ => ⟨p, by rw [hds]; rfl⟩) ?_ (by omega)
  rintro nm' ⟨p, rfl⟩
  refine esT_seq (m := n + 1 + 12 * 4) (N1 := fun nm' => ∃ (p : Addr) (gs : List (List Rat)) (x y z : Option D) (e : Option Ent), gs ≠ [] ∧ gs.length ≤ 4 ∧ (∀ r ∈ gs, RowOk W r) ∧ nm' = [some (.val (.sc (.ref b))), some (.val (.i (W : Int))), some (.val (.i 0)), some (.own p (gs.map frs)), x.map Ent.val, e, y.map Ent.val, z.map Ent.val])
    (esT_forR (m := n + 1) (c := 12) (kmax := 4) (K0 := fun k => 1 ≤ k ∧ k ≤ 4) ?_ (by decide) (fun k i nm' => ∃ (p : Addr) (gs : List (List Rat)) (x y z : Option D) (e : Option Ent), gs.length = i ∧ (∀ r ∈ gs, RowOk W r) ∧ (∀ b zs, e = some (.own b zs) → b ≠ p) ∧ nm' = [some (.val (.sc (.ref b))), some (.val (.i (W : Int))), some (.val (.i 0)), some (.own p (gs.map frs)), x.map Ent.val, e, y.map Ent.val, z.map Ent.val])
      (fun k hk => ⟨p, [], none, none, none, none, rfl, fun r hr => (nomatch hr), fun b zs h => (nomatch h), rfl⟩) (fun k i nm' hi hk hK hP => ?_) fun k nm' hK hP => ?_) ?_ (by omega)
  · -- how many
    refine (eaT_cons (Ra := fun d => ∃ i : Int, d = .i (1 + i) ∧ 0 ≤ i ∧ i < 4) (evT_op (Ra := Is (.i 1)) (Rb := fun d => ∃ i : Int, d = .i i ∧ 0 ≤ i ∧ i < 4) (Ev.T ev_c) (evT_pick hb rfl (ev_c (v := .int 4)) (by decide) (by decide) (by omega)) fun x y hx hy => ?_) eaT_nil).imp fun es he => ?_
    · obtain ⟨z, rfl, z0, z1⟩ := hy
      have hx : x = _ := hx
      subst hx
      intro H1 vx vy Q1 l1 i1 p1 p2 q1
      exact ⟨1, z, p1, p2, q1 _ _ H1 ⟨z, rfl, z0, z1⟩ (Le.refl _ _) i1 rfl⟩
    · obtain ⟨d, es', rfl, ⟨i, rfl, i0, i1⟩, rfl⟩ := he
      refine ⟨(1 + i).toNat, by rw [Int.toNat_of_nonneg (by omega)], by omega, by omega, by omega⟩
  · -- a deed
    obtain ⟨p, gs, x, y, z, e, hl, hrow, hne, rfl⟩ := hP
    refine esT_seq (m := n + 1 + 12 * i) (N1 := fun nm' => ∃ p' : Addr, p' ≠ p ∧ nm' = [some (.val (.sc (.ref b))), some (.val (.i (W : Int))), some (.val (.i 0)), some (.own p (gs.map frs)), some (.val (.i (i : Int))), some (.own p' []), y.map Ent.val, z.map Ent.val]) (esT_asgL (Rs := fun es => es = []) (El.T (el_lst ea_nil (by simp))) fun p' ds hds hu => ⟨p', (hu 3 p _ rfl).symm, by rw [hds]; rfl⟩) ?_ (by omega)
    rintro nm' ⟨p', hpp, rfl⟩
    refine esT_seq (m := n + 1 + 12 * i + 3 * 4) (N1 := fun nm' => ∃ (r : List Rat) (y z : Option D), RowOk W r ∧ nm' = [some (.val (.sc (.ref b))), some (.val (.i (W : Int))), some (.val (.i 0)), some (.own p (gs.map frs)), some (.val (.i (i : Int))), some (.own p' (r.map fr)), y.map Ent.val, z.map Ent.val])
      (esT_forR (m := n + 1 + 12 * i) (c := 3) (kmax := 4) (K0 := fun k => k = W) ((Ea.T (ea_cons (ev_var rfl) ea_nil)).imp fun ds hds => ⟨W, hds, w4, rfl⟩) (by decide) (fun k j nm' => ∃ (r : List Rat) (y z : Option D), r.length = j ∧ (∀ q ∈ r, 0 ≤ q ∧ Sz 4 q) ∧ nm' = [some (.val (.sc (.ref b))), some (.val (.i (W : Int))), some (.val (.i 0)), some (.own p (gs.map frs)), some (.val (.i (i : Int))), some (.own p' (r.map fr)), y.map Ent.val, z.map Ent.val])
        (fun k hk => ⟨[], y, z, rfl, fun q hq => (nomatch hq), rfl⟩) (fun k j nm' hj hk2 hK2 hP => ?_) fun k nm' hK2 hP => ?_) ?_ (by omega)
    · obtain ⟨r, y, z, rl, rok, rfl⟩ := hP
      subst hK2
      -- top
      refine esT_seq (m := n + 1 + 12 * i + 3 * j + 2) (N1 := fun nm' => ∃ t : Int, -4 < t ∧ t < 7 ∧ nm' = [some (.val (.sc (.ref b))), some (.val (.i (k : Int))), some (.val (.i 0)), some (.own p (gs.map frs)), some (.val (.i (i : Int))), some (.own p' (r.map fr)), some (.val (.i (j : Int))), some (.val (.i t))])
        (esT_asg (R := fun d => ∃ t : Int, d = .i t ∧ -4 < t ∧ t < 7) (evT_op (evT_pick hb rfl (ev_c (v := .int 7)) (by decide) (by decide) (by omega)) (evT_pick hb rfl (ev_c (v := .int 4)) (by decide) (by decide) (by omega)) fun x1 y1 hx hy => ?_) fun d hd => ?_) ?_ (by omega)
      · obtain ⟨s1, rfl, s2, s3⟩ := hx
        obtain ⟨t1, rfl, t2, t3⟩ := hy
        intro H1 vx vy Q1 l1 i1 p1 p2 q1
        exact ⟨s1, t1, p1, p2, q1 _ _ H1 ⟨s1 - t1, rfl, by omega, by omega⟩ (Le.refl _ _) i1 rfl⟩
      · obtain ⟨t, rfl, t1, t2⟩ := hd
        exact ⟨t, t1, t2, rfl⟩
      rintro nm' ⟨t, t1, t2, rfl⟩
      refine esT_app (m := n + 1 + 12 * i + 3 * j + 2 + 1) (a := p') (ds := r.map fr) (R := fun d => ∃ q : Rat, d = fr q ∧ 0 ≤ q ∧ Sz 4 q) rfl (evT_call (eaT_cons (Ra := Is (.i (if t > 0 then t else 0))) (Ev.T (ev_max2 (ev_var rfl) (ev_var rfl))) (eaT_cons (evT_some hb rfl (ds := [.i 1, .i 1, .i 2, .i 3, .i 7]) (el_lst (ea_cons ev_c (ea_cons ev_c (ea_cons ev_c (ea_cons ev_c (ea_cons ev_c ea_nil))))) (by simp)) (by simp) (by simp) (by omega)) eaT_nil)) fun es he => ?_) ?_ ?_ fun d hd => ?_
      · obtain ⟨d1, es1, rfl, hd1, d2, es2, rfl, hd2, rfl⟩ := he
        have hd1 : d1 = _ := hd1
        subst hd1
        obtain ⟨s, rfl, s1, s2⟩ : ∃ s : Nat, d2 = .i (s : Int) ∧ s ≠ 0 ∧ s < 2 ^ 4 := by
          simp only [List.mem_cons, List.not_mem_nil, or_false] at hd2
          rcases hd2 with h | h | h | h | h
          · exact ⟨1, h, by decide, by decide⟩
          · exact ⟨1, h, by decide, by decide⟩
          · exact ⟨2, h, by decide, by decide⟩
          · exact ⟨3, h, by decide, by decide⟩
          · exact ⟨7, h, by decide, by decide⟩
        have t3 : 0 ≤ (if t > 0 then t else 0) ∧ (if t > 0 then t else 0) < 16 := by split <;> omega
        intro H1 vs1 Q1 l1 i1 p1 q1
        refine rc_P (C := F.c (n + 1 + 12 * i + 3 * j + 2 + 1)) (enc := fun x : Int × Nat => [.i x.1, .i (x.2 : Int)]) (pre := fun x => x.2 ≠ 0 ∧ x.2 < 2 ^ 8001) (out := fun x => fr (mkRat x.1 x.2)) ((if t > 0 then t else 0), s) ⟨s1, Nat.lt_of_lt_of_le s2 (Nat.pow_le_pow_right (by decide) (by decide))⟩ H1 vs1 Q1 l1 i1 p1 fun v d H' hd => q1 v d H' ?_
        have hd : d = _ := hd
        rw [hd]
        exact ⟨_, rfl, mk_nn t3.1, mk_sz s1 (by omega) s2⟩
      · rw [List.length_map]
        omega
      · intro j' b' zs hj' h
        rcases j' with _ | _ | _ | _ | _ | _ | _ | _ | j'
        · cases h
        · cases h
        · cases h
        · cases h
          exact hpp.symm
        · cases h
        · exact absurd rfl hj'
        · cases h
        · cases h
        · cases h
      · obtain ⟨q, rfl, q0, q1⟩ := hd
        refine ⟨r ++ [q], some (.i (j : Int)), some (.i t), by rw [List.length_append, rl] <;> rfl, fun x hx => ?_, by rw [List.map_append] <;> rfl⟩
        rcases List.mem_append.mp hx with hx | hx
        · exact rok x hx
        · rw [List.mem_singleton.mp hx]
          exact ⟨q0, q1⟩
    · obtain ⟨r, y, z, rl, rok, rfl⟩ := hP
      exact ⟨r, y, z, ⟨by rw [rl, hK2], rok⟩, rfl⟩
    rintro nm' ⟨r, y, z, rok, rfl⟩
    rw [show n + 1 + 12 * (i + 1) = n + 1 + 12 * i + 3 * 4 by omega]
    refine Es.T (es_app (a := p) (ds := gs.map frs) rfl (ev_tupO (k := 5) rfl) (by rw [List.length_map]; omega) (fun j' b' zs hj' h => ?_) fun d hd => ?_)
    · rcases j' with _ | _ | _ | _ | _ | _ | _ | _ | j'
      · cases h
      · cases h
      · cases h
      · exact absurd rfl hj'
      · cases h
      · cases h
        exact hpp
      · cases y <;> cases h
      · cases z <;> cases h
      · cases h
    · have hd : d = _ := hd
      subst hd
      refine ⟨p, gs ++ [r], some (.i (i : Int)), y, z, some (.own p' (r.map fr)), by rw [List.length_append, hl] <;> rfl, fun x hx => ?_, fun b' zs h => by cases h; exact hpp, by rw [List.map_append] <;> rfl⟩
      rcases List.mem_append.mp hx with hx | hx
      · exact hrow x hx
      · rw [List.mem_singleton.mp hx]
        exact rok
  · obtain ⟨p, gs, x, y, z, e, hl, hrow, hne, rfl⟩ := hP
    exact ⟨p, gs, x, y, z, e, fun z => by rw [z] at hl; have := hK.1; simp at hl; omega, by have := hK.2; omega, hrow, rfl⟩
  rintro nm' ⟨p, gs, x, y, z, e, ne, l4, hrow, rfl⟩
  refine esT_ret (EvT.imp (Ev.T (ev_tupO (k := 3) (ds := gs.map frs) rfl)) fun d hd => ?_)
  have hd : d = _ := hd
  exact ⟨gs, hd, ⟨ne, by omega, fun g hg => (hrow g hg).1, fun g hg q hq => ((hrow g hg).2 q hq).2⟩, fun g hg q hq => ((hrow g hg).2 q hq).1⟩
end
end Q3
namespace Q3
open PySem PySem.Spec PyProof.Rows L2
/-! questions, nodes, trees drawn -/
theorem tot_mul_left (c : Rat) : ∀ xs : List Rat, tot (xs.map (c * ·)) = c * tot xs
  | [] => by show (0 : Rat) = c * 0; grind
  | x :: xs => by
    rw [List.map_cons, tot_cons, tot_cons, tot_mul_left c xs]
    grind
theorem mul_unit {a b : Rat} (ha : 0 ≤ a ∧ a ≤ 1) (hb : 0 ≤ b ∧ b ≤ 1) : 0 ≤ a * b ∧ a * b ≤ 1 := by
  refine ⟨Rat.mul_nonneg ha.1 hb.1, ?_⟩
  have z := Rat.mul_le_mul_of_nonneg_right ha.2 hb.1
  rw [Rat.one_mul] at z
  exact Rat.le_trans z hb.2
structure AhOk (W s : Nat) (ahead : List Rat) : Prop where
  len : ahead.length = W
  nn : ∀ x ∈ ahead, 0 ≤ x ∧ x ≤ 1
  sz : ∀ x ∈ ahead, Sz s x
/-- the weights of the k-th answer -/
def wts (W : Nat) (ahead : List Rat) (rows : List (List Rat)) (k : Nat) : List Rat := (List.range W).map fun w => ahead.getD w 0 * (rows.getD w []).getD k 0
structure RowsOk (W many : Nat) (rows : List (List Rat)) : Prop where
  len : rows.length = W
  sh : ∀ r ∈ rows, ShOk many r
theorem getD_mem {α : Type} {l : List α} {i : Nat} {d : α} (h : i < l.length) : l.getD i d ∈ l := by
  rw [List.getD_eq_getElem?_getD, List.getElem?_eq_getElem h]
  exact List.getElem_mem h
theorem wts_ok {W s many k : Nat} {ahead : List Rat} {rows : List (List Rat)} (ha : AhOk W s ahead) (hr : RowsOk W many rows) (h3 : many ≤ 3) (hk : k < many) : AhOk W (s + 4) (wts W ahead rows k) := by
  have key : ∀ w, w < W → (0 ≤ ahead.getD w 0 ∧ ahead.getD w 0 ≤ 1) ∧ Sz s (ahead.getD w 0) ∧ (0 ≤ (rows.getD w []).getD k 0 ∧ (rows.getD w []).getD k 0 ≤ 1) ∧ Sz 4 ((rows.getD w []).getD k 0) := fun w hw => by
    have h1 : ahead.getD w 0 ∈ ahead := getD_mem (by rw [ha.len]; exact hw)
    have h2 := hr.sh _ (getD_mem (l := rows) (d := []) (by rw [hr.len]; exact hw))
    have h4 : (rows.getD w []).getD k 0 ∈ rows.getD w [] := getD_mem (by rw [h2.len]; exact hk)
    exact ⟨ha.nn _ h1, ha.sz _ h1, h2.nn _ h4, h2.sz4 h3 _ h4⟩
  refine ⟨by unfold wts; rw [List.length_map, List.length_range], fun x hx => ?_, fun x hx => ?_⟩
  · obtain ⟨w, hw, rfl⟩ := List.mem_map.mp hx
    obtain ⟨a, b, c, d⟩ := key w (List.mem_range.mp hw)
    exact mul_unit a c
  · obtain ⟨w, hw, rfl⟩ := List.mem_map.mp hx
    obtain ⟨a, b, c, d⟩ := key w (List.mem_range.mp hw)
    exact b.mul d
theorem wts_cols {W s many : Nat} {ahead : List Rat} {rows : List (List Rat)} (ha : AhOk W s ahead) (hr : RowsOk W many rows) {w : Nat} (hw : w < W) : tot ((List.range many).map fun k => (wts W ahead rows k).getD w 0) = ahead.getD w 0 := by
  have h2 := hr.sh _ (getD_mem (l := rows) (d := []) (by rw [hr.len]; exact hw))
  have e : ((List.range many).map fun k => (wts W ahead rows k).getD w 0) = (rows.getD w []).map (ahead.getD w 0 * ·) := by
    refine List.ext_getElem? fun i => ?_
    rw [List.getElem?_map, List.getElem?_map]
    by_cases hi : i < many
    · have hl : i < (rows.getD w []).length := by rw [h2.len]; exact hi
      rw [List.getElem?_range hi, List.getElem?_eq_getElem hl]
      show some ((wts W ahead rows i).getD w 0) = some _
      unfold wts
      rw [List.getD_eq_getElem?_getD, List.getElem?_map, List.getElem?_range hw]
      show some (ahead.getD w 0 * (rows.getD w []).getD i 0) = _
      rw [List.getD_eq_getElem?_getD (l := rows.getD w []), List.getElem?_eq_getElem hl] <;> rfl
    · rw [List.getElem?_eq_none (by rw [List.length_range]; omega), List.getElem?_eq_none (by rw [h2.len]; omega)]
      rfl
  rw [e, tot_mul_left, h2.one]
  grind
def WordAt (k : Nat) (xs : List Int) : Prop := ∃ wd : List Int, xs = 11 * (k : Int) :: wd ∧ WordOk xs
theorem q_ok {r W s many : Nat} {ahead : List Rat} {rows : List (List Rat)} {q : List (An r)} (ha : AhOk W s ahead) (hr : RowsOk W many rows) (hs : s + 4 ≤ 14) (h1 : 1 ≤ many) (h3 : many ≤ 3) (w1 : 1 ≤ W) (w4 : W ≤ 4)
    (hl : q.length = many) (hw : ∀ (i : Nat) (a : An r), q[i]? = some a → WordAt i a.1 ∧ a.2.1 = wts W ahead rows i) : QOk (fun a : An r => a.2.1) (fun a : An r => a.1) W ahead q := by
  have at_ : ∀ a ∈ q, ∃ i, i < many ∧ WordAt i a.1 ∧ a.2.1 = wts W ahead rows i := fun a ha => by
    obtain ⟨i, hi, rfl⟩ := List.mem_iff_getElem.mp ha
    exact ⟨i, by omega, hw i _ (List.getElem?_eq_getElem hi)⟩
  refine ⟨by omega, by omega, ⟨by rw [List.length_map]; omega, fun i a b h1 h2 => ?_⟩, fun w hw' => ?_, ha.len, fun a ha' => ?_, fun a ha' => ?_, fun a ha' x hx => ?_, w1, w4⟩
  · rw [List.getElem?_map] at h1 h2
    cases e1 : q[i]? with
    | none => rw [e1] at h1; cases h1
    | some a1 =>
    cases e2 : q[i + 1]? with
    | none => rw [e2] at h2; cases h2
    | some b1 =>
    rw [e1] at h1
    rw [e2] at h2
    obtain rfl := Option.some.inj h1
    obtain rfl := Option.some.inj h2
    obtain ⟨⟨wa, ea, _⟩, _⟩ := hw i a1 e1
    obtain ⟨⟨wb, eb, _⟩, _⟩ := hw (i + 1) b1 e2
    show HT.lexLt a1.1 b1.1 = true
    rw [ea, eb, HT.lexLt_cons, if_neg (by omega)]
    exact decide_eq_true (by omega)
  · rw [← wts_cols ha hr hw']
    congr 1
    refine List.ext_getElem? fun i => ?_
    rw [List.getElem?_map, List.getElem?_map]
    by_cases hi : i < many
    · have hl' : i < q.length := by omega
      rw [List.getElem?_range hi, List.getElem?_eq_getElem hl']
      show some ((q[i]).2.1.getD w 0) = some _
      rw [(hw i _ (List.getElem?_eq_getElem hl')).2]
    · rw [List.getElem?_eq_none (by omega), List.getElem?_eq_none (by rw [List.length_range]; omega)]
      rfl
  · obtain ⟨i, hi, ⟨_, _, ok⟩, _⟩ := at_ a ha'
    exact ok
  · obtain ⟨i, hi, _, e⟩ := at_ a ha'
    show a.2.1.length = W
    rw [e]
    exact (wts_ok ha hr h3 hi).len
  · obtain ⟨i, hi, _, e⟩ := at_ a ha'
    have hx : x ∈ a.2.1 := hx
    rw [e] at hx
    have z := wts_ok ha hr h3 hi
    exact ⟨z.nn x hx, (z.sz x hx).mono hs⟩
/-! the contexts -/
def LeftN (b g l : Addr) (n : Nat) (H : Hp) : Prop := BagN b g n H ∧ l ≠ b ∧ l ≠ g ∧ ∃ x : Int, H l = some (.lst [.int x])
theorem LeftN.keep {b g l : Addr} {n : Nat} {H H' : Hp} (h : LeftN b g l n H) (e : ∀ a o, a = b ∨ a = g ∨ a = l → H a = some o → H' a = some o) : LeftN b g l n H' := by
  obtain ⟨h1, h2, h3, x, h4⟩ := h
  exact ⟨h1.keep (fun o => e b o (.inl rfl)) (fun o => e g o (.inr (.inl rfl))), h2, h3, x, e l _ (.inr (.inr rfl)) h4⟩
theorem LeftN.alive {b g l : Addr} {n : Nat} {H : Hp} (h : LeftN b g l n H) : ∀ x ∈ [b, g, l], H x ≠ none := fun x hx => by
  obtain ⟨⟨_, _, _, _, h1, h2, _⟩, _, _, y, h4⟩ := h
  simp only [List.mem_cons, List.not_mem_nil, or_false] at hx
  rcases hx with rfl | rfl | rfl
  · rw [h1]; exact fun z => nomatch z
  · rw [h2]; exact fun z => nomatch z
  · rw [h4]; exact fun z => nomatch z
def leftF (K : PySem.W.Frag) (b g l : Addr) (H0 : Hp) (h : ∃ n, LeftN b g l n H0) : Fam := ⟨K, [b, g, l], H0, fun n H => LeftN b g l n H, fun n H H' i e => by
    obtain ⟨n0, h⟩ := h
    exact i.keep fun a o ha q => e a o q (.inl (h.alive a (by rcases ha with rfl | rfl | rfl <;> simp))), fun x hx => by
    obtain ⟨n0, h⟩ := h
    exact h.alive x hx, fun n m H l i => ⟨i.1.mono l, i.2⟩⟩
theorem leftF_has {K : PySem.W.Frag} {b g l : Addr} {H0 : Hp} {h : ∃ n, LeftN b g l n H0} : HasBag (leftF K b g l H0 h) b g := ⟨by show b ∈ [b, g, l]; simp, by show g ∈ [b, g, l]; simp, fun n H i => i.1, fun n m H H' i le bag _ => ⟨bag, i.2.1, i.2.2.1, by
    obtain ⟨x, hx⟩ := i.2.2.2
    exact ⟨x, le.keep hx (by simp [i.2.1, i.2.2.1])⟩⟩⟩
/-- left[0] -= many -/
theorem esT_left {K : PySem.W.Frag} {b g l : Addr} {H0 : Hp} {h : ∃ n, LeftN b g l n H0} {n : Nat} {nm : Nm} {N : Nm → Prop} {Rt : D → Prop} {M : Int} (n4 : nm[4]? = some (some (.val (.sc (.ref l))))) (n5 : nm[5]? = some (some (.val (.i M)))) (hn : N nm) :
    EsT (leftF K b g l H0 h) n n nm (tAugS (tVar 4) (tC (.int 0)) (tVar 5) (rGetL K) (ipI fun i j => i - j) rSetL) N Rt := fun σ H Dd S q _ => by
  obtain ⟨v4, h4, e4⟩ := S.val n4
  obtain ⟨v5, h5, e5⟩ := S.val n5
  have e4 : v4 = .ref l := e4
  have e5 : v5 = .int M := e5
  subst e4 e5
  obtain ⟨bag, lb, lg, x, hx⟩ : LeftN b g l n H := S.inv
  refine ⟨_, h4, l, [.int x], 0, .int x, rfl, rfl, .inl (.inl hx), rfl, _, h5, x, M, rfl, rfl, l, _, 0, 0, rfl, rfl, hx, rfl, ?_⟩
  have hp : Le [b, g, l] H (upd H l (.lst [.int (x - M)])) := Le.put (by simp) hx
  exact q nm σ _ hn (S.re (F := leftF K b g l H0 h) hp ⟨bag.keep (fun o e => by rw [upd_ne lb.symm]; exact e) (fun o e => by rw [upd_ne lg.symm]; exact e), lb, lg, x - M, upd_same⟩) hp.fx
/-- a row of shares at a -/
def RowAt (K : PySem.W.Frag) (many : Nat) (H : Hp) (a : Addr) (ss : List Rat) : Prop := ∃ us, H a = some (.lst us) ∧ RepL K H (ss.map fr) us ∧ ShOk many ss
theorem elT_rows {F : Fam} {n W many : Nat} {nm : Nm} {b g : Addr} {E E' : XK} (hb : HasBag F b g) (n0 : nm[0]? = some (some (.val (.sc (.ref b))))) (n1 : nm[1]? = some (some (.val (.i (W : Int))))) (n5 : nm[5]? = some (some (.val (.i (many : Int))))) (w4 : W ≤ 4) (m1 : 1 ≤ many) (m4 : many ≤ 4) (hN : n + 24 ≤ 1000000) (σ : L2.St) (H : Hp) (Q : VK) (S : SR (F.c n) nm σ H)
    (q : ∀ p (rs : List (Addr × List Rat)) H', rs.length = W → H p = none → Le F.B H H' → F.I (n + 24) H' → H' p = some (.lst (rs.map fun x => .ref x.1)) → (∀ x ∈ rs, F.H0 x.1 = none ∧ RowAt F.K many H' x.1 x.2) → Q (.ref p) H') :
    tLc (iRng1 (tCons (tVar 1) tNil)) (gName 7) tYes (tCall (spShares F.K) [] E (tCons (tVar 0) (tCons (tVar 5) (tCons (tCall (spPick F.K) [] E' (tCons (tVar 0) (tCons (tC (.int 2)) tNil))) tNil)))) [7] σ H Q := by
  obtain ⟨v1, h1, e1⟩ := S.val n1
  have e1 : v1 = .int (W : Int) := e1
  subst e1
  refine ⟨_, h1, (W : Int), rfl, by omega, by omega, ?_⟩
  rw [Int.toNat_natCast]
  intro Dd hD
  have fD := S.fresh hD
  refine lc_it walk_range (Pv := fun i H' => ∃ rs : List (Addr × List Rat), rs.length = i ∧ H' Dd = some (.lst (rs.map fun x => .ref x.1)) ∧ (∀ x ∈ rs, x.1 ≠ Dd ∧ F.H0 x.1 = none ∧ RowAt F.K many H' x.1 x.2) ∧ Le F.B H H' ∧ F.I (n + 6 * i) H') ?_ (fun _ _ _ _ => trivial) (fun i x H1 H2 hi ⟨rs, al, e, hrs, l', i'⟩ y => ?_) fun H' ⟨rs, al, e, hrs, l', i'⟩ => q Dd rs H' al hD l' (F.up _ _ _ (by omega) i') e fun x hx => (hrs x hx).2
  · have x : Ex H (upd H Dd (.lst [])) := Ex.new hD
    exact ⟨[], rfl, upd_same, fun x hx => (nomatch hx), x.le, F.st _ _ _ S.inv fun a o e _ => x.keep e⟩
  · obtain ⟨e1, e2⟩ := y
    subst e1 e2
    have S2 : SR (F.c (n + 6 * i)) (wipeN nm [7]) (L2.wipe σ [7]) H2 := (S.re l' i').wipe [7]
    have S3 := S2.set 7 (e := .val (.i (i : Int))) (v := .int (0 + (i : Int))) (by show V.int (0 + (i : Int)) = V.int (i : Int); rw [Int.zero_add])
    show L2.wipe ((L2.wipe σ [7]).set 7 _) [7] = L2.wipe σ [7] ∧ _
    refine ⟨wipe_again (by rw [List.length_set, wipe_length]) fun j hj => List.getElem?_set_ne fun z => hj (by rw [← z]; simp), ?_⟩
    have hne : ∀ j, j ≠ 7 → ((wipeN nm [7]).set 7 (some (.val (.i (i : Int)))))[j]? = nm[j]? := fun j hj => by
      rw [List.getElem?_set_ne (Ne.symm hj)]
      show (nm.set 7 none)[j]? = nm[j]?
      rw [List.getElem?_set_ne (Ne.symm hj)]
    obtain ⟨v0, g0, f0⟩ := S3.val (i := 0) (d := .sc (.ref b)) (by rw [hne 0 (by decide)]; exact n0)
    obtain ⟨v5, g5, f5⟩ := S3.val (i := 5) (d := .i (many : Int)) (by rw [hne 5 (by decide)]; exact n5)
    have f0 : v0 = .ref b := f0
    have f5 : v5 = .int (many : Int) := f5
    subst f0 f5
    refine ⟨_, g0, _, g5, evT_pick (F := F) hb (nm := (wipeN nm [7]).set 7 (some (.val (.i (i : Int))))) (by rw [hne 0 (by decide)]; exact n0) (ev_c (v := .int 2)) (by decide) (by decide) (by omega) _ H2 _ S3 fun v d H3 hd l3 i3 p3 => ?_⟩
    obtain ⟨z, rfl, z0, z1⟩ := hd
    have p3 : v = .int z := p3
    subst p3
    refine ⟨b, g, n + 6 * i + 1, many, z, rfl, hb.get _ _ i3, by omega, m1, m4, z0, by omega, fun p us ss H4 l4 hp bag e4 r4 sh => ?_⟩
    have l34 : Le F.B H2 H4 := l3.trans (hb.le l4)
    have i4 := hb.put (n + 6 * i + 1) (n + 6 * i + 1 + 5) H3 H4 i3 l4 bag (by omega)
    have hD4 : H4 Dd = some (.lst (rs.map fun x => .ref x.1)) := l34.keep e ((F.c 0).notB fD)
    have npD : p ≠ Dd := fun z => by
      have := l3.keep e ((F.c 0).notB fD)
      rw [z, this] at hp
      cases hp
    have fp : F.H0 p = none := (S.le.trans (l'.trans l3)).alive hp
    have fx : Fx H4 (upd H4 Dd (.lst ((rs.map fun x => V.ref x.1) ++ [.ref p]))) := fun b o eb f => by
      rw [upd_ne (fun z => by rw [z, hD4] at eb; cases eb; exact f)]
      exact eb
    refine ⟨_, hD4, small1000 (by rw [List.length_map, al]; omega), rs ++ [(p, ss)], by rw [List.length_append, al] <;> rfl, by rw [upd_same, List.map_append] <;> rfl, fun x hx => ?_, fun b o eb => ?_, F.st _ _ _ (show F.I (n + 6 * (i + 1)) H4 from (show n + 6 * i + 1 + 5 = n + 6 * (i + 1) by omega) ▸ i4) fun b o eb n => ?_⟩
    · rcases List.mem_append.mp hx with hx | hx
      · obtain ⟨a1, a2, us', a3, a4, a5⟩ := hrs x hx
        exact ⟨a1, a2, us', by rw [upd_ne a1]; exact l34.keep a3 ((F.c 0).notB a2), (a4.to l34.fx).to fx, a5⟩
      · rw [List.mem_singleton.mp hx]
        exact ⟨npD, fp, us, by rw [upd_ne npD]; exact e4, r4.to fx, sh⟩
    · obtain ⟨o', z1, z2⟩ := (l'.trans l34) b o eb
      exact ⟨o', by rw [upd_ne (ne_of_none eb hD)]; exact z1, z2⟩
    · rw [upd_ne (fun z => n.elim (fun n => n (by rw [z]; exact fD)) fun f => by rw [z, hD4] at eb; cases eb; exact f)]
      exact eb
end Q3
namespace Q3
open PySem PySem.Spec PyProof.Rows L2
theorem seq_asg {te : TE} {u : TS} {i : Nat} {Dd : Ends} {σ : L2.St} {H : Hp} (h : te σ H fun x H1 => u Dd (σ.set i (some x)) H1) : tSeq (tAsg te (gName i)) u Dd σ H := h
def nc : Nat → Nat
  | 0 => 0
  | r + 1 => 1 + 2 * (25 + 3 * (1 + nc r))
def qc (r : Nat) : Nat := 25 + 3 * (1 + nc r)
theorem nc_succ (r : Nat) : nc (r + 1) = 1 + 2 * qc r := rfl
section
variable {P : Program} {w : World} {K : PySem.W.Frag} {mg : Str → Option Value} {base : Heap} {aN aO aH : Addr}
abbrev qDr {r : Nat} (q : List (An r)) : D := qD (fun a : An r => wordD a.1) (fun a : An r => encT r a.2.2) (fun a : An r => a.2.1) q
/-- a node of at most r rounds, drawn -/
def spNodeD (K : PySem.W.Frag) (R : Nat) : Sp := fun vs H Q _ => ∃ r : Nat, r ≤ R ∧ ∃ (b g l : Addr) (n W s : Nat) (ahead : List Rat), RepL K H [.sc (.ref b), .i (W : Int), frs ahead, .i (r : Int), .sc (.ref l)] vs ∧ LeftN b g l n H ∧ n + nc r ≤ 1000000 ∧ AhOk W s ahead ∧ s + 4 * r ≤ 13 ∧ 1 ≤ W ∧ W ≤ 4 ∧
  ∀ v (t : T r) H', Le [b, g, l] H H' → LeftN b g l (n + nc r) H' → GoodT W r ahead t → Rep K H' (encT r t) v → Q v H'
/-- a question before r more rounds -/
def spQD (K : PySem.W.Frag) (R : Nat) : Sp := fun vs H Q _ => ∃ r : Nat, r ≤ R ∧ ∃ (b g l : Addr) (n W s : Nat) (ahead : List Rat), RepL K H [.sc (.ref b), .i (W : Int), frs ahead, .i ((r + 1 : Nat) : Int), .sc (.ref l)] vs ∧ LeftN b g l n H ∧ n + qc r ≤ 1000000 ∧ AhOk W s ahead ∧ s + 4 * (r + 1) ≤ 13 ∧ 1 ≤ W ∧ W ≤ 4 ∧
  ∀ v (q : List (An r)) H', Le [b, g, l] H H' → LeftN b g l (n + qc r) H' → QOk (fun a : An r => a.2.1) (fun a : An r => a.1) W ahead q → (∀ a ∈ q, GoodT W r a.2.1 a.2.2) → Rep K H' (qDr q) v → Q v H'
theorem cal_q {R j : Nat} (h3 : 3 ≤ j) (T0 : Txt K mg aN aO aH) (d : Df K mg "_law_question" s__law_question ["_law_bag_here", "_law_worlds", "_law_ahead", "_law_rounds", "_law_left"]) (c__law_pick : C8.Cal P w K mg base 1 "_law_pick" (spPick K) []) (c__law_some : C8.Cal P w K mg base 2 "_law_some" (spSome K) [])
    (c__law_shares : C8.Cal P w K mg base 3 "_law_shares" (spShares K) []) (c__law_times : C8.Cal P w K mg base 3 "_law_times" (spTimes K) []) (c__law_node : C8.Cal P w K mg base j "_law_node" (spNodeD K R) []) : C8.Cal P w K mg base (j + 1) "_law_question" (spQD K R) [] := by
  refine d.cal sc__law_question (fun vs H Q E h => by obtain ⟨_, _, _, _, _, _, _, _, _, r, _⟩ := h; rw [r.len]; rfl) fun f cdv A outer s0 H vs Q E hr h => ?_
  have h1 : 1 ≤ j := by omega
  have h2 : 2 ≤ j := by omega
  have T := T0
  refine ⟨_, (pss_cons (ps_set (i := 5) sc__law_question.nd rfl (Or.inr rfl) (pe_op op_add pe_int (C8.pe_c c__law_pick hr h1 rfl (pa_cons (pv 0) (pa_cons pe_int pa_nil)))))
      (pss_cons (ps_augS (pv 4) pe_int (kGet (K := K) rfl) (pv 5) ip_sub set_list)
      (pss_cons (ps_set (i := 6) sc__law_question.nd rfl (Or.inr rfl) (pe_lc rfl sc__law_question.nd (own := [("_law_world", 7)]) (g := (gName 7)) (tt := tYes) (pi_range1 (by rfl) T.rangeZ (pa_cons (pv 1) pa_nil)) (blkOk_by (by kernel_rfl)) (fun _ _ _ _ _ => (pg_name (i := 7) sc__law_question.nd rfl (Or.inl rfl))) (fun _ _ _ _ _ => pts_nil) (fun _ _ _ _ _ => (C8.pe_c c__law_shares hr h3 rfl (pa_cons (pv 0) (pa_cons (pv 5) (pa_cons (C8.pe_c c__law_pick hr h1 rfl (pa_cons (pv 0) (pa_cons pe_int pa_nil))) pa_nil)))))))
      (pss_cons (ps_set (i := 8) sc__law_question.nd rfl (Or.inl rfl) (pe_lst pa_nil))
      (pss_cons (ps_for PassesOwn.never rfl (pi_range1 (by rfl) T.rangeZ (pa_cons (pv 5) pa_nil)) (pg_name (i := 9) sc__law_question.nd rfl (Or.inr rfl)) (pss_cons (ps_set (i := 10) sc__law_question.nd rfl (Or.inl rfl) (C8.pe_c c__law_some hr h2 rfl (pa_cons (pv 0) (pa_cons (pe_lst (pa_cons (pe_tup (pa_cons (pv 9) pa_nil)) (pa_cons (pe_tup (pa_cons (pe_op op_mulW pe_int (pv 9)) (pa_cons pe_int pa_nil))) (pa_cons (pe_tup (pa_cons (pe_op op_add (pe_op op_mulW pe_int (pv 9)) pe_int) (pa_cons pe_int (pa_cons pe_int pa_nil)))) (pa_cons (pe_op (kRep (K := K) rfl) (pe_tup (pa_cons (pe_op op_add pe_int (pv 9)) pa_nil)) pe_int) (pa_cons (pe_tup pa_nil) pa_nil)))))) pa_nil))))
      (pss_cons (ps_set (i := 11) sc__law_question.nd rfl (Or.inl rfl) (pe_callTy (kTuple (K := K) rfl rfl) (by rfl) T.tupleZ (by decide +kernel) (pa_cons (pe_lc rfl sc__law_question.nd (own := [("_law_world", 7)]) (g := (gName 7)) (tt := tYes) (pi_range1 (by rfl) T.rangeZ (pa_cons (pv 1) pa_nil)) (blkOk_by (by kernel_rfl)) (fun _ _ _ _ _ => (pg_name (i := 7) sc__law_question.nd rfl (Or.inl rfl))) (fun _ _ _ _ _ => pts_nil) (fun _ _ _ _ _ => (C8.pe_c c__law_times hr h3 rfl (pa_cons (pe_ix (kIxT (K := K) rfl) (pv 2) (pv 7) (fun _ _ => rfl)) (pa_cons (pe_ix (kIxL (K := K) rfl) (pe_ix (kIxL (K := K) rfl) (pv 6) (pv 7) (fun _ _ => rfl)) (pv 9) (fun _ _ => rfl)) pa_nil))))) pa_nil)))
      (pss_one (ps_expr (pe_bm PySem.F.plainAttrs_list PySem.F.slot_list_append PySem.F.type_list_append mt_append (pv 8) (pa_cons (pe_tup (pa_cons (pe_op (kCat (K := K) rfl) (pe_tup (pa_cons (pe_op op_mulW pe_int (pv 9)) pa_nil)) (pv 10)) (pa_cons (pv 11) (pa_cons (C8.pe_c c__law_node hr (Nat.le_refl _) rfl (pa_cons (pv 0) (pa_cons (pv 1) (pa_cons (pv 11) (pa_cons (pe_op op_sub (pv 3) pe_int) (pa_cons (pv 4) pa_nil)))))) pa_nil)))) pa_nil)))))))
      (pss_one (ps_ret (pe_callTy (kTuple (K := K) rfl rfl) (by rfl) T.tupleZ (by decide +kernel) (pa_cons (pv 8) pa_nil))))))))), ?_⟩
  clear T
  obtain ⟨r, hrR, b, g, l, n, W, s, ahead, rp, left, hn, ha, hs, w1, w4, q⟩ := h
  have hqc : n + 25 ≤ 1000000 := by unfold qc at hn; omega
  have hb : HasBag (leftF K b g l H ⟨n, left⟩) b g := leftF_has
  have S := sr0T (F := leftF K b g l H ⟨n, left⟩) (n := n) (N := ["_law_bag_here", "_law_worlds", "_law_ahead", "_law_rounds", "_law_left", "_law_many", "_law_rows", "_law_world", "_law_found", "_law_k", "_law_word", "_law_weights"]) (ds := [.sc (.ref b), .i (W : Int), frs ahead, .i ((r + 1 : Nat) : Int), .sc (.ref l)]) (vs := vs) rp left
  -- many
  refine esT_then S (m := n + 1) (N1 := fun nm' => ∃ m : Nat, 1 ≤ m ∧ m ≤ 3 ∧ nm' = [some (.val (.sc (.ref b))), some (.val (.i (W : Int))), some (.val (frs ahead)), some (.val (.i ((r + 1 : Nat) : Int))), some (.val (.sc (.ref l))), some (.val (.i (m : Int))), none, none, none, none, none, none])
    (esT_asg (R := fun d => ∃ i : Int, d = .i (1 + i) ∧ 0 ≤ i ∧ i < 3) (evT_op (Ra := Is (.i 1)) (Rb := fun d => ∃ i : Int, d = .i i ∧ 0 ≤ i ∧ i < 3) (Ev.T ev_c) (evT_pick hb rfl (ev_c (v := .int 3)) (by decide) (by decide) (by omega)) fun x y hx hy => ?_) fun d hd => ?_) ?_
  · obtain ⟨z, rfl, z0, z1⟩ := hy
    have hx : x = _ := hx
    subst hx
    intro H1 vx vy Q1 l1 i1 p1 p2 q1
    exact ⟨1, z, p1, p2, q1 _ _ H1 ⟨z, rfl, z0, z1⟩ (Le.refl _ _) i1 rfl⟩
  · obtain ⟨z, rfl, z0, z1⟩ := hd
    have e : (1 + z) = (((1 + z).toNat : Nat) : Int) := (Int.toNat_of_nonneg (by omega)).symm
    exact ⟨(1 + z).toNat, by omega, by omega, by rw [← e]; rfl⟩
  rintro nm' σ1 H1 ⟨m, m1, m3, rfl⟩ S1
  -- left
  refine esT_then S1 (m := n + 1) (N1 := fun nm' => nm' = [some (.val (.sc (.ref b))), some (.val (.i (W : Int))), some (.val (frs ahead)), some (.val (.i ((r + 1 : Nat) : Int))), some (.val (.sc (.ref l))), some (.val (.i (m : Int))), none, none, none, none, none, none]) (esT_left rfl rfl rfl) ?_
  rintro nm' σ2 H2 rfl S2
  -- rows
  refine seq_asg (elT_rows (F := leftF K b g l H ⟨n, left⟩) (n := n + 1) (many := m) hb rfl rfl rfl w4 m1 (by omega) (by omega) σ2 H2 _ S2 fun p rs H3 rl hp l23 i3 e3 hrs => ?_)
  have S3 := (S2.re l23 i3).set 6 (e := .val (.sc (.ref p))) (v := .ref p) rfl
  have l03 : Le [b, g, l] H H3 := S2.le.trans l23
  have i3 : LeftN b g l (n + 1 + 24) H3 := i3
  have p0 : H p = none := S2.le.alive hp
  have hpB : p ∉ [b, g, l] := fun z => left.alive p z p0
  have hrB : ∀ x ∈ rs, x.1 ∉ [b, g, l] := fun x hx z => left.alive x.1 z (hrs x hx).1
  have hb3 : HasBag (leftF K b g l H3 ⟨_, i3⟩) b g := leftF_has
  generalize hF : leftF K b g l H3 ⟨_, i3⟩ = F at hb3
  have fK : F.K = K := by rw [← hF] <;> rfl
  have fB : F.B = [b, g, l] := by rw [← hF] <;> rfl
  have fH : F.H0 = H3 := by rw [← hF] <;> rfl
  have fI : ∀ n H, F.I n H = LeftN b g l n H := fun n H => by rw [← hF] <;> rfl
  have S4 : SR (F.c (n + 25)) [some (.val (.sc (.ref b))), some (.val (.i (W : Int))), some (.val (frs ahead)), some (.val (.i ((r + 1 : Nat) : Int))), some (.val (.sc (.ref l))), some (.val (.i (m : Int))), some (.val (.sc (.ref p))), none, none, none, none, none] (σ2.set 6 (some (.ref p))) H3 := by
    refine ⟨by show Le F.B F.H0 H3; rw [fH]; exact Le.refl _ _, by show F.I (n + 25) H3; rw [fI]; exact i3, S3.len, fun i e he => ?_⟩
    obtain ⟨v, a1, a2⟩ := S3.at_ i e he
    refine ⟨v, a1, ?_⟩
    cases e with
    | val d =>
      show Rep F.K H3 d v
      rw [fK]
      exact a2
    | own a ds =>
      exfalso
      rcases i with _ | _ | _ | _ | _ | _ | _ | _ | _ | _ | _ | _ | i
      all_goals cases he
  subst fK
  have hrows : RowsOk W m (rs.map (·.2)) := ⟨by rw [List.length_map]; exact rl, fun x hx => by
    obtain ⟨y, hy, rfl⟩ := List.mem_map.mp hx
    obtain ⟨_, _, _, _, sh⟩ := hrs y hy
    exact sh⟩
  refine (?_ : EsT F (n + 25) (n + qc r) [some (.val (.sc (.ref b))), some (.val (.i (W : Int))), some (.val (frs ahead)), some (.val (.i ((r + 1 : Nat) : Int))), some (.val (.sc (.ref l))), some (.val (.i (m : Int))), some (.val (.sc (.ref p))), none, none, none, none, none] _ (fun _ => False) (fun d => ∃ qn : List (An r), d = qDr qn ∧ QOk (fun a : An r => a.2.1) (fun a : An r => a.1) W ahead qn ∧ ∀ a ∈ qn, GoodT W r a.2.1 a.2.2)) _ H3 _ S4 (fun _ _ _ hn _ _ => hn.elim) fun v d H' rd le i' rv => by
    obtain ⟨qn, rfl, ok, good⟩ := rd
    rw [fB, fH] at le
    rw [fI] at i'
    exact q v qn H' (l03.trans le) i' ok good rv
  refine esT_seq (m := n + 25) (N1 := fun nm' => ∃ pf : Addr, nm' = [some (.val (.sc (.ref b))), some (.val (.i (W : Int))), some (.val (frs ahead)), some (.val (.i ((r + 1 : Nat) : Int))), some (.val (.sc (.ref l))), some (.val (.i (m : Int))), some (.val (.sc (.ref p))), none, some (.own pf []), none, none, none]) (esT_asgL (Rs := fun es => es = []) (El.T (el_lst ea_nil (by simp))) fun pf ds hds _ => ⟨pf, by rw [hds]; rfl⟩) ?_ (by unfold qc; omega)
  rintro nm' ⟨pf, rfl⟩
  let PQ : Nat → List (An r) → Prop := fun i qn => qn.length = i ∧ (∀ (k : Nat) (a : An r), qn[k]? = some a → WordAt k a.1 ∧ a.2.1 = wts W ahead (rs.map (·.2)) k) ∧ ∀ a ∈ qn, GoodT W r a.2.1 a.2.2
  refine esT_seq (m := n + 25 + (1 + nc r) * 3) (N1 := fun nm' => ∃ (qn : List (An r)) (x y z : Option D), PQ m qn ∧ nm' = [some (.val (.sc (.ref b))), some (.val (.i (W : Int))), some (.val (frs ahead)), some (.val (.i ((r + 1 : Nat) : Int))), some (.val (.sc (.ref l))), some (.val (.i (m : Int))), some (.val (.sc (.ref p))), none, some (.own pf (qn.map (encCh (fun a : An r => wordD a.1) (fun a : An r => encT r a.2.2) (fun a : An r => a.2.1)))), x.map Ent.val, y.map Ent.val, z.map Ent.val])
    (esT_forR (m := n + 25) (c := 1 + nc r) (kmax := 3) (K0 := fun k => k = m) ((Ea.T (ea_cons (ev_var rfl) ea_nil)).imp fun ds hds => ⟨m, hds, m3, rfl⟩) (by decide) (fun k i nm' => ∃ (qn : List (An r)) (x y z : Option D), PQ i qn ∧ nm' = [some (.val (.sc (.ref b))), some (.val (.i (W : Int))), some (.val (frs ahead)), some (.val (.i ((r + 1 : Nat) : Int))), some (.val (.sc (.ref l))), some (.val (.i (m : Int))), some (.val (.sc (.ref p))), none, some (.own pf (qn.map (encCh (fun a : An r => wordD a.1) (fun a : An r => encT r a.2.2) (fun a : An r => a.2.1)))), x.map Ent.val, y.map Ent.val, z.map Ent.val])
      (fun k hk => ⟨[], none, none, none, ⟨rfl, fun k a h => (by simp at h), fun a h => (nomatch h)⟩, rfl⟩) (fun k i nm' hi hk hK hP => ?_) fun k nm' hK hP => by rw [hK] at hP; exact hP) ?_ (by unfold qc; omega)
  · obtain ⟨qn, x, y, z, ⟨ql, qa, qg⟩, rfl⟩ := hP
    subst hK
    have hcost : n + 25 + (1 + nc r) * i + (1 + nc r) ≤ n + qc r := by
      unfold qc
      have : (1 + nc r) * i ≤ (1 + nc r) * 2 := Nat.mul_le_mul_left _ (by omega)
      omega
    rw [show n + 25 + (1 + nc r) * (i + 1) = n + 25 + (1 + nc r) * i + 1 + nc r by rw [Nat.mul_succ]; omega]
    generalize n + 25 + (1 + nc r) * i = n' at hcost
    -- a word
    refine esT_seq (m := n' + 1) (N1 := fun nm' => ∃ wd : List Int, WordOk (11 * (i : Int) :: wd) ∧ nm' = [some (.val (.sc (.ref b))), some (.val (.i (W : Int))), some (.val (frs ahead)), some (.val (.i ((r + 1 : Nat) : Int))), some (.val (.sc (.ref l))), some (.val (.i (k : Int))), some (.val (.sc (.ref p))), none, some (.own pf (qn.map (encCh (fun a : An r => wordD a.1) (fun a : An r => encT r a.2.2) (fun a : An r => a.2.1)))), some (.val (.i (i : Int))), some (.val (wordD wd)), z.map Ent.val])
      (esT_asg (evT_some hb3 rfl (ds := [wordD [(i : Int)], wordD [7 * (i : Int), 3], wordD [9 * (i : Int) + 1, 0, 99], wordD (List.replicate 7 (90 + (i : Int))), wordD []]) (el_lst (ea_cons (ev_tup (ds := [.i (i : Int)]) (ea_cons (ev_var rfl) ea_nil) (by simp)) (ea_cons (ev_tup (ds := [.i (7 * (i : Int)), .i 3]) (ea_cons (ev_mul (ev_c (v := .int 7)) (ev_var rfl) (cmulS (big4000 (by omega) (by omega)) (big4000 (by omega) (by omega)))) (ea_cons ev_c ea_nil)) (by simp)) (ea_cons (ev_tup (ds := [.i (9 * (i : Int) + 1), .i 0, .i 99]) (ea_cons (ev_add (ev_mul (ev_c (v := .int 9)) (ev_var rfl) (cmulS (big4000 (by omega) (by omega)) (big4000 (by omega) (by omega)))) (ev_c (v := .int 1))) (ea_cons ev_c (ea_cons ev_c ea_nil))) (by simp)) (ea_cons ?_ (ea_cons (ev_tup (ds := []) ea_nil (by simp)) ea_nil))))) (by simp)) (by simp) (by simp) (by omega)) fun d hd => ?_) ?_ (by omega)
    · have z7 := ev_rep (C := F.c n') (nm := [some (.val (.sc (.ref b))), some (.val (.i (W : Int))), some (.val (frs ahead)), some (.val (.i ((r + 1 : Nat) : Int))), some (.val (.sc (.ref l))), some (.val (.i (k : Int))), some (.val (.sc (.ref p))), none, some (.own pf (qn.map (encCh (fun a : An r => wordD a.1) (fun a : An r => encT r a.2.2) (fun a : An r => a.2.1)))), some (.val (.i (i : Int))), y.map Ent.val, z.map Ent.val]) (d := .i (90 + (i : Int))) (n := 7) (ev_tup (ds := [.i (90 + (i : Int))]) (ea_cons (ev_add (ev_c (v := .int 90)) (ev_var (i := 9) rfl)) ea_nil) (by simp)) (ev_c (v := .int 7)) (by decide) (by decide)
      have e7 : D.tup (List.replicate 7 (.i (90 + (i : Int)))) = wordD (List.replicate 7 (90 + (i : Int))) := by
        unfold wordD
        rw [List.map_replicate]
      rw [e7] at z7
      exact z7
    · have hi2 : (i : Int) ≤ 2 := by omega
      simp only [List.mem_cons, List.not_mem_nil, or_false] at hd
      rcases hd with rfl | rfl | rfl | rfl | rfl
      · exact ⟨_, ⟨by simp, fun x hx => by simp only [List.mem_cons, List.not_mem_nil, or_false] at hx; omega⟩, rfl⟩
      · exact ⟨_, ⟨by simp, fun x hx => by simp only [List.mem_cons, List.not_mem_nil, or_false] at hx; omega⟩, rfl⟩
      · exact ⟨_, ⟨by simp, fun x hx => by simp only [List.mem_cons, List.not_mem_nil, or_false] at hx; omega⟩, rfl⟩
      · exact ⟨_, ⟨by simp, fun x hx => by simp only [List.mem_cons, List.mem_replicate] at hx; omega⟩, rfl⟩
      · exact ⟨_, ⟨by simp, fun x hx => by simp only [List.mem_cons, List.not_mem_nil, or_false] at hx; omega⟩, rfl⟩
    rintro nm' ⟨wd, wok, rfl⟩
    -- weights
    refine esT_seq (m := n' + 1) (N1 := fun nm' => nm' = [some (.val (.sc (.ref b))), some (.val (.i (W : Int))), some (.val (frs ahead)), some (.val (.i ((r + 1 : Nat) : Int))), some (.val (.sc (.ref l))), some (.val (.i (k : Int))), some (.val (.sc (.ref p))), none, some (.own pf (qn.map (encCh (fun a : An r => wordD a.1) (fun a : An r => encT r a.2.2) (fun a : An r => a.2.1)))), some (.val (.i (i : Int))), some (.val (wordD wd)), some (.val (frs (wts W ahead (rs.map (·.2)) i)))])
      (Es.T (es_asg (ev_tupL1 (ds := (wts W ahead (rs.map (·.2)) i).map fr) (el_lc (ei_range (n := W) (ea_cons (ev_var rfl) ea_nil) (by omega)) trivial (by rw [List.length_map, List.length_range]; omega) (fun w acc => acc = ((List.range w).map fun w => ahead.getD w 0 * ((rs.map (·.2)).getD w []).getD i 0).map fr) rfl (fun w d acc hd hacc => ?_) fun acc hacc => by rw [hacc, List.length_map, List.length_range]; rfl)) rfl)) ?_ (by omega)
    · have hw : w < W := by
        have z := (List.getElem?_eq_some_iff.mp hd).1
        rw [List.length_map, List.length_range] at z
        exact z
      rw [range_at hw] at hd
      obtain rfl := Option.some.inj hd
      have hrw : w < rs.length := by omega
      have hre : rs[w]? = some rs[w] := List.getElem?_eq_getElem hrw
      generalize rs[w] = row at hre
      have hrm := List.mem_of_getElem? hre
      obtain ⟨r0, us, r1, r2, sh⟩ := hrs row hrm
      have egd : (rs.map (·.2)).getD w [] = row.2 := by
        rw [List.getD_eq_getElem?_getD, List.getElem?_map, hre] <;> rfl
      have hil : i < row.2.length := by rw [sh.len]; exact hi
      have e1 : (ahead.map fr)[w]? = some (fr (ahead.getD w 0)) := by
        have hl : w < ahead.length := by rw [ha.len]; exact hw
        rw [List.getElem?_map, List.getD_eq_getElem?_getD, List.getElem?_eq_getElem hl] <;> rfl
      have e2 : (row.2.map fr)[i]? = some (fr (row.2.getD i 0)) := by
        rw [List.getElem?_map, List.getD_eq_getElem?_getD, List.getElem?_eq_getElem hil] <;> rfl
      have hrr : SqL F.K F.H0 p (rs.map fun x => V.ref x.1) := by rw [fH]; exact .inl (.inl e3)
      have hr1 : SqL F.K F.H0 row.1 us := by rw [fH]; exact .inl (.inl r1)
      have hr2 : RepL F.K F.H0 (row.2.map fr) us := by rw [fH]; exact r2
      have hpB' : p ∉ F.B := by rw [fB]; exact hpB
      have hrB' : row.1 ∉ F.B := by rw [fB]; exact hrB row hrm
      have sz1 : Sz 4000 (ahead.getD w 0) := (ha.sz _ (getD_mem (by rw [ha.len]; exact hw))).mono (by omega)
      have sz2 : Sz 4000 (row.2.getD i 0) := (sh.sz _ (getD_mem hil)).mono (by decide)
      refine ⟨_, _, eg_name, by simp, Ev.imp (Ra := Is (fr (ahead.getD w 0 * row.2.getD i 0))) (ev_P (C := F.c (n' + 1)) (enc := Q3.e2) (pre := Sz2) (out := fun x => fr (x.1 * x.2)) (ahead.getD w 0, row.2.getD i 0) (ea_cons (ev_ix w (ev_var rfl) (ev_var rfl) e1) (ea_cons (ev_op (ev_op (ev_var rfl) (ev_var rfl) (rv_ixL (C := F.c (n' + 1)) hrr hpB' (repl_sc _) (by rw [List.getElem?_map, List.getElem?_map, hre] <;> rfl))) (ev_var rfl) (rv_ixL (C := F.c (n' + 1)) hr1 hrB' hr2 e2)) ea_nil)) ⟨sz1, sz2⟩) fun x hx => ?_⟩
      have hx : x = _ := hx
      rw [hacc, hx, List.range_succ, List.map_append, List.map_append, ← egd]
      rfl
    rintro nm' rfl
    have hw' := wts_ok ha hrows m3 hi
    -- one answer more
    refine esT_app (m := n' + 1 + nc r) (a := pf) (ds := qn.map (encCh (fun a : An r => wordD a.1) (fun a : An r => encT r a.2.2) (fun a : An r => a.2.1))) (R := fun d => ∃ t : T r, d = .tup [wordD (11 * (i : Int) :: wd), frs (wts W ahead (rs.map (·.2)) i), encT r t] ∧ GoodT W r (wts W ahead (rs.map (·.2)) i) t) rfl (EvT.imp (evT_tup (eaT_cons (Ev.T (ev_cat (ds := [.i (11 * (i : Int))]) (es := wd.map D.i) (ev_tup (ds := [.i (11 * (i : Int))]) (ea_cons (ev_mul (ev_c (v := .int 11)) (ev_var rfl) (cmulS (big4000 (by omega) (by omega)) (big4000 (by omega) (by omega)))) ea_nil) (by simp)) (ev_var rfl) (by have := wok.few; rw [List.length_cons] at this; rw [List.length_map]; simp; omega)))
      (eaT_cons (Ev.T (ev_var (d := frs (wts W ahead (rs.map (·.2)) i)) rfl)) (eaT_cons (Ra := fun d => ∃ t : T r, d = encT r t ∧ GoodT W r (wts W ahead (rs.map (·.2)) i) t) (evT_call (Ea.T (Rs := fun es => es = [.sc (.ref b), .i (W : Int), frs (wts W ahead (rs.map (·.2)) i), .i (((r + 1 : Nat) : Int) - 1), .sc (.ref l)]) (ea_cons (ev_var rfl) (ea_cons (ev_var rfl) (ea_cons (ev_var rfl) (ea_cons (ev_sub (ev_var rfl) (ev_c (v := .int 1))) (ea_cons (ev_var rfl) ea_nil)))))) fun ds hds => ?_) eaT_nil))) fun ds hds => ?_) fun d hd => ?_) ?_ ?_ fun d hd => ?_
    · subst hds
      intro H5 vs5 Q5 le5 i5 p5 q5
      rw [fI] at i5
      refine ⟨r, hrR, b, g, l, n' + 1, W, s + 4, wts W ahead (rs.map (·.2)) i, by rw [List.append_nil]; rw [show (((r + 1 : Nat) : Int) - 1) = (r : Int) by omega] at p5; exact p5, i5, by omega, hw', by omega, w1, w4, fun v t H' le left' good rv => ?_⟩
      exact q5 v _ H' ⟨t, rfl, good⟩ (by rw [fB]; exact le) (by rw [fI]; exact left') rv
    · obtain ⟨d1, e1, rfl, _, d2, e2, rfl, _, d3, e3, rfl, _, rfl⟩ := hds
      show 3 ≤ 1000
      decide
    · obtain ⟨ds, rfl, d1, e1, rfl, h1, d2, e2, rfl, h2, d3, e3, rfl, ⟨t, rfl, good⟩, rfl⟩ := hd
      have h1 : d1 = _ := h1
      have h2 : d2 = _ := h2
      subst h1 h2
      exact ⟨t, rfl, good⟩
    · rw [List.length_map]
      omega
    · intro j' b' zs hj' h
      rcases j' with _ | _ | _ | _ | _ | _ | _ | _ | _ | _ | _ | _ | j'
      · cases h
      · cases h
      · cases h
      · cases h
      · cases h
      · cases h
      · cases h
      · cases h
      · exact absurd rfl hj'
      · cases h
      · cases h
      · cases h
      · cases h
    · obtain ⟨t, rfl, good⟩ := hd
      refine ⟨qn ++ [(11 * (i : Int) :: wd, wts W ahead (rs.map (·.2)) i, t)], some (.i (i : Int)), some (wordD wd), some (frs (wts W ahead (rs.map (·.2)) i)), ⟨by rw [List.length_append, ql] <;> rfl, fun k' a hk' => ?_, fun a ha' => ?_⟩, by rw [List.map_append] <;> rfl⟩
      · by_cases hki : k' < i
        · rw [List.getElem?_append_left (by omega)] at hk'
          exact qa k' a hk'
        · rw [List.getElem?_append_right (by omega), ql] at hk'
          have : k' - i = 0 := by
            have z := (List.getElem?_eq_some_iff.mp hk').1
            simp at z
            omega
          have e : k' = i := by omega
          subst e
          rw [Nat.sub_self] at hk'
          obtain rfl := Option.some.inj hk'
          exact ⟨⟨wd, rfl, wok⟩, rfl⟩
      · rcases List.mem_append.mp ha' with ha' | ha'
        · exact qg a ha'
        · rw [List.mem_singleton.mp ha']
          exact good
  rintro nm' ⟨qn, x, y, z, ⟨ql, qa, qg⟩, rfl⟩
  refine EsT.up (m := n + 25 + (1 + nc r) * 3) (esT_ret (EvT.imp (Ev.T (ev_tupO (k := 8) (ds := qn.map (encCh (fun a : An r => wordD a.1) (fun a : An r => encT r a.2.2) (fun a : An r => a.2.1))) rfl)) fun d hd => ?_)) (by unfold qc; omega)
  have hd : d = _ := hd
  exact ⟨qn, hd, q_ok ha hrows (by omega) m1 m3 w1 w4 ql qa, qg⟩
/-! a test of unknown answer -/
def EtX (F : Fam) (n : Nat) (nm : Nm) (tt : TT) : Prop := ∀ σ H (Q : Bool → Hp → Prop), SR (F.c n) nm σ H → (∀ b H', Le F.B H H' → F.I n H' → Q b H') → tt σ H Q
theorem esT_ifX {F : Fam} {n m : Nat} {nm : Nm} {c : TT} {t u : TS} {N : Nm → Prop} {Rt : D → Prop} (h : EtX F n nm c) (h1 : EsT F n m nm t N Rt) (h2 : EsT F n m nm u N Rt) : EsT F n m nm (tIfS c t u) N Rt := fun σ H Dd S q r => h σ H _ S fun b H1 l i => by
  cases b with
  | true =>
    show t Dd σ H1
    exact h1 σ H1 Dd (S.re l i) (fun nm' σ' H' hn S' f => q nm' σ' H' hn S' (l.fx.trans f)) r
  | false =>
    show u Dd σ H1
    exact h2 σ H1 Dd (S.re l i) (fun nm' σ' H' hn S' f => q nm' σ' H' hn S' (l.fx.trans f)) r
theorem etX_or {F : Fam} {n : Nat} {nm : Nm} {t u : TT} (h1 : Et (F.c n) nm t false) (h2 : EtX F n nm u) : EtX F n nm (tOr t u) := fun σ H Q S q => h1 σ H _ S fun H1 l i => by
  show u σ H1 Q
  exact h2 σ H1 Q (S.re l i) fun b H2 l2 i2 => q b H2 (l.trans l2) i2
theorem etX_left {K : PySem.W.Frag} {b g l : Addr} {H0 : Hp} {h : ∃ n, LeftN b g l n H0} {n : Nat} {nm : Nm} (n4 : nm[4]? = some (some (.val (.sc (.ref l))))) :
    EtX (leftF K b g l H0 h) n nm (tTest (tOp (rI0 fun i j => .bl (decide (i ≤ j))) (tOp (rIxL K) (tVar 4) (tC (.int 0))) (tC (.int 0)))) := fun σ H Q S q => by
  obtain ⟨v4, h4, e4⟩ := S.val n4
  have e4 : v4 = .ref l := e4
  subst e4
  obtain ⟨bag, lb, lg, x, hx⟩ : LeftN b g l n H := S.inv
  exact ⟨_, h4, l, [.int x], 0, .int x, rfl, rfl, .inl (.inl hx), rfl, x, 0, rfl, rfl, _, rfl, q _ H (Le.refl _ _) S.inv⟩
/-- questions of a node, one by one -/
def QsOk {r : Nat} (W : Nat) (ahead : List Rat) (qL : List (List (An r))) : Prop := ∀ q ∈ qL, QOk (fun a : An r => a.2.1) (fun a : An r => a.1) W ahead q ∧ ∀ a ∈ q, GoodT W r a.2.1 a.2.2
theorem elT_qs {r n kmax W s R : Nat} {b g l : Addr} {H0 : Hp} {h : ∃ n, LeftN b g l n H0} {nm : Nm} {ahead : List Rat} {ta tq : TA} {E : XK} {v : Nat} {m : Nat} (hrR : r ≤ R) (ha : EaT (leftF K b g l H0 h) n m nm ta (fun es => ∃ k : Nat, es = [.i (k : Int)] ∧ k ≤ kmax ∧ True)) (hk : kmax < 1000)
    (hN : m + qc r * kmax ≤ 1000000) (hah : AhOk W s ahead) (hs : s + 4 * (r + 1) ≤ 13) (w1 : 1 ≤ W) (w4 : W ≤ 4)
    (hq : ∀ (n' : Nat) (nm' : Nm) (i : Nat), nm' = (wipeN nm [v]).set v (some (.val (.i (i : Int)))) → Ea ((leftF K b g l H0 h).c n') nm' tq (fun es => es = [.sc (.ref b), .i (W : Int), frs ahead, .i ((r + 1 : Nat) : Int), .sc (.ref l)])) :
    ElT (leftF K b g l H0 h) n (m + qc r * kmax) nm (tLc (iRng1 ta) (gName v) tYes (tCall (spQD K R) [] E tq) [v]) (fun es => ∃ qL : List (List (An r)), qL.length ≤ kmax ∧ QsOk W ahead qL ∧ es = qL.map qDr) := by
  refine elT_lcR (m := m) (c := qc r) (kmax := kmax) (K0 := fun _ => True) ha hk (by simp) (fun k i acc => ∃ qL : List (List (An r)), qL.length = i ∧ QsOk W ahead qL ∧ acc = qL.map qDr) (fun _ => ⟨[], rfl, fun q hq => (nomatch hq), rfl⟩) (fun k i acc hi hk' _ hP => ?_) fun k acc _ hk' hP hl => ?_
  · obtain ⟨qL, l0, l1, rfl⟩ := hP
    have hc : m + qc r * i + qc r ≤ m + qc r * kmax := by
      rw [Nat.add_assoc, ← Nat.mul_succ]
      exact Nat.add_le_add_left (Nat.mul_le_mul_left _ (by omega)) m
    rw [show m + qc r * (i + 1) = m + qc r * i + qc r by rw [Nat.mul_succ]; omega]
    refine EvT.imp (Ra := fun d => ∃ q : List (An r), d = qDr q ∧ QOk (fun a : An r => a.2.1) (fun a : An r => a.1) W ahead q ∧ ∀ a ∈ q, GoodT W r a.2.1 a.2.2) (evT_call (Ea.T (hq _ _ i rfl)) fun ds hds => ?_) fun d hd => ?_
    · subst hds
      intro H5 vs5 Q5 le5 i5 p5 q5
      exact ⟨r, hrR, b, g, l, _, W, s, ahead, by rw [List.append_nil]; exact p5, i5, by omega, hah, hs, w1, w4, fun v q H' le left' ok good rv => q5 v _ H' ⟨q, rfl, ok, good⟩ le left' rv⟩
    · obtain ⟨q, rfl, ok, good⟩ := hd
      refine ⟨qL ++ [q], by rw [List.length_append, l0] <;> rfl, fun q' hq' => ?_, by rw [List.map_append] <;> rfl⟩
      rcases List.mem_append.mp hq' with hq' | hq'
      · exact l1 q' hq'
      · rw [List.mem_singleton.mp hq']
        exact ⟨ok, good⟩
  · obtain ⟨qL, l0, l1, rfl⟩ := hP
    exact ⟨qL, by omega, l1, rfl⟩
theorem cal_n {R j : Nat} (h1 : 1 ≤ j) (T0 : Txt K mg aN aO aH) (d : Df K mg "_law_node" s__law_node ["_law_bag_here", "_law_worlds", "_law_ahead", "_law_rounds", "_law_left"]) (c__law_pick : C8.Cal P w K mg base 1 "_law_pick" (spPick K) [])
    (c__law_question : C8.Cal P w K mg base j "_law_question" (spQD K R) []) : C8.Cal P w K mg base (j + 1) "_law_node" (spNodeD K (R + 1)) [] := by
  refine d.cal sc__law_node (fun vs H Q E h => by obtain ⟨_, _, _, _, _, _, _, _, _, r, _⟩ := h; rw [r.len]; rfl) fun f cdv A outer s0 H vs Q E hr h => ?_
  have T := T0
  refine ⟨_, (pss_cons (ps_if (PW.pt (pw_or (pt_cmpR op_eq (pv 3) pe_int (nomark _)) (pw_or1 (pt_cmpR op_le (pe_ix (kIxL (K := K) rfl) (pv 4) pe_int (fun _ _ => rfl)) pe_int (nomark _))))) (pss_one (ps_ret (pe_tup pa_nil))) pss_nil)
      (pss_one (ps_ret (pe_callTy (kTuple (K := K) rfl rfl) (by rfl) T.tupleZ (by decide +kernel) (pa_cons (pe_lc rfl sc__law_node.nd (own := [("_law_k", 5)]) (g := (gName 5)) (tt := tYes) (pi_range1 (by rfl) T.rangeZ (pa_cons (C8.pe_c c__law_pick hr h1 rfl (pa_cons (pv 0) (pa_cons pe_int pa_nil))) pa_nil)) (blkOk_by (by kernel_rfl)) (fun _ _ _ _ _ => (pg_name (i := 5) sc__law_node.nd rfl (Or.inl rfl))) (fun _ _ _ _ _ => pts_nil) (fun _ _ _ _ _ => (C8.pe_c c__law_question hr (Nat.le_refl _) rfl (pa_cons (pv 0) (pa_cons (pv 1) (pa_cons (pv 2) (pa_cons (pv 3) (pa_cons (pv 4) pa_nil)))))))) pa_nil))))), ?_⟩
  clear T
  obtain ⟨r, hrR, b, g, l, n, W, s, ahead, rp, left, hn, ha, hs, w1, w4, q⟩ := h
  have hb : HasBag (leftF K b g l H ⟨n, left⟩) b g := leftF_has
  have S := sr0T (F := leftF K b g l H ⟨n, left⟩) (n := n) (N := ["_law_bag_here", "_law_worlds", "_law_ahead", "_law_rounds", "_law_left", "_law_k"]) (ds := [.sc (.ref b), .i (W : Int), frs ahead, .i (r : Int), .sc (.ref l)]) (vs := vs) rp left
  refine (?_ : EsT (leftF K b g l H ⟨n, left⟩) n (n + nc r) _ _ (fun _ => False) (fun d => ∃ t : T r, d = encT r t ∧ GoodT W r ahead t)) _ H _ S (fun _ _ _ hn _ _ => hn.elim) fun v d H' rd le i' rv => by
    obtain ⟨t, rfl, good⟩ := rd
    exact q v t H' le i' good rv
  cases r with
  | zero =>
    exact esT_seq (m := n) (N1 := fun _ => False) (Es.T (es_if (b := true) (et_or (a := true) (b := true) (et_test (ev_eqI (i := 0) (j := 0) (ev_var rfl) ev_c rfl)) (fun z => nomatch z) rfl) (fun _ => es_ret (Ev.imp (ev_tup (ds := []) ea_nil (by simp)) fun d hd => ⟨(), hd, trivial⟩)) fun z => nomatch z)) (fun _ h => h.elim) (Nat.le_refl _)
  | succ r =>
    have hn2 : n + 1 + qc r * 2 ≤ 1000000 := by rw [nc_succ] at hn; omega
    refine esT_seq (m := n) (N1 := fun nm' => nm' = nm0 6 [.sc (.ref b), .i (W : Int), frs ahead, .i ((r + 1 : Nat) : Int), .sc (.ref l)]) (esT_ifX (etX_or (et_test (ev_eqI (i := ((r + 1 : Nat) : Int)) (j := 0) (ev_var rfl) ev_c (decide_eq_false (by omega)))) (etX_left rfl)) (esT_ret (Ev.T (Ev.imp (ev_tup (ds := []) ea_nil (by simp)) fun d hd => ⟨[], hd, ⟨Nat.zero_le _, fun q hq => absurd (show q ∈ ([] : List (List (An r))) from hq) (by simp)⟩⟩))) (esT_next rfl)) ?_ (by omega)
    rintro nm' rfl
    rw [nc_succ, show n + (1 + 2 * qc r) = n + 1 + qc r * 2 by omega]
    refine esT_ret (EvT.imp (evT_tupL (elT_qs (r := r) (m := n + 1) (kmax := 2) (v := 5) (by omega) (EaT.imp (eaT_cons (evT_pick hb rfl (ev_c (v := .int 3)) (by decide) (by decide) (by omega)) eaT_nil) fun es he => ?_) (by decide) hn2 ha hs w1 w4 fun n' nm' i hnm => ?_)) fun d hd => ?_)
    · obtain ⟨d, es', rfl, ⟨i, rfl, i0, i1⟩, rfl⟩ := he
      exact ⟨i.toNat, by rw [Int.toNat_of_nonneg i0], by omega, trivial⟩
    · subst hnm
      exact ea_cons (ev_var rfl) (ea_cons (ev_var rfl) (ea_cons (ev_var rfl) (ea_cons (ev_var rfl) (ea_cons (ev_var rfl) ea_nil))))
    · obtain ⟨es, rfl, qL, l2, ok, rfl⟩ := hd
      exact ⟨qL, rfl, l2, ok⟩
theorem cal_n0 {j : Nat} (h1 : 1 ≤ j) (T0 : Txt K mg aN aO aH) (d : Df K mg "_law_node" s__law_node ["_law_bag_here", "_law_worlds", "_law_ahead", "_law_rounds", "_law_left"]) (dq : Df K mg "_law_question" s__law_question ["_law_bag_here", "_law_worlds", "_law_ahead", "_law_rounds", "_law_left"]) (c__law_pick : C8.Cal P w K mg base 1 "_law_pick" (spPick K) []) :
    C8.Cal P w K mg base (j + 1) "_law_node" (spNodeD K 0) [] := by
  have c__law_question := dq.cno (P := P) (w := w) (base := base) j
  refine d.cal sc__law_node (fun vs H Q E h => by obtain ⟨_, _, _, _, _, _, _, _, _, r, _⟩ := h; rw [r.len]; rfl) fun f cdv A outer s0 H vs Q E hr h => ?_
  have T := T0
  refine ⟨_, (pss_cons (ps_if (PW.pt (pw_or (pt_cmpR op_eq (pv 3) pe_int (nomark _)) (pw_or1 (pt_cmpR op_le (pe_ix (kIxL (K := K) rfl) (pv 4) pe_int (fun _ _ => rfl)) pe_int (nomark _))))) (pss_one (ps_ret (pe_tup pa_nil))) pss_nil)
      (pss_one (ps_ret (pe_callTy (kTuple (K := K) rfl rfl) (by rfl) T.tupleZ (by decide +kernel) (pa_cons (pe_lc rfl sc__law_node.nd (own := [("_law_k", 5)]) (g := (gName 5)) (tt := tYes) (pi_range1 (by rfl) T.rangeZ (pa_cons (C8.pe_c c__law_pick hr h1 rfl (pa_cons (pv 0) (pa_cons pe_int pa_nil))) pa_nil)) (blkOk_by (by kernel_rfl)) (fun _ _ _ _ _ => (pg_name (i := 5) sc__law_node.nd rfl (Or.inl rfl))) (fun _ _ _ _ _ => pts_nil) (fun _ _ _ _ _ => (C8.pe_c c__law_question hr (Nat.le_refl _) rfl (pa_cons (pv 0) (pa_cons (pv 1) (pa_cons (pv 2) (pa_cons (pv 3) (pa_cons (pv 4) pa_nil)))))))) pa_nil))))), ?_⟩
  clear T
  obtain ⟨r, hrR, b, g, l, n, W, s, ahead, rp, left, hn, ha, hs, w1, w4, q⟩ := h
  obtain rfl : r = 0 := by omega
  have S := sr0T (F := leftF K b g l H ⟨n, left⟩) (n := n) (N := ["_law_bag_here", "_law_worlds", "_law_ahead", "_law_rounds", "_law_left", "_law_k"]) (ds := [.sc (.ref b), .i (W : Int), frs ahead, .i ((0 : Nat) : Int), .sc (.ref l)]) (vs := vs) rp left
  refine (?_ : EsT (leftF K b g l H ⟨n, left⟩) n (n + nc 0) _ _ (fun _ => False) (fun d => ∃ t : T 0, d = encT 0 t ∧ GoodT W 0 ahead t)) _ H _ S (fun _ _ _ hn _ _ => hn.elim) fun v d H' rd le i' rv => by
    obtain ⟨t, rfl, good⟩ := rd
    exact q v t H' le i' good rv
  exact esT_seq (m := n) (N1 := fun _ => False) (Es.T (es_if (b := true) (et_or (a := true) (b := true) (et_test (ev_eqI (i := 0) (j := 0) (ev_var rfl) ev_c rfl)) (fun z => nomatch z) rfl) (fun _ => es_ret (Ev.imp (ev_tup (ds := []) ea_nil (by simp)) fun d hd => ⟨(), hd, trivial⟩)) fun z => nomatch z)) (fun _ h => h.elim) (Nat.le_refl _)
end
end Q3
namespace Q3
open PySem PySem.Spec PyProof.Rows L2
/-! deeper types for the same tree -/
def pad : (r : Nat) → T r → T (r + 1)
  | 0, _ => ([] : List (List (An 0)))
  | r + 1, t => ((qs t).map fun q => q.map fun a => (a.1, a.2.1, pad r a.2.2) : List (List (An (r + 1))))
theorem enc_pad : ∀ (r : Nat) (t : T r), encT (r + 1) (pad r t) = encT r t
  | 0, _ => rfl
  | r + 1, t => by
    show D.tup ((((qs t).map fun q => q.map fun a : An r => ((a.1, a.2.1, pad r a.2.2) : An (r + 1)))).map fun q => D.tup (q.map (encCh (fun a : An (r + 1) => wordD a.1) (fun a : An (r + 1) => encT (r + 1) a.2.2) (fun a : An (r + 1) => a.2.1)))) = D.tup ((qs t).map fun q => D.tup (q.map (encCh (fun a : An r => wordD a.1) (fun a : An r => encT r a.2.2) (fun a : An r => a.2.1))))
    rw [List.map_map]
    congr 1
    refine List.map_congr_left fun q _ => ?_
    show D.tup (List.map _ (List.map _ q)) = _
    rw [List.map_map]
    congr 1
    refine List.map_congr_left fun a _ => ?_
    show D.tup [wordD a.1, frs a.2.1, encT (r + 1) (pad r a.2.2)] = D.tup [wordD a.1, frs a.2.1, encT r a.2.2]
    rw [enc_pad r a.2.2]
theorem qok_map {A B : Type} {f : A → B} {wt : A → List Rat} {wI : A → List Int} {wt' : B → List Rat} {wI' : B → List Int} (h1 : ∀ a, wt' (f a) = wt a) (h2 : ∀ a, wI' (f a) = wI a) {W : Nat} {ahead : List Rat} {q : List A} (h : QOk wt wI W ahead q) : QOk wt' wI' W ahead (q.map f) := by
  have e : (q.map f).map wI' = q.map wI := by
    rw [List.map_map]
    exact List.map_congr_left fun a _ => h2 a
  refine ⟨by rw [List.length_map]; exact h.lo, by rw [List.length_map]; exact h.hi, by rw [e]; exact h.rise, fun i hi => ?_, h.al, fun b hb => ?_, fun b hb => ?_, fun b hb x hx => ?_, h.w1, h.w4⟩
  · rw [← h.cols i hi, List.map_map]
    congr 1
    exact List.map_congr_left fun a _ => by show (wt' (f a)).getD i 0 = _; rw [h1]
  · obtain ⟨a, ha, rfl⟩ := List.mem_map.mp hb
    rw [h2]
    exact h.words a ha
  · obtain ⟨a, ha, rfl⟩ := List.mem_map.mp hb
    rw [h1]
    exact h.len a ha
  · obtain ⟨a, ha, rfl⟩ := List.mem_map.mp hb
    rw [h1] at hx
    exact h.nn a ha x hx
theorem good_pad {W : Nat} : ∀ (r : Nat) (ahead : List Rat) (t : T r), GoodT W r ahead t → GoodT W (r + 1) ahead (pad r t)
  | 0, _, _, _ => ⟨Nat.zero_le _, fun q hq => absurd (show q ∈ ([] : List (List (An 0))) from hq) (by simp)⟩
  | r + 1, ahead, t, h => by
    refine ⟨by show (((qs t).map fun q => q.map fun a : An r => ((a.1, a.2.1, pad r a.2.2) : An (r + 1)))).length ≤ 2; rw [List.length_map]; exact h.1, fun q hq => ?_⟩
    obtain ⟨q0, hq0, rfl⟩ := List.mem_map.mp (show q ∈ (qs t).map fun q => q.map fun a : An r => ((a.1, a.2.1, pad r a.2.2) : An (r + 1)) from hq)
    obtain ⟨ok, good⟩ := h.2 q0 hq0
    refine ⟨qok_map (fun _ => rfl) (fun _ => rfl) ok, fun a ha => ?_⟩
    obtain ⟨a0, ha0, rfl⟩ := List.mem_map.mp ha
    exact good_pad r a0.2.1 a0.2.2 (good a0 ha0)
theorem to3 {W r : Nat} {ahead : List Rat} (hr : r ≤ 3) (t : T r) (h : GoodT W r ahead t) : ∃ t3 : T 3, GoodT W 3 ahead t3 ∧ encT 3 t3 = encT r t := by
  match r, hr, t, h with
  | 3, _, t, h => exact ⟨t, h, rfl⟩
  | 2, _, t, h => exact ⟨pad 2 t, good_pad 2 _ t h, enc_pad 2 t⟩
  | 1, _, t, h => exact ⟨pad 2 (pad 1 t), good_pad 2 _ _ (good_pad 1 _ t h), (enc_pad 2 _).trans (enc_pad 1 t)⟩
  | 0, _, t, h => exact ⟨pad 2 (pad 1 (pad 0 t)), good_pad 2 _ _ (good_pad 1 _ _ (good_pad 0 _ t h)), (enc_pad 2 _).trans ((enc_pad 1 _).trans (enc_pad 0 t))⟩
theorem qc_le : ∀ {r : Nat}, r ≤ 2 → 1 + qc r * 2 ≤ 2500
  | 0, _ => by decide
  | 1, _ => by decide
  | 2, _ => by decide
theorem le_fresh {b g l : Addr} {H H1 H2 : Hp} (a : Le [b, g] H H1) (c : Le [b, g, l] H1 H2) (hl : H l = none) : Le [b, g] H H2 := fun x o e => by
  obtain ⟨o1, e1, z1⟩ := a x o e
  obtain ⟨o2, e2, z2⟩ := c x o1 e1
  refine ⟨o2, e2, fun h => ?_⟩
  have q := z1 h
  subst q
  refine z2 (h.imp id fun n => ?_)
  intro m
  simp only [List.mem_cons, List.not_mem_nil, or_false] at m n
  rcases m with m | m | m
  · exact n (.inl m)
  · exact n (.inr m)
  · rw [m, hl] at e
    cases e
section
variable {P : Program} {w : World} {K : PySem.W.Frag} {mg : Str → Option Value} {base : Heap} {aN aO aH : Addr}
theorem ones_ah {W : Nat} : AhOk W 1 (ones W) := ⟨ones_len W, fun x hx => by rw [List.eq_of_mem_replicate hx]; exact ⟨by decide, by decide⟩, fun x hx => by rw [List.eq_of_mem_replicate hx]; exact Sz.one⟩
def spTreeD (K : PySem.W.Frag) : Sp := fun vs H Q _ => ∃ (r : Nat) (b g : Addr) (n W : Nat), r ≤ 2 ∧ vs = [.ref b, .int (W : Int), .int ((r + 1 : Nat) : Int), .int 16] ∧ BagN b g n H ∧ n + 2500 ≤ 1000000 ∧ 1 ≤ W ∧ W ≤ 4 ∧
  ∀ v (t : T 3) H', Le [b, g] H H' → BagN b g (n + 2500) H' → GoodT W 3 (ones W) t → Rep K H' (encT 3 t) v → Q v H'
theorem cal_treeD {j : Nat} (h1 : 1 ≤ j) (T0 : Txt K mg aN aO aH) (d : Df K mg "_law_tree" s__law_tree ["_law_bag_here", "_law_worlds", "_law_rounds", "_law_answers"]) (c__law_pick : C8.Cal P w K mg base 1 "_law_pick" (spPick K) [])
    (c__law_question : C8.Cal P w K mg base j "_law_question" (spQD K 2) []) : C8.Cal P w K mg base (j + 1) "_law_tree" (spTreeD K) [] := by
  refine d.cal sc__law_tree (fun vs H Q E h => by obtain ⟨_, _, _, _, _, _, rfl, _⟩ := h; rfl) fun f cdv A outer s0 H vs Q E hr h => ?_
  have T := T0
  refine ⟨_, (pss_cons (ps_asg (pe_tup (pa_cons (pe_op (kRep (K := K) rfl) (pe_tup (pa_cons (pe_tup (pa_cons pe_int (pa_cons pe_int pa_nil))) pa_nil)) (pv 1)) (pa_cons (pe_lst (pa_cons (pv 3) pa_nil)) pa_nil))) (kTg (K := K) rfl rfl (pgs_cons (pg_name (i := 4) sc__law_tree.nd rfl (Or.inr rfl)) (pgs_cons (pg_name (i := 5) sc__law_tree.nd rfl (Or.inr rfl)) pgs_nil))))
      (pss_cons (ps_setLc (i := 6) rfl sc__law_tree.nd rfl rfl (sw_true rfl rfl rfl (by decide +kernel)) (own := [("_law_k", 7)]) (g := (gName 7)) (tt := tYes) (pi_range1 (by rfl) T.rangeZ (pa_cons (pe_op op_add pe_int (C8.pe_c c__law_pick hr h1 rfl (pa_cons (pv 0) (pa_cons pe_int pa_nil)))) pa_nil)) (blkOk_by (by kernel_rfl)) (fun _ _ _ _ _ => (pg_name (i := 7) sc__law_tree.nd rfl (Or.inl rfl))) (fun _ _ _ _ _ => pts_nil) (fun _ _ _ _ _ => (C8.pe_c c__law_question hr (Nat.le_refl _) rfl (pa_cons (pv 0) (pa_cons (pv 1) (pa_cons (pv 4) (pa_cons (pv 2) (pa_cons (pv 5) pa_nil))))))))
      (pss_one (ps_ret (pe_callTy (kTuple (K := K) rfl rfl) (by rfl) T.tupleZ (by decide +kernel) (pa_cons (pv 6) pa_nil)))))), ?_⟩
  clear T
  obtain ⟨r, b, g, n, W, r2, rfl, bag, hn, w1, w4, q⟩ := h
  have hqc := qc_le r2
  have S := sr0T (F := bagF K b g H ⟨n, bag⟩) (n := n) (N := ["_law_bag_here", "_law_worlds", "_law_rounds", "_law_answers", "_law_ahead", "_law_left", "_law_some_here", "_law_k"]) (ds := [.sc (.ref b), .i (W : Int), .i ((r + 1 : Nat) : Int), .i 16]) (vs := [.ref b, .int (W : Int), .int ((r + 1 : Nat) : Int), .int 16]) (.cons rfl (.cons rfl (.cons rfl (.cons rfl .nil)))) bag
  have e1 := ev_rep (C := (bagF K b g H ⟨n, bag⟩).c n) (nm := nm0 8 [.sc (.ref b), .i (W : Int), .i ((r + 1 : Nat) : Int), .i 16]) (d := fr 1) (n := W) (ev_tup (ds := [fr 1]) (ea_cons (ev_tup (ds := [.i 1, .i 1]) (ea_cons (ev_c (v := .int 1)) (ea_cons (ev_c (v := .int 1)) ea_nil)) (by simp)) ea_nil) (by simp)) (ev_var (i := 1) rfl) w1 (by omega)
  refine e1 _ H _ S fun v1 d1 H1 hd l1 i1 p1 => ?_
  have hd : d1 = _ := hd
  subst hd
  have S1 := S.re (F := bagF K b g H ⟨n, bag⟩) l1 i1
  refine el_lst (C := (bagF K b g H ⟨n, bag⟩).c n) (ea_cons (ev_var (i := 3) (d := .i 16) rfl) ea_nil) (by simp) _ H1 _ S1 fun l us ds H2 hds hl l2 i2 e2 r2' => ?_
  subst hds
  obtain ⟨u, r0, rfl, eu, er⟩ := r2'
  have er : r0 = [] := er
  have eu : u = .int 16 := eu
  subst er eu
  have l02 : Le [b, g] H H2 := l1.trans l2
  have hl0 : H l = none := (show Le [b, g] H H1 from l1).alive hl
  refine ⟨by show 2 ≤ sizeLine; decide, fun p hp => ?_⟩
  have x : Ex H2 (upd H2 p (.tup [v1, .ref l])) := Ex.new hp
  generalize hH3 : upd H2 p (.tup [v1, .ref l]) = H3 at x
  have l03 : Le [b, g] H H3 := l02.trans x.le
  have bag3 : BagN b g n H3 := BagN.keep i2 (fun o e => x.keep e) fun o e => x.keep e
  have lb : l ≠ b := fun z => by
    obtain ⟨_, _, _, _, b1, _⟩ := bag
    rw [← z, hl0] at b1
    cases b1
  have lg : l ≠ g := fun z => by
    obtain ⟨_, _, _, _, _, b1, _⟩ := bag
    rw [← z, hl0] at b1
    cases b1
  have left : LeftN b g l n H3 := ⟨bag3, lb, lg, 16, x.keep e2⟩
  have S3 : SR ((bagF K b g H ⟨n, bag⟩).c n) (nm0 8 [.sc (.ref b), .i (W : Int), .i ((r + 1 : Nat) : Int), .i 16]) _ H3 := S.re (F := bagF K b g H ⟨n, bag⟩) l03 bag3
  have rp3 : Rep K H3 (.tup [.tup (List.replicate W (fr 1)), .sc (.ref l)]) (.ref p) := ⟨p, [v1, .ref l], rfl, .inl (.inl (by rw [← hH3]; exact upd_same)), .cons ((p1.to (l2.fx.trans x.fx))) (.cons rfl .nil)⟩
  refine eg_two (C := (bagF K b g H ⟨n, bag⟩).c n) _ H3 (.ref p) _ S3 rp3 fun σ' S' _ _ => ?_
  have hF0 : HasBag (leftF K b g l H3 ⟨n, left⟩) b g := leftF_has
  have S4 : SR ((leftF K b g l H3 ⟨n, left⟩).c n) [some (.val (.sc (.ref b))), some (.val (.i (W : Int))), some (.val (.i ((r + 1 : Nat) : Int))), some (.val (.i 16)), some (.val (frs (ones W))), some (.val (.sc (.ref l))), none, none] σ' H3 := by
    refine ⟨Le.refl _ _, left, S'.len, fun i e he => ?_⟩
    obtain ⟨v, a1, a2⟩ := S'.at_ i e (by
      rw [← ones_frs] at he
      exact he)
    refine ⟨v, a1, ?_⟩
    cases e with
    | val d => exact a2
    | own a ds =>
      exfalso
      rcases i with _ | _ | _ | _ | _ | _ | _ | _ | i
      all_goals cases he
  dsimp only
  refine (?_ : EsT (leftF K b g l H3 ⟨n, left⟩) n (n + 1 + qc r * 2) _ _ (fun _ => False) (fun d => ∃ t : T (r + 1), d = encT (r + 1) t ∧ GoodT W (r + 1) (ones W) t)) _ H3 _ S4 (fun _ _ _ hn _ _ => hn.elim) fun v d H' rd le i' rv => by
    obtain ⟨t, rfl, good⟩ := rd
    obtain ⟨t3, good3, e3⟩ := to3 (by omega) t good
    rw [← e3] at rv
    exact q v t3 H' (le_fresh l03 le hl0) (BagN.mono i'.1 (by omega)) good3 rv
  refine esT_seq (m := n + 1 + qc r * 2) (N1 := fun nm' => ∃ (p : Addr) (qL : List (List (An r))), qL.length ≤ 2 ∧ QsOk W (ones W) qL ∧ nm' = [some (.val (.sc (.ref b))), some (.val (.i (W : Int))), some (.val (.i ((r + 1 : Nat) : Int))), some (.val (.i 16)), some (.val (frs (ones W))), some (.val (.sc (.ref l))), some (.own p (qL.map qDr)), none])
    (esT_asgL (elT_qs (r := r) (R := 2) (m := n + 1) (kmax := 2) (v := 7) (s := 1) r2 (EaT.imp (eaT_cons (Ra := fun d => ∃ i : Int, d = .i (1 + i) ∧ 0 ≤ i ∧ i < 2) (evT_op (Ra := Is (.i 1)) (Rb := fun d => ∃ i : Int, d = .i i ∧ 0 ≤ i ∧ i < 2) (Ev.T ev_c) (evT_pick hF0 rfl (ev_c (v := .int 2)) (by decide) (by decide) (by omega)) fun x y hx hy => ?_) eaT_nil) fun es he => ?_) (by decide) (by omega) ones_ah (by omega) w1 w4 fun n' nm' i hnm => ?_) fun p ds hds _ => ?_) ?_ (Nat.le_refl _)
  · obtain ⟨z, rfl, z0, z1⟩ := hy
    have hx : x = _ := hx
    subst hx
    intro H1 vx vy Q1 l1 i1 p1 p2 q1
    exact ⟨1, z, p1, p2, q1 _ _ H1 ⟨z, rfl, z0, z1⟩ (Le.refl _ _) i1 rfl⟩
  · obtain ⟨d, es', rfl, ⟨i, rfl, i0, i1⟩, rfl⟩ := he
    exact ⟨(1 + i).toNat, by rw [Int.toNat_of_nonneg (by omega)], by omega, trivial⟩
  · subst hnm
    exact ea_cons (ev_var rfl) (ea_cons (ev_var rfl) (ea_cons (ev_var rfl) (ea_cons (ev_var rfl) (ea_cons (ev_var rfl) ea_nil))))
  · obtain ⟨qL, l2, ok, rfl⟩ := hds
    exact ⟨p, qL, l2, ok, rfl⟩
  rintro nm' ⟨p', qL, q2, ok, rfl⟩
  refine esT_ret (EvT.imp (Ev.T (ev_tupO (k := 6) (ds := qL.map qDr) rfl)) fun d hd => ?_)
  have hd : d = _ := hd
  exact ⟨qL, hd, q2, ok⟩
end
end Q3
namespace Q3
open PySem PySem.Spec PyProof.Rows L2
/-! the bag made -/
section
variable {C : Ct} {nm : Nm} {wi : TI} {g : TG} {ds : List D}
theorem el_lcF {te : TE} {tt : TT} {vs : List Nat} (hi : EiL C nm wi ds) (hz : ds.length ≤ 900) (P : List D → Prop) (h0 : P [])
    (hs : ∀ (i : Nat) d acc, ds[i]? = some d → P acc → ∃ nm' js b, Eg C (wipeN nm vs) g d nm' js ∧ (∀ j ∈ js, j ∈ vs) ∧ Et C nm' tt b ∧ Ev C nm' te (fun e => P (acc ++ [e]))) : El C nm (tLc wi g tt te vs) P := fun σ H Q S q =>
  hi σ H _ S fun J H1 G l ii it hG D hD => by
    have S1 := S.step l ii
    have fD := S1.fresh hD
    refine lc_it it.walk (Pv := fun i H' => ∃ acc us, P acc ∧ acc.length ≤ i ∧ H' D = some (.lst us) ∧ RepL C.K H' acc us ∧ Le C.B H1 H' ∧ C.I H') ?_ (fun i H' _ ⟨acc, us, p, _, e, r, l', i'⟩ => hG H' l') (fun i x H' H2 hi' ⟨acc, us, p, al, e, r, l', i'⟩ y => ?_) fun H' ⟨acc, us, p, _, e, r, l', i'⟩ => q D us acc H' p (l.alive hD) (l.trans l') i' e r
    · have x : Ex H1 (upd H1 D (.lst [])) := Ex.new hD
      exact ⟨[], [], h0, Nat.le_refl _, upd_same, rfl, x.le, C.exI ii x⟩
    · obtain ⟨ex, d, e1, e2⟩ := y
      obtain ⟨nm', js, b, hg, hj, ht, he⟩ := hs i d acc e1 p
      have S2 : SR C (wipeN nm vs) (L2.wipe σ vs) H2 := ((S1.step l' i').ex ex).wipe vs
      refine hg _ H2 x _ S2 e2 fun σ2 S3 hl2 hsl => ?_
      rw [wipe_length] at hl2
      refine ⟨wipe_again hl2 fun k hk' => hsl k fun z => hk' (hj k z), ?_⟩
      refine ht σ2 H2 _ S3 fun H3 l3 i3 => ?_
      have S4 := S3.step l3 i3
      have e3 : H3 D = some (.lst us) := l3.keep (ex.keep e) (C.notB fD)
      cases b with
      | false =>
        show ∃ acc us, _
        exact ⟨acc, us, p, by omega, e3, (r.to ex.fx).to l3.fx, l'.trans (ex.le.trans l3), i3⟩
      | true =>
        show te σ2 H3 _
        refine he σ2 H3 _ S4 fun y ed H4 pe l4 i4 ry => ?_
        have hD4 : H4 D = some (.lst us) := l4.keep e3 (C.notB fD)
        have r4 := ((r.to ex.fx).to l3.fx).to l4.fx
        have fx : Fx H4 (upd H4 D (.lst (us ++ [y]))) := fun b o eb f => by
          rw [upd_ne (fun z => by rw [z, hD4] at eb; cases eb; exact f)]
          exact eb
        refine ⟨us, hD4, small1000 (by rw [r4.len]; omega), acc ++ [ed], us ++ [y], pe, by rw [List.length_append]; simp; omega, upd_same, (r4.snoc ry).to fx, fun b o eb => ?_, C.st _ _ i4 fun b o eb n => ?_⟩
        · obtain ⟨o', z1, z2⟩ := (l'.trans (ex.le.trans (l3.trans l4))) b o eb
          refine ⟨o', ?_, z2⟩
          rw [upd_ne (ne_of_none eb hD)]
          exact z1
        · rw [upd_ne (fun z => n.elim (fun n => n (by rw [z]; exact fD)) fun f => by rw [z, hD4] at eb; cases eb; exact f)]
          exact eb
/-- a body that writes no list -/
def EsP (C : Ct) (nm : Nm) (ts : TS) (N : Nm → Prop) : Prop := ∀ σ H (Dd : Ends), SR C nm σ H → (∀ nm' σ' H', N nm' → SR C nm' σ' H' → Le C.B H H' → Dd.nx σ' H') → ts Dd σ H
theorem esP_asg {te : TE} {R : D → Prop} {N : Nm → Prop} {i : Nat} (h : Ev C nm te R) (hn : ∀ d, R d → N (nm.set i (some (.val d)))) : EsP C nm (tAsg te (gName i)) N := fun σ H Dd S q =>
  h σ H _ S fun v d H1 rd l ii p => q _ _ H1 (hn d rd) ((S.step l ii).set i (e := .val d) p) l
theorem es_forL {tb : TS} {N : Nm → Prop} {Rt : D → Prop} (hi : EiL C nm wi ds) (P : Nat → Nm → Prop) (h0 : P 0 nm) (hs : ∀ i d nm', ds[i]? = some d → P i nm' → ∃ nm'' js, Eg C nm' g d nm'' js ∧ EsP C nm'' tb (P (i + 1))) (hd : ∀ nm', P ds.length nm' → N nm') :
    Es C nm (tFor wi g tb) N Rt := fun σ H Dd S q r => hi σ H _ S fun J H1 G l ii it hG =>
  for_it it.walk (Pv := fun i σ' H' => ∃ nm', P i nm' ∧ SR C nm' σ' H' ∧ Le C.B H1 H') ⟨nm, h0, S.step l ii, Le.refl _ _⟩ (fun i σ' H' _ ⟨nm', p, S', f⟩ => hG H' f)
    (fun i x σ' H' H2 hi' ⟨nm', p, S', f⟩ y => by
      obtain ⟨ex, d, e1, e2⟩ := y
      obtain ⟨nm'', js, hg, hb⟩ := hs i d nm' e1 p
      refine hg σ' H2 x _ (S'.ex ex) e2 fun σ2 S2 _ _ => ?_
      exact hb σ2 H2 { Dd with nx := _, ct := _, bk := Dd.nx } S2 fun nm3 σ3 H3 p3 S3 f3 => ⟨nm3, p3, S3, f.trans (ex.le.trans f3)⟩)
    (fun σ' H' ⟨nm', p, S', f⟩ => q nm' σ' H' (hd nm' p) S' (l.fx.trans f.fx))
/-- xs[:n], xs a list of the arguments -/
theorem ei_head {p : Addr} {us : List V} {k : Nat} {n : Int} (hl : SqL C.K C.H0 p us) (hB : p ∉ C.B) (h0 : nm[k]? = some (some (.val (.sc (.ref p))))) : EiL C nm (iList C.K (tSl (rSlL C.K) (tVar k) tNoPart (tPart (tC (.int n))))) ((cutV us none (some n)).map D.sc) := fun σ H R S q => by
  obtain ⟨v, h1, h2⟩ := S.val h0
  have h2 : v = .ref p := h2
  subst h2
  refine ⟨.ref p, h1, n, rfl, p, us, rfl, S.le.l hB hl, fun b hb => ?_⟩
  have x : Ex H (upd H b (.lst (cutV us none (some n)))) := Ex.new hb
  have nB : b ∉ C.B := C.notB (S.fresh hb)
  have hb1 : upd H b (.lst (cutV us none (some n))) b = some (.lst (cutV us none (some n))) := upd_same
  have hr : ∀ H', RepL C.K H' ((cutV us none (some n)).map D.sc) (cutV us none (some n)) := fun H' => repl_sc _
  refine ⟨b, rfl, ⟨_, .inl (.inl hb1)⟩, q _ _ (fun H' => H' b = some (.lst (cutV us none (some n)))) x.le (C.exI S.inv x) ⟨fun i H' hi g => ?_, fun H' g => ⟨_, .inl (.inl g), by rw [List.length_map]; exact Nat.le_refl _⟩, fun i H' x H2 hi g y => ?_⟩ fun H' l' => l'.keep hb1 nB⟩
  · rw [List.length_map] at hi
    exact ⟨_, (cutV us none (some n))[i]'hi, .inl (.inl g), List.getElem?_eq_getElem _⟩
  · obtain ⟨e1, e2⟩ := y
    rw [e1]
    exact ⟨Le.refl _ _, (hr H').getV (e2 _ (.inl (.inl g)))⟩
end
theorem cut_int {xs : List Int} {lo hi : Option Int} {i : Nat} {d : D} (h : ((cutV (xs.map V.int) lo hi).map D.sc)[i]? = some d) : ∃ x, d = .i x := by
  rw [List.getElem?_map] at h
  cases e : (cutV (xs.map V.int) lo hi)[i]? with
  | none => rw [e] at h; cases h
  | some v =>
    rw [e] at h
    obtain rfl := Option.some.inj h
    have hm := List.mem_of_getElem? e
    unfold cutV at hm
    obtain ⟨x, _, rfl⟩ := List.mem_map.mp (List.mem_of_mem_drop (List.mem_of_mem_take hm))
    exact ⟨x, rfl⟩
theorem cut_len {xs : List V} {lo hi : Option Int} : ((cutV xs lo hi).map D.sc).length ≤ xs.length := by
  rw [List.length_map]
  exact cutV_length _ _ _
theorem ev_absI {C : Ct} {nm : Nm} {te : TE} {i : Int} (h : Ev C nm te (Is (.i i))) : Ev C nm (tCB (fun xs H Q => ∃ i, xs = [.int i] ∧ Q (.int (if i < 0 then -i else i)) H) (tCons te tNil)) (Is (.i (if i < 0 then -i else i))) := ev_callB (ea_cons h ea_nil) fun H vs Q l ii p q => by
  obtain ⟨v, r, rfl, p1, e⟩ := p
  have e : r = [] := e
  have p1 : v = .int i := p1
  subst e p1
  exact ⟨i, rfl, q _ _ H rfl (Le.refl _ _) ii rfl⟩
section
variable {P : Program} {w : World} {K : PySem.W.Frag} {mg : Str → Option Value} {base : Heap} {aN aO aH : Addr}
def spBag (K : PySem.W.Frag) : Sp := fun vs H Q _ => ∃ (p : Addr) (xs : List Int), vs = [.ref p] ∧ SqL K H p (xs.map V.int) ∧ xs.length ≤ 63 ∧ ∀ b g H', Ex H H' → H b = none → H g = none → BagN b g 1 H' → Q (.ref b) H'
theorem cal_bag (T0 : Txt K mg aN aO aH) (d : Df K mg "_law_bag" s__law_bag ["_law_script"]) : C8.Cal P w K mg base 1 "_law_bag" (spBag K) [] := by
  refine d.cal sc__law_bag (fun vs H Q E h => by obtain ⟨_, _, rfl, _⟩ := h; rfl) fun f cdv A outer s H vs Q E hr h => ?_
  have T := T0
  refine ⟨_, (pss_cons (ps_set (i := 1) sc__law_bag.nd rfl (Or.inl rfl) (pe_op op_add pe_int (pe_callB (kLen (K := K) rfl) (by rfl) T.lenZ PySem.boot_len (pa_cons (pv 0) pa_nil))))
      (pss_cons (ps_for PassesOwn.never rfl (kPiL (K := K) rfl (pe_slice (kSlL (K := K) rfl) (pv 0) po_none (po_some pe_int))) (pg_name (i := 2) sc__law_bag.nd rfl (Or.inl rfl)) (pss_one (ps_set (i := 1) sc__law_bag.nd rfl (Or.inl rfl) (pe_op op_modN (pe_callTy call_int1 (by rfl) T.intZ (by decide +kernel) (pa_cons (pe_op op_add (pe_op op_add (pe_op op_mulW (pv 1) pe_int) (pe_op op_modN (pe_callTy call_int1 (by rfl) T.intZ (by decide +kernel) (pa_cons (pv 2) pa_nil)) pe_int)) pe_int) pa_nil)) pe_int))))
      (pss_cons (ps_setLc (i := 3) rfl sc__law_bag.nd rfl rfl (sw_true rfl rfl rfl (by decide +kernel)) (own := [("_law_cell", 2)]) (g := (gName 2)) (tt := _) (kPiL (K := K) rfl (pe_slice (kSlL (K := K) rfl) (pv 0) po_none (po_some pe_int))) (blkOk_by (by kernel_rfl)) (fun _ _ _ _ _ => (pg_name (i := 2) sc__law_bag.nd rfl (Or.inl rfl))) (fun _ _ _ _ _ => (pts_one (pt_cmpR op_ge (pe_callB call_abs (by rfl) T.absZ (by decide +kernel) (pa_cons (pe_callTy call_int1 (by rfl) T.intZ (by decide +kernel) (pa_cons (pv 2) pa_nil)) pa_nil)) (pe_op op_pow pe_int pe_int) (nomark _)))) (fun _ _ _ _ _ => (pe_callB call_abs (by rfl) T.absZ (by decide +kernel) (pa_cons (pe_callTy call_int1 (by rfl) T.intZ (by decide +kernel) (pa_cons (pv 2) pa_nil)) pa_nil))))
      (pss_cons (ps_set (i := 4) sc__law_bag.nd rfl (Or.inl rfl) pe_non)
      (pss_cons (ps_if (PW.pt (pw_and (pt_cmpR op_lt (pe_callB (kLen (K := K) rfl) (by rfl) T.lenZ PySem.boot_len (pa_cons (pv 0) pa_nil)) pe_int (nomark _)) (pw_and1 (pt_cmpR op_eq (pe_callB (kLen (K := K) rfl) (by rfl) T.lenZ PySem.boot_len (pa_cons (pv 3) pa_nil)) pe_int (nomark _))))) (pss_one (ps_set (i := 4) sc__law_bag.nd rfl (Or.inl rfl) (pe_callB call_abs (by rfl) T.absZ (by decide +kernel) (pa_cons (pe_callB (kSum (K := K) rfl rfl) (by rfl) T.sumZ (by decide +kernel) (pa_cons (pe_lc rfl sc__law_bag.nd (own := [("_law_cell", 2)]) (g := (gName 2)) (tt := tYes) (kPiL (K := K) rfl (pv 0)) (blkOk_by (by kernel_rfl)) (fun _ _ _ _ _ => (pg_name (i := 2) sc__law_bag.nd rfl (Or.inl rfl))) (fun _ _ _ _ _ => pts_nil) (fun _ _ _ _ _ => (pe_callTy call_int1 (by rfl) T.intZ (by decide +kernel) (pa_cons (pv 2) pa_nil)))) pa_nil)) pa_nil)))) pss_nil)
      (pss_one (ps_ret (pe_lst (pa_cons (pv 1) (pa_cons pe_int (pa_cons (pv 3) (pa_cons (pv 4) pa_nil)))))))))))), ?_⟩
  clear T
  obtain ⟨p, xs, rfl, hl, h63, q⟩ := h
  have S := sr0 (K := K) (H := H) (N := ["_law_script", "_law_seed", "_law_cell", "_law_great", "_law_always"]) (ds := [.sc (.ref p)]) (vs := [.ref p]) (.cons rfl .nil)
  have hB : p ∉ (Ct.pure K H).B := fun z => nomatch z
  have hxl : (xs.map V.int).length = xs.length := List.length_map ..
  have sz : ∀ {x : Int}, 0 ≤ x → x < 2 ^ 100 → x.natAbs < 2 ^ 4000 := fun h1 h2 => big4000 (by omega) h2
  refine es_then S (N1 := fun nm' => ∃ s : Int, 0 ≤ s ∧ s < 2147483647 ∧ nm' = [some (.val (.sc (.ref p))), some (.val (.i s)), none, none, none]) (es_asg (ev_add (ev_c (v := .int 29)) (ev_lenL (C := Ct.pure K H) hl hB (ev_var rfl))) ⟨29 + ((xs.map V.int).length : Int), by omega, by omega, rfl⟩) ?_
  rintro nm' σ1 H1 ⟨s1, a1, b1, rfl⟩ S1
  refine es_then S1 (N1 := fun nm' => ∃ (s : Int) (x : Option D), 0 ≤ s ∧ s < 2147483647 ∧ nm' = [some (.val (.sc (.ref p))), some (.val (.i s)), x.map Ent.val, none, none]) (es_forL (C := Ct.pure K H) (ei_head (C := Ct.pure K H) hl hB rfl) (fun i nm' => ∃ (s : Int) (x : Option D), 0 ≤ s ∧ s < 2147483647 ∧ nm' = [some (.val (.sc (.ref p))), some (.val (.i s)), x.map Ent.val, none, none]) ⟨s1, none, a1, b1, rfl⟩ (fun i d nm' hd hP => ?_) fun nm' hP => hP) ?_
  · obtain ⟨s, x, a, b, rfl⟩ := hP
    obtain ⟨c, rfl⟩ := cut_int hd
    have hm := fmod_rng (a := c) (m := 1000003) (by decide)
    refine ⟨_, _, eg_name, esP_asg (ev_mod (ev_int1 (ev_add (ev_add (ev_mul (ev_var rfl) (ev_c (v := .int 69621)) (cmulS (sz a (by omega)) (sz (by decide) (by decide)))) (ev_mod (ev_int1 (ev_var rfl)) (ev_c (v := .int 1000003)) (by decide))) (ev_c (v := .int 7)))) (ev_c (v := .int 2147483647)) (by decide)) fun d hd => ?_⟩
    have hd : d = _ := hd
    exact ⟨_, some (.i c), (fmod_rng (by decide)).1, (fmod_rng (by decide)).2, by rw [hd]; rfl⟩
  rintro nm' σ2 H2 ⟨s2, x2, a2, b2, rfl⟩ S2
  refine es_then S2 (N1 := fun nm' => ∃ (g : Addr) (gs : List Int) (x : Option D), nm' = [some (.val (.sc (.ref p))), some (.val (.i s2)), x.map Ent.val, some (.own g (gs.map D.i)), none]) (es_asgL (el_lcF (C := Ct.pure K H) (ei_head (C := Ct.pure K H) (n := 63) hl hB rfl) (by have := cut_len (xs := xs.map V.int) (lo := none) (hi := some 63); omega) (fun acc => ∃ gs : List Int, acc = gs.map D.i) ⟨[], rfl⟩ fun i d acc hd hP => ?_) fun g ds hds _ => ?_) ?_
  · obtain ⟨gs, rfl⟩ := hP
    obtain ⟨c, rfl⟩ := cut_int hd
    refine ⟨_, _, _, eg_name, by simp, et_test (ev_b (ev_absI (ev_int1 (ev_var rfl))) (ev_op (ev_c (v := .int 10)) (ev_c (v := .int 18)) (rv_I (c := CPow) ⟨by decide, by decide, by decide⟩)) rfl), (ev_absI (ev_int1 (ev_var rfl))).imp fun e he => ?_⟩
    have he : e = _ := he
    exact ⟨gs ++ [if c < 0 then -c else c], by rw [he, List.map_append]; rfl⟩
  · obtain ⟨gs, rfl⟩ := hds
    exact ⟨g, gs, x2, rfl⟩
  rintro nm' σ3 H3 ⟨g, gs, x3, rfl⟩ S3
  refine es_then S3 (N1 := fun nm' => nm' = [some (.val (.sc (.ref p))), some (.val (.i s2)), x3.map Ent.val, some (.own g (gs.map D.i)), some (.val (.sc .non))]) (es_asg ev_c rfl) ?_
  rintro nm' σ4 H4 rfl S4
  have lenO : ∀ nm : Nm, nm[3]? = some (some (.own g (gs.map D.i))) → Ev (Ct.pure K H) nm (tCB (rLenS K) (tCons (tVar 3) tNil)) (Is (.i (gs.length : Int))) := fun nm h σ H Q S q => by
    obtain ⟨h1, h2, vs, h3, h4⟩ := S.own h
    refine ⟨.ref g, h1, g, vs, rfl, .inl (.inl (.inl h3)), ?_⟩
    have z := h4.len
    rw [List.length_map] at z
    rw [z]
    exact q _ _ H rfl (Le.refl _ _) S.inv rfl
  refine es_then S4 (N1 := fun nm' => ∃ al : V, (al = .non ∨ ∃ a, al = .int a) ∧ nm' = [some (.val (.sc (.ref p))), some (.val (.i s2)), x3.map Ent.val, some (.own g (gs.map D.i)), some (.val (.sc al))]) (es_if (b := decide ((xs.map V.int).length < 2) && decide (gs.length = 0)) (et_and (a := decide ((((xs.map V.int).length : Nat) : Int) < 2)) (b := decide (((gs.length : Nat) : Int) = 0)) (et_test (ev_b (ev_lenL (C := Ct.pure K H) hl hB (ev_var rfl)) (ev_c (v := .int 2)) rfl)) (fun _ => et_test (ev_eqI (lenO _ rfl) (ev_c (v := .int 0)) rfl)) ?_) (fun _ => ?_) fun _ => es_next ⟨.non, .inl rfl, rfl⟩) ?_
  · congr 1
    · exact decide_eq_decide.mpr (by omega)
    · exact decide_eq_decide.mpr (by omega)
  · refine es_asgR (ev_absI (i := xs.sum) (ev_sum (ns := xs) (el_lc (C := Ct.pure K H) (ei_lst (C := Ct.pure K H) (p := p) (vs := xs.map V.int) (ds := (xs.map V.int).map D.sc) (ev_var rfl) hl hB (repl_sc _)) trivial (by rw [List.length_map]; omega) (fun i acc => acc = (xs.take i).map D.i) rfl (fun i d acc hd hacc => ?_) fun acc hacc => ?_))) fun d hd => ?_
    · rw [List.getElem?_map, List.getElem?_map] at hd
      cases hx : xs[i]? with
      | none => rw [hx] at hd; cases hd
      | some c =>
      rw [hx] at hd
      obtain rfl := Option.some.inj hd
      refine ⟨_, _, eg_name, by simp, (ev_int1 (ev_var rfl)).imp fun e he => ?_⟩
      have he : e = _ := he
      rw [hacc, he, take_snoc hx]
    · rw [hacc, List.length_map, List.length_map, List.take_length]
    · have hd : d = _ := hd
      exact ⟨_, .inr ⟨_, rfl⟩, by rw [hd]; rfl⟩
  rintro nm' σ5 H5 ⟨al, hal, rfl⟩ S5
  obtain ⟨g1, g2, us, g3, g4⟩ := S5.own (i := 3) rfl
  rw [g4.ints] at g3
  obtain ⟨v1, c1, e1⟩ := S5.val (i := 1) rfl
  obtain ⟨v4, c4, e4⟩ := S5.val (i := 4) rfl
  have e1 : v1 = .int s2 := e1
  have e4 : v4 = al := e4
  subst e1 e4
  refine ⟨_, c1, _, g1, _, c4, by show 4 ≤ sizeLine; decide, fun b hb => ?_⟩
  have x : Ex H5 (upd H5 b (.lst [.int s2, .int 1, .ref g, v4])) := Ex.new hb
  have l5 : Ex H H5 := S5.le
  exact q b g _ (l5.trans x) (l5.alive hb) g2 ⟨s2, 1, gs, v4, upd_same, x.keep g3, a2, b2, by decide, by decide, hal⟩
end
end Q3
namespace Q3
open PySem PySem.Spec PyProof.Rows L2
/-! repr of plain data, where nothing is being shown -/
def rReprP (K : PySem.W.Frag) : List V → Hp → VK → Prop := fun xs H Q => ∃ (d : D) (a : Addr), xs = [.ref a] ∧ Rep K H d (.ref a) ∧ plain d = true ∧ (pd d).showable = true ∧ dep d ≤ 60 ∧ (pd d).shown.length ≤ sizeLine ∧ Q (.str (pd d).shown) H
theorem call_reprP {X : Cx} {K : PySem.W.Frag} (hK : X.K = K) (hg : X.A.guards = some []) (hu : X.A.units + 64 < cLine) : CallR X (.builtin "repr") (rReprP K) := by
  subst hK
  intro pins s σ H xs us Q I r h
  obtain ⟨d, a, rfl, rp, hp, hs, hd, hsz, q⟩ := h
  obtain ⟨u, rfl, ru⟩ := vals1 r
  obtain rfl : u = .ref a := ru
  obtain ⟨as, rd⟩ := Dp.reads I (pd d) (.ref a) (.ref a) (dp_of d _ hp rp) rfl
  exact repr_of_reads' rd hs (PyData.noDict_hsm (PyData.hasDict_of_canLay _ (lay_of d hp))) hg (by rw [dep_of]; omega) (fun _ _ e => e) (fun h' u tk hk => ⟨.str _, H, I.kept fun b o e => hk b o e, ⟨_, rfl⟩, q⟩) hsz
theorem show_fr {q : Rat} (h : Sz 430 q) : (pd (fr q)).showable = true ∧ (pd (fr q)).shown.length ≤ sizeLine := by
  have h1 : q.num.natAbs.log2 < 1920 := Nat.lt_of_lt_of_le (PySem.Flt.log2_lt_of (by decide) h.1) (by decide)
  have h2 : (q.den : Int).natAbs.log2 < 1920 := by
    rw [Int.natAbs_natCast]
    exact Nat.lt_of_lt_of_le (PySem.Flt.log2_lt_of (by decide) h.2) (by decide)
  refine ⟨?_, ?_⟩
  · show (decide (q.num.natAbs.log2 < 1920) && (decide ((q.den : Int).natAbs.log2 < 1920) && true)) = true
    rw [decide_eq_true h1, decide_eq_true h2] <;> rfl
  · have l1 := int_text_len_1921 h1
    have l2 := int_text_len_1921 h2
    show (tupleText [Str.ofString (toString q.num), Str.ofString (toString (q.den : Int))]).length ≤ sizeLine
    show ((("(" : Str) ++ (Str.ofString (toString q.num) ++ (", " : Str) ++ Str.ofString (toString (q.den : Int)))) ++ (")" : Str)).length ≤ sizeLine
    have e : ∀ a b : Str, (a ++ b).length = a.length + b.length := fun a b => PySem.strLen_append a b
    rw [e, e, e, e]
    show 1 + ((Str.ofString (toString q.num)).length + 2 + (Str.ofString (toString (q.den : Int))).length) + 1 ≤ 16777216
    omega
def tIs (K : PySem.W.Frag) (t : TA) : TE := fun σ H Q => t σ H fun vs H1 => ∃ q, RepL K H1 [fr q, fr q] vs ∧ Sz 430 q ∧ ∀ H', Ex H1 H' → Q (.bl true) H'
theorem ev_is {C : Ct} {nm : Nm} {t : TA} {q : Rat} (h : Ea C nm t (fun es => es = [fr q, fr q])) (hz : Sz 430 q) : Ev C nm (tIs C.K t) (Is (.b true)) := fun σ H Q S k => h σ H _ S fun vs ds H1 e l i p => by
  subst e
  exact ⟨q, p, hz, fun H' x => k _ _ H' rfl (l.trans x.le) (C.exI i x) rfl⟩
theorem pe_is {X : Cx} {aN aO aH : Addr} {e1 e2 : Expr} {t : TA} {p pos : Pos} (T : Txt X.K X.mg aN aO aH) (d : Df X.K X.mg "_law_is" s__law_is ["_law_found", "_law_due"]) (hr : Room 2 X.A) (hgd : X.A.guards = some []) (hgl : Gl X "_law_is") (ha : PA X [e1, e2] t)
    (he : starEach (e1 :: [e2]) X.env = (false, eval e1 X.env) :: starEach [e2] X.env := by rfl) (hpl : (backTo pos (starEach [e2] X.env)).any (·.1) = false := by rfl) : PE X (.Call (.Name "_law_is" p) [e1, e2] [] pos) (tIs X.K t) := by
  obtain ⟨f, fd, D, b⟩ := d.ex
  obtain ⟨oc, od, dV, kV, doc, pm, an, cdv, ct, osl, rfl, lk, hcd⟩ := D.fn.ex
  refine ⟨fun pins s σ H Q I h => ?_⟩
  refine wpAny_Call_Name_kw (ld_glob I hgl D.mgf ?_ (by decide))
  refine PySem.W.callWith_K (h₀ := X.base) I.ok.mod.kin D.kp (thn (ha.run pos pins s σ H _ I h) fun us s1 ⟨vs, H1, I1, r, q, rp, hz, k⟩ => ⟨I1.kIn, ?_⟩) he hpl
  have hl : vs.length = 2 := by rw [rp.len] <;> rfl
  have rc : codeAny (model X.prog X.w) X.A (.call (.ref f) ⟨us, []⟩) (CR C8.CX0 X.stack X.prog X.w H1 s1 Q C8.E0) s1 := by
    refine LamX.run_ofS (k := 1) (N := ["_law_found", "_law_due"]) (ps := ["_law_found", "_law_due"]) (us := us) (vs := vs) lk hcd sc__law_is hr I1.env0 (by
      have z := b s1 us I1.kIn (by rw [List.append_nil, ← r.length]; exact hl)
      rw [List.append_nil] at z
      exact z) r hl fun hr' => ?_
    have hr := hr'
    have ht : PSs (cxOf C8.CX0 X.prog X.w X.K X.mg X.base ["_law_found", "_law_due"] "_law_is" (C8.fnScope s__law_is) f cdv X.A X.stack s1 H1 C8.E0).nox (C8.fnBody s__law_is) _ := (pss_one (ps_ret (pe_and (pe_cmpR (kEqD (K := X.K) rfl (hu64 hr)) (pv 0) (pv 1) (nomark _)) (pe_one (pe_cmpR op_eq (pe_callB (call_reprP (K := X.K) rfl hgd (hu64 hr)) (by rfl) T.reprZ (by decide +kernel) (pa_cons (pv 0) pa_nil)) (pe_callB (call_reprP (K := X.K) rfl hgd (hu64 hr)) (by rfl) T.reprZ (by decide +kernel) (pa_cons (pv 1) pa_nil)) (nomark _))))))
    refine ⟨_, ht.nox, ?_⟩
    obtain ⟨z1, z2⟩ := show_fr hz
    have ev_rp : ∀ (nm : Nm) (i : Nat), nm[i]? = some (some (.val (fr q))) → Ev (Ct.pure X.K H1) nm (tCB (rReprP X.K) (tCons (tVar i) tNil)) (Is (.s (pd (fr q)).shown)) := fun nm i hi => ev_callB (ea_cons (ev_var hi) ea_nil) fun H vs Q l ii p q' => by
      obtain ⟨v, r0, rfl, p1, e⟩ := p
      have e : r0 = [] := e
      subst e
      have p1' : Rep X.K H (fr q) v := p1
      obtain ⟨a, us', rfl, _⟩ := p1
      exact ⟨fr q, a, rfl, p1', plain_fr q, z1, by rw [dep_fr]; decide, z2, q' _ _ H rfl (Le.refl _ _) ii rfl⟩
    refine (?_ : Es (Ct.pure X.K H1) (nm0 2 [fr q, fr q]) _ (fun _ => False) (Is (.b true))) _ H1 _ (sr0 (N := ["_law_found", "_law_due"]) rp) (fun _ _ _ hn _ _ => hn.elim) fun v d H' rd l _ p => by
      have rd : d = _ := rd
      subst rd
      have p : v = .bl true := p
      rw [p]
      exact k H' l
    exact es_ret (ev_and (a := true) (b := true) (ev_eqD (ev_var rfl) (ev_var rfl) (plain_fr q) (by rw [dep_fr]; decide)) (fun _ => ev_eqS (ev_rp _ 0 rfl) (ev_rp _ 1 rfl) (decide_eq_true rfl)) rfl)
  refine wpAny_call (codeAny_mono rc fun r s' hq => ?_)
  cases r with
  | error e => exact (show False from hq).elim
  | ok fl =>
    cases fl with
    | ret u => exact I1.after hq
    | next => exact False.elim hq
    | brk => exact False.elim hq
    | cont => exact False.elim hq
end Q3
namespace Q3
open PySem PySem.Spec PyProof.Rows L2
/-! one turn of the law, plainly -/
def eW (W : Nat) : Rat := mkRat 1 W
theorem fr_eW {W : Nat} (h : 1 ≤ W) : fr (eW W) = .tup [.i 1, .i (W : Int)] := by
  obtain ⟨e1, e2⟩ := fr_num_mk 1 W (by omega)
  unfold fr eW
  rw [e1, e2, show Int.gcd 1 (W : Int) = 1 from Int.one_gcd ..]
  simp
theorem even_eq (W : Nat) : even W (eW W) = (List.replicate W (1 : Int)).map fun x => mkRat x W := by
  unfold even eW
  rw [List.map_replicate]
theorem even_prior {W : Nat} (h1 : 1 ≤ W) (h4 : W ≤ 4) : PriorOk W (even W (eW W)) := by
  have n0 : W ≠ 0 := by omega
  refine ⟨List.length_replicate .., h4, h1, fun q hq => ?_, fun q hq => ?_, ?_⟩
  · rw [List.eq_of_mem_replicate hq]
    exact ⟨mk_nn (by decide), mk_le_one n0 (by omega)⟩
  · rw [List.eq_of_mem_replicate hq]
    exact mk_sz n0 (by decide) (by omega)
  · rw [even_eq, mk_tot n0]
    have e : (List.replicate W (1 : Int)).sum = (W : Int) := by simp
    rw [e, mk_self n0]
theorem guess_len (W i : Nat) : (guess W i).length = W := by
  unfold guess
  rw [List.length_map, List.length_range]
theorem guess_mem {W i : Nat} {q : Rat} (h : q ∈ guess W i) : q = 0 ∨ q = 1 := by
  obtain ⟨j, _, rfl⟩ := List.mem_map.mp h
  split
  · exact .inr rfl
  · exact .inl rfl
theorem guesses_len (W : Nat) : (guesses W).length = W := by
  unfold guesses
  rw [List.length_map, List.length_range]
theorem guesses_at {W i : Nat} (h : i < W) : (guesses W)[i]? = some (guess W i) := by
  unfold guesses
  rw [List.getElem?_map, List.getElem?_range h]
  rfl
theorem guesses_ok {W : Nat} (h1 : 1 ≤ W) (h4 : W ≤ 4) : GnOk W (guesses W) := by
  have key : ∀ g ∈ guesses W, g.length = W ∧ ∀ q ∈ g, q = 0 ∨ q = 1 := fun g hg => by
    obtain ⟨i, _, rfl⟩ := List.mem_map.mp hg
    exact ⟨guess_len W i, fun q hq => guess_mem hq⟩
  refine ⟨⟨fun z => by have := guesses_len W; rw [z] at this; simp at this; omega, by rw [guesses_len]; omega, fun g hg => (key g hg).1, fun g hg q hq => ?_⟩, fun g hg q hq => ?_⟩
  · rcases (key g hg).2 q hq with rfl | rfl
    · exact Sz.zero.mono (by decide)
    · exact Sz.one.mono (by decide)
  · rcases (key g hg).2 q hq with rfl | rfl
    · exact Rat.le_refl
    · decide
structure WkOk (W : Nat) (ws : List Rat) : Prop where
  len : ws.length = W
  nn : ∀ x ∈ ws, 0 ≤ x
  sz : ∀ x ∈ ws, Sz 14 x
theorem ones_wk (W : Nat) : WkOk W (ones W) := ⟨ones_len W, fun x hx => by rw [List.eq_of_mem_replicate hx]; decide, ones_sz W⟩
theorem WkOk.gu {W : Nat} {ws : List Rat} (h : WkOk W ws) (h1 : 1 ≤ W) (h4 : W ≤ 4) : GuOk ws := ⟨fun z => by have := h.len; rw [z] at this; simp at this; omega, by rw [h.len]; omega, h.sz⟩
theorem WkOk.we {W : Nat} {ws prior : List Rat} {gains : List (List Rat)} (h : WkOk W ws) (hp : PriorOk W prior) (hg : GainsOk W gains) : WeOk prior gains W ws := (⟨hp.len, hp.sz, hg, h.len, h.sz, hp.n5⟩ : WOk ⟨prior, gains, ws, W⟩)
theorem good_all {W : Nat} {ok : List Rat → Prop} (hok : ∀ ws, WkOk W ws → ok ws) : ∀ (r : Nat) (ahead : List Rat) (t : T r), GoodT W r ahead t → AllO ok r t
  | 0, _, _, _ => trivial
  | r + 1, ahead, t, h => ⟨Nat.le_trans h.1 (by decide), fun q hq => ⟨(h.2 q hq).1.hi, fun a ha => ⟨hok _ ⟨(h.2 q hq).1.len a ha, fun x hx => ((h.2 q hq).1.nn a ha x hx).1.1, fun x hx => ((h.2 q hq).1.nn a ha x hx).2⟩, good_all hok r a.2.1 a.2.2 ((h.2 q hq).2 a ha)⟩⟩⟩
theorem good_allW {W : Nat} : ∀ (r d : Nat) (ahead : List Rat) (t : T r), GoodT W r ahead t → AllW W (fun _ x => 0 ≤ x) r d t
  | 0, _, _, _, _ => trivial
  | r + 1, d, ahead, t, h => ⟨h.1, fun q hq => ⟨(h.2 q hq).1.hi, fun a ha => ⟨(h.2 q hq).1.len a ha, fun x hx => ((h.2 q hq).1.nn a ha x hx).1.1, good_allW r (d + 1) a.2.1 a.2.2 ((h.2 q hq).2 a ha)⟩⟩⟩
theorem bsf_cases : ∀ (xs : List (Rat × List D)) (m : Rat) (d : D) (k : Nat), bsf m d k xs = (m, d) ∨ ∃ j x, xs[j]? = some x ∧ bsf m d k xs = (x.1, askD (k + j) x.2)
  | [], m, d, k => .inl rfl
  | x :: xs, m, d, k => by
    show (if m < x.1 then bsf x.1 (askD k x.2) (k + 1) xs else bsf m d (k + 1) xs) = (m, d) ∨ ∃ j y, (x :: xs)[j]? = some y ∧ (if m < x.1 then bsf x.1 (askD k x.2) (k + 1) xs else bsf m d (k + 1) xs) = (y.1, askD (k + j) y.2)
    by_cases h : m < x.1
    · rw [if_pos h]
      rcases bsf_cases xs x.1 (askD k x.2) (k + 1) with e | ⟨j, y, e1, e2⟩
      · exact .inr ⟨0, x, rfl, e⟩
      · exact .inr ⟨j + 1, y, e1, by rw [e2, show k + 1 + j = k + (j + 1) by omega]⟩
    · rw [if_neg h]
      rcases bsf_cases xs m d (k + 1) with e | ⟨j, y, e1, e2⟩
      · exact .inl e
      · exact .inr ⟨j + 1, y, e1, by rw [e2, show k + 1 + j = k + (j + 1) by omega]⟩
theorem gets_stop {W : Nat} {ws : List Rat} (h1 : 1 ≤ W) (h4 : W ≤ 4) (h : WkOk W ws) : GetS ⟨even W (eW W), guesses W, W⟩ ws (guV ws).2 ((guV ws).1 * eW W) := by
  have hne : ws ≠ [] := (h.gu h1 h4).ne
  have ha := amL_at hne
  have hi : (amL ws).2 < W := by
    have := (List.getElem?_eq_some_iff.mp ha).1
    rw [h.len] at this
    exact this
  have hp := even_prior h1 h4
  have hg := (guesses_ok h1 h4).g
  exact ⟨(amL ws).2, guess W (amL ws).2, guesses_at hi, rfl, (deed_guess h.len ha).symm, (WOk.deed (x := ⟨even W (eW W), guesses W, ws, W⟩) ⟨hp.len, hp.sz, hg, h.len, h.sz, h4⟩ (List.mem_of_getElem? (guesses_at hi)))⟩
theorem eW_sz {W : Nat} (h1 : 1 ≤ W) (h4 : W ≤ 4) : Sz 6 (eW W) := mk_sz (by omega) (by decide) (by omega)
theorem up14 {r : Nat} (h : r ≤ 2) : up 14 r + 6 ≤ 1300 := by
  match r, h with
  | 0, _ => decide
  | 1, _ => decide
  | 2, _ => decide
theorem best_gets {W : Nat} (h1 : 1 ≤ W) (h4 : W ≤ 4) : ∀ (r : Nat), r ≤ 3 → ∀ (ws ahead : List Rat) (t : T r), WkOk W ws → GoodT W r ahead t → Gets ⟨even W (eW W), guesses W, W⟩ r ws t (bestT guV r ws t).2 ((bestT guV r ws t).1 * eW W)
  | 0, _, ws, ahead, t, hw, _ => .inl (gets_stop h1 h4 hw)
  | r + 1, hr, ws, ahead, t, hw, ht => by
    have key : ∀ q ∈ qs t, ∀ a ∈ q, WkOk W a.2.1 := fun q hq a ha => ⟨(ht.2 q hq).1.len a ha, fun x hx => ((ht.2 q hq).1.nn a ha x hx).1.1, fun x hx => ((ht.2 q hq).1.nn a ha x hx).2⟩
    show GetN _ _ ws (qs t) (bsf (guV ws).1 (guV ws).2 0 ((qs t).map (ask1 (fun a : An r => bestT guV r a.2.1 a.2.2)))).2 ((bsf (guV ws).1 (guV ws).2 0 ((qs t).map (ask1 (fun a : An r => bestT guV r a.2.1 a.2.2)))).1 * eW W)
    rcases bsf_cases ((qs t).map (ask1 (fun a : An r => bestT guV r a.2.1 a.2.2))) (guV ws).1 (guV ws).2 0 with e | ⟨j, x, e1, e2⟩
    · rw [e]
      exact .inl (gets_stop h1 h4 hw)
    · rw [e2]
      rw [List.getElem?_map] at e1
      cases hq : (qs t)[j]? with
      | none => rw [hq] at e1; cases e1
      | some q =>
      rw [hq] at e1
      obtain rfl := Option.some.inj e1
      have hqm := List.mem_of_getElem? hq
      refine .inr ⟨j, q, q.map fun a => (bestT guV r a.2.1 a.2.2).2, q.map fun a => (bestT guV r a.2.1 a.2.2).1 * eW W, hq, List.length_map .., List.length_map .., (ht.2 q hqm).1.hi, by rw [Nat.zero_add] <;> rfl, (tot_eq_mul (f := fun a : An r => (bestT guV r a.2.1 a.2.2).1 * eW W) (g := fun a => (bestT guV r a.2.1 a.2.2).1) fun a _ => rfl).symm, fun i a d u ha hd hu => ?_⟩
      rw [List.getElem?_map, ha] at hd hu
      obtain rfl := Option.some.inj hd
      obtain rfl := Option.some.inj hu
      have ham := List.mem_of_getElem? ha
      have wk := key q hqm a ham
      have gd := (ht.2 q hqm).2 a ham
      refine ⟨best_gets h1 h4 r (by omega) a.2.1 a.2.1 a.2.2 wk gd, ?_⟩
      have z := bestT_sz (st := guV) (ok := GuOk) (b := 14) (fun w (h : GuOk w) => by
        show Sz 14 (amL w).1
        rw [amL_val]
        exact mostL_sz h.sz (by decide)) r a.2.1 a.2.2 (wk.gu h1 h4) (good_all (fun ws h => h.gu h1 h4) r a.2.1 a.2.2 gd)
      exact (z.mul (eW_sz h1 h4)).mono (up14 (by omega))
/-- the facts of one turn -/
theorem turn_worth {W : Nat} {t : T 3} (h1 : 1 ≤ W) (h4 : W ≤ 4) (ht : GoodT W 3 (ones W) t) : worth (even W (eW W)) (guesses W) 3 (ones W) t = luck 3 (ones W) t * eW W :=
  worth_even (P := fun _ x => 0 ≤ x) (mk_nn (by decide)) 3 0 (ones W) t (ones_len W) (good_allW 3 0 (ones W) t ht)
theorem deed_nn : ∀ {ps ws gs : List Rat}, (∀ x ∈ ps, 0 ≤ x) → (∀ x ∈ ws, 0 ≤ x) → (∀ x ∈ gs, 0 ≤ x) → 0 ≤ deed ps ws gs
  | p :: ps, w :: ws, g :: gs, h1, h2, h3 => by
    show 0 ≤ p * w * g + deed ps ws gs
    have a := Rat.mul_nonneg (Rat.mul_nonneg (h1 p (by simp)) (h2 w (by simp))) (h3 g (by simp))
    have b := deed_nn (ps := ps) (ws := ws) (gs := gs) (fun x hx => h1 x (by simp [hx])) (fun x hx => h2 x (by simp [hx])) (fun x hx => h3 x (by simp [hx]))
    grind
  | [], _, _, _, _, _ => by show (0 : Rat) ≤ 0; exact Rat.le_refl
  | _ :: _, [], _, _, _, _ => by show (0 : Rat) ≤ 0; exact Rat.le_refl
  | _ :: _, _ :: _, [], _, _, _ => by show (0 : Rat) ≤ 0; exact Rat.le_refl
theorem turn_le {W : Nat} {t : T 3} {prior : List Rat} {gains : List (List Rat)} (h1 : 1 ≤ W) (ht : GoodT W 3 (ones W) t) (hp : PriorOk W prior) (hg : GnOk W gains) : worth prior gains 3 (ones W) t ≤ luck 3 (ones W) t * mostL (gains.map (deed prior (ones W))) := by
  have hne : gains.map (deed prior (ones W)) ≠ [] := fun z => hg.g.ne (List.map_eq_nil_iff.mp z)
  refine worth_le (W := W) (P := fun _ x => 0 ≤ x) (fun _ _ h => h) hp.len (fun x hx => (hp.nn x hx).1) (fun g hg' => ⟨hg.g.len g hg', hg.nn g hg'⟩) ?_ (fun g hg' => mem_le_mostL (List.mem_map_of_mem hg')) hg.g.ne 3 0 (ones W) t (ones_len W) (fun z => by have := ones_len W; rw [z] at this; simp at this; omega) (ones_wk W).nn (good_allW 3 0 (ones W) t ht)
  have hm := mostL_mem hne
  obtain ⟨g, hg', e⟩ := List.mem_map.mp hm
  rw [← e]
  exact deed_nn (fun x hx => (hp.nn x hx).1) (ones_wk W).nn (hg.nn g hg')
end Q3
namespace Q3
open PySem PySem.Spec PyProof.Rows L2
open LamX NdefX
/-! the law's own context -/
def lawF (K : PySem.W.Frag) (b g P0 : Addr) (H0 : Hp) (h : ∃ n, BagN b g n H0 ∧ TabS H0 P0 lamQ) : Fam := ⟨K, [b, g, P0], H0, fun n H => BagN b g n H ∧ TabS H P0 lamQ, fun n H H' i e => by
    obtain ⟨n0, ⟨s0, t0, gs0, al0, e1, e2, _⟩, tb⟩ := h
    obtain ⟨ps0, e3⟩ := tab_tbl tb
    refine ⟨i.1.keep (fun o q => e b o q (.inl (by rw [e1]; exact fun z => (nomatch z)))) fun o q => e g o q (.inl (by rw [e2]; exact fun z => (nomatch z))), ?_⟩
    obtain ⟨ps, h1, h2, h3⟩ := i.2
    exact ⟨ps, e _ _ h1 (.inl (by rw [e3]; exact fun z => (nomatch z))), h2, fun pos cv hc => by
      obtain ⟨c, q1, q2⟩ := h3 pos cv hc
      exact ⟨c, q1, e _ _ q2 (.inr trivial)⟩⟩, fun x hx => by
    obtain ⟨n0, ⟨s0, t0, gs0, al0, e1, e2, _⟩, tb⟩ := h
    obtain ⟨ps0, e3⟩ := tab_tbl tb
    simp only [List.mem_cons, List.not_mem_nil, or_false] at hx
    rcases hx with rfl | rfl | rfl
    · rw [e1]; exact fun z => (nomatch z)
    · rw [e2]; exact fun z => (nomatch z)
    · rw [e3]; exact fun z => (nomatch z), fun n m H l i => ⟨i.1.mono l, i.2⟩⟩
structure LawFam (F : Fam) (b g P0 : Addr) : Prop where
  bag : HasBag F b g
  tab : ∀ n H, F.I n H → TabS H P0 lamQ
  pp : P0 ∈ F.B
  putT : ∀ n H H', F.I n H → Le [P0] H H' → TabS H' P0 lamQ → F.I n H'
theorem bag_ne {b g P0 : Addr} {n : Nat} {H : Hp} (h : BagN b g n H) (t : TabS H P0 lamQ) : P0 ≠ b ∧ P0 ≠ g := by
  obtain ⟨s0, t0, gs0, al0, e1, e2, _⟩ := h
  obtain ⟨ps0, e3⟩ := tab_tbl t
  refine ⟨fun z => ?_, fun z => ?_⟩
  · rw [z, e1] at e3; cases e3
  · rw [z, e2] at e3; cases e3
theorem lawF_fam {K : PySem.W.Frag} {b g P0 : Addr} {H0 : Hp} {h : ∃ n, BagN b g n H0 ∧ TabS H0 P0 lamQ} : LawFam (lawF K b g P0 H0 h) b g P0 := by
  refine ⟨⟨by show b ∈ [b, g, P0]; simp, by show g ∈ [b, g, P0]; simp, fun n H i => i.1, fun n m H H' i l bag _ => ⟨bag, ?_⟩⟩, fun n H i => i.2, by show P0 ∈ [b, g, P0]; simp, fun n H H' i l t => ⟨?_, t⟩⟩
  · obtain ⟨hne1, hne2⟩ := bag_ne i.1 i.2
    obtain ⟨ps, h1, h2, h3⟩ := i.2
    refine ⟨ps, l.keep h1 (by simp [hne1, hne2]), h2, fun pos cv hc => ?_⟩
    obtain ⟨c, q1, q2⟩ := h3 pos cv hc
    exact ⟨c, q1, l.fx _ _ q2 trivial⟩
  · obtain ⟨hne1, hne2⟩ := bag_ne i.1 i.2
    exact i.1.keep (fun o e => l.keep e (by simp [hne1.symm])) fun o e => l.keep e (by simp [hne2.symm])
def Fam.root (F : Fam) (H : Hp) (hl : Le F.B F.H0 H) : Fam := ⟨F.K, F.B, H, F.I, fun n H1 H2 i e => F.st n H1 H2 i fun a o q z => e a o q (z.imp (fun n => by
    cases h : F.H0 a with
    | none => exact absurd h n
    | some o0 =>
      obtain ⟨o', h1, _⟩ := hl a o0 h
      rw [h1]
      exact fun z => (nomatch z)) id), fun b hb => by
    have n := F.al b hb
    cases h : F.H0 b with
    | none => exact absurd h n
    | some o0 =>
      obtain ⟨o', h1, _⟩ := hl b o0 h
      rw [h1]
      exact fun z => (nomatch z), F.up⟩
theorem LawFam.root {F : Fam} {b g P0 : Addr} {H : Hp} {hl : Le F.B F.H0 H} (h : LawFam F b g P0) : LawFam (F.root H hl) b g P0 := ⟨⟨h.bag.bb, h.bag.gg, h.bag.get, h.bag.put⟩, h.tab, h.pp, h.putT⟩
def NoOwn (nm : Nm) : Prop := ∀ (i : Nat) (a : Addr) (zs : List D), nm[i]? ≠ some (some (.own a zs))
theorem sr_root {F : Fam} {n : Nat} {nm : Nm} {σ : L2.St} {H : Hp} {hl : Le F.B F.H0 H} (S : SR (F.c n) nm σ H) (no : NoOwn nm) : SR ((F.root H hl).c n) nm σ H := ⟨Le.refl _ _, S.inv, S.len, fun i e he => by
  obtain ⟨v, h1, h2⟩ := S.at_ i e he
  refine ⟨v, h1, ?_⟩
  cases e with
  | val d => exact h2
  | own a zs => exact absurd he (no i a zs)⟩
theorem sr_unroot {F : Fam} {n : Nat} {nm : Nm} {σ : L2.St} {H H' : Hp} {hl : Le F.B F.H0 H} (S : SR ((F.root H hl).c n) nm σ H') : SR (F.c n) nm σ H' := ⟨hl.trans S.le, S.inv, S.len, fun i e he => by
  obtain ⟨v, h1, h2⟩ := S.at_ i e he
  refine ⟨v, h1, ?_⟩
  cases e with
  | val d => exact h2
  | own a zs => exact ⟨h2.1, hl.alive h2.2.1, h2.2.2⟩⟩
theorem EsT.forget {F : Fam} {n m : Nat} {nm : Nm} {t : TS} {Rt : D → Prop} {nm0 : Nm} (h : EsT F n m nm t (fun nm' => nm0.length = nm'.length ∧ ∀ (i : Nat) (e : Ent), nm0[i]? = some (some e) → nm'[i]? = some (some e)) Rt) : EsT F n m nm t (fun nm' => nm' = nm0) Rt := fun σ H Dd S q r =>
  h σ H Dd S (fun nm' σ' H' hn S' f => q nm0 σ' H' rfl (S'.forget hn.1 hn.2) f) r
/-! tests and choices with picks -/
def EtXT (F : Fam) (n m : Nat) (nm : Nm) (tt : TT) : Prop := ∀ σ H (Q : Bool → Hp → Prop), SR (F.c n) nm σ H → (∀ b H', Le F.B H H' → F.I m H' → Q b H') → tt σ H Q
section
variable {F : Fam} {n m k : Nat} {nm : Nm}
theorem etXT_or {t u : TT} {a : Bool} (h1 : Et (F.c n) nm t a) (h2 : EtXT F n m nm u) (l : n ≤ m) : EtXT F n m nm (tOr t u) := fun σ H Q S q => h1 σ H _ S fun H1 l1 i => by
  cases a with
  | true => exact q true H1 l1 (F.up n m H1 l i)
  | false =>
    show u σ H1 Q
    exact h2 σ H1 Q (S.re l1 i) fun b H2 l2 i2 => q b H2 (l1.trans l2) i2
theorem etXT_gt {ta : TE} (h : EvT F n m nm ta (fun d => ∃ i : Int, d = .i i)) : EtXT F n m nm (tTest (tOp (rI0 fun i j => .bl (decide (i > j))) ta (tC (.int 0)))) := fun σ H Q S q => h σ H _ S fun v d H1 hd l i p => by
  obtain ⟨j, rfl⟩ := hd
  have p : v = .int j := p
  subst p
  exact ⟨j, 0, rfl, rfl, _, rfl, q _ H1 l i⟩
theorem evT_ifX {c : TT} {ta tb : TE} {R : D → Prop} (h : EtXT F n m nm c) (h1 : EvT F m k nm ta R) (h2 : EvT F m k nm tb R) : EvT F n k nm (tIf c ta tb) R := fun σ H Q S q => h σ H _ S fun b H1 l i => by
  cases b with
  | true =>
    show ta σ H1 Q
    exact h1 σ H1 Q (S.re l i) fun v d H2 e l2 i2 p => q v d H2 e (l.trans l2) i2 p
  | false =>
    show tb σ H1 Q
    exact h2 σ H1 Q (S.re l i) fun v d H2 e l2 i2 p => q v d H2 e (l.trans l2) i2 p
end
/-! calls -/
section
variable {C : Ct} {nm : Nm} {E : XK} {aH : Addr} {W : Nat} {t : T 3} {a : Addr} {ta : TA}
theorem ev_luck {out : LuckIn 3 → D} (hh : HouseAt C.K aH C.H0 a W 3 t) (ok : LuckOk (⟨W, t⟩ : LuckIn 3)) (h : Ea C nm ta (fun es => es = [.sc (.ref a)])) : Ev C nm (tCall (spLuck C.K aH 3 out) [] E ta) (Is (out ⟨W, t⟩)) := ev_callF h fun H vs Q l i p q => by
  obtain ⟨v, r, rfl, p1, e⟩ := p
  have e : r = [] := e
  have p1 : v = .ref a := p1
  subst e p1
  exact ⟨⟨W, t⟩, a, rfl, hh.to l.fx, ok, fun v H' x rv => q v _ H' rfl x.le (C.exI i x) rv⟩
theorem ev_worth {F : Fam} {n : Nat} {b g P0 : Addr} {prior : List Rat} {gains : List (List Rat)} {out : BestIn 3 → D} (hF : LawFam F b g P0) (hh : HouseAt F.K aH F.H0 a W 3 t) (ok : BestOk (⟨W, t, prior, gains⟩ : BestIn 3)) (h : Ea (F.c n) nm ta (fun es => es = [.sc (.ref a), frs prior, gD gains])) :
    Ev (F.c n) nm (tCall (spBest F.K aH P0 lamQ 3 out) [] E ta) (Is (out ⟨W, t, prior, gains⟩)) := ev_callF h fun H vs Q l i p q =>
  ⟨⟨W, t, prior, gains⟩, a, by rw [List.append_nil]; exact p, hh.to l.fx, ok, hF.tab n H i, fun v H' l' t' rv => q v _ H' rfl (l'.mono fun x hx => by rw [List.mem_singleton.mp hx]; exact hF.pp) (hF.putT n H H' i l' t') rv⟩
theorem ev_gotO {r : Nat} {x : DW} {ws : List Rat} {tr : T r} {d : D} {v : Rat} {pg : Addr} {k8 k9 k6 k4 k12 : Nat} (n8 : nm[k8]? = some (some (.val (frs x.prior)))) (n9 : nm[k9]? = some (some (.own pg (x.gains.map frs)))) (n6 : nm[k6]? = some (some (.val (frs ws)))) (n4 : nm[k4]? = some (some (.val (encT r tr)))) (n12 : nm[k12]? = some (some (.val d))) (hg : Gets x r ws tr d v) :
    Ev C nm (tCall (spGot C.K r) [] E (tCons (tVar k8) (tCons (tVar k9) (tCons (tVar k6) (tCons (tVar k4) (tCons (tVar k12) tNil)))))) (Is (fr v)) := fun σ H Q S q => by
  obtain ⟨v8, a8, e8⟩ := S.val n8
  obtain ⟨a9, _, us, e9, r9⟩ := S.own n9
  obtain ⟨v6, a6, e6⟩ := S.val n6
  obtain ⟨v4, a4, e4⟩ := S.val n4
  obtain ⟨v12, a12, e12⟩ := S.val n12
  exact ⟨v8, a8, .ref pg, a9, v6, a6, v4, a4, v12, a12, x, ws, tr, d, v, pg, us, .cons e8 (.cons rfl (.cons e6 (.cons e4 (.cons e12 .nil)))), .inl (.inl e9), r9, hg, fun u H' e rv => q u _ H' rfl e.le (C.exI S.inv e) rv⟩
end
section
variable {F : Fam} {n m k : Nat} {nm : Nm}
theorem evT_shares {b g : Addr} {W : Nat} {E E' : XK} (hb : HasBag F b g) (n1 : nm[1]? = some (some (.val (.sc (.ref b))))) (n3 : nm[3]? = some (some (.val (.i (W : Int))))) (w1 : 1 ≤ W) (w4 : W ≤ 4) (hN : n + 6 ≤ 1000000) :
    EvT F n (n + 6) nm (tCB (rTupOf F.K) (tCons (tCall (spShares F.K) [] E (tCons (tVar 1) (tCons (tVar 3) (tCons (tCall (spPick F.K) [] E' (tCons (tVar 1) (tCons (tC (.int 2)) tNil))) tNil)))) tNil)) (fun d => ∃ ss, d = frs ss ∧ ShOk W ss) := fun σ H Q S q => by
  obtain ⟨v1, a1, e1⟩ := S.val n1
  obtain ⟨v3, a3, e3⟩ := S.val n3
  have e1 : v1 = .ref b := e1
  have e3 : v3 = .int (W : Int) := e3
  subst e1 e3
  refine ⟨_, a1, _, a3, evT_pick (F := F) hb n1 (ev_c (v := .int 2)) (by decide) (by decide) (by omega) σ H _ S fun v d H1 hd l1 i1 p1 => ?_⟩
  obtain ⟨z, rfl, z0, z1⟩ := hd
  have p1 : v = .int z := p1
  subst p1
  refine ⟨b, g, n + 1, W, z, rfl, hb.get _ _ i1, by omega, w1, w4, z0, by omega, fun p us ss H2 l2 hp bag e2 r2 sh => ?_⟩
  have i2 := hb.put (n + 1) (n + 1 + 5) H1 H2 i1 l2 bag (by omega)
  refine ⟨p, us, rfl, .inl ⟨.inl (.inl e2), fun a ha => ?_⟩⟩
  have x : Ex H2 (upd H2 a (.tup us)) := Ex.new ha
  exact q _ _ _ ⟨ss, rfl, sh⟩ ((l1.trans (hb.le l2)).trans x.le) (F.st _ _ _ i2 fun a o e _ => x.keep e) (.tup (.inl (.inl upd_same)) (r2.to x.fx))
theorem evT_gains {b g : Addr} {W : Nat} {E : XK} (hb : HasBag F b g) (n1 : nm[1]? = some (some (.val (.sc (.ref b))))) (n3 : nm[3]? = some (some (.val (.i (W : Int))))) (w1 : 1 ≤ W) (w4 : W ≤ 4) (hN : n + 49 ≤ 1000000) :
    EvT F n (n + 49) nm (tCall (spGains F.K) [] E (tCons (tVar 1) (tCons (tVar 3) (tCons (tC (.int 0)) tNil)))) (fun d => ∃ gs, d = gD gs ∧ GnOk W gs) := fun σ H Q S q => by
  obtain ⟨v1, a1, e1⟩ := S.val n1
  obtain ⟨v3, a3, e3⟩ := S.val n3
  have e1 : v1 = .ref b := e1
  have e3 : v3 = .int (W : Int) := e3
  subst e1 e3
  exact ⟨_, a1, _, a3, b, g, n, W, rfl, hb.get _ _ S.inv, hN, w1, w4, fun v gs H' l bag ok rv => q v _ H' ⟨gs, rfl, ok⟩ (hb.le l) (hb.put n (n + 49) H H' S.inv l bag (by omega)) rv⟩
theorem evT_tree {b g : Addr} {W : Nat} {E E' : XK} (hb : HasBag F b g) (n1 : nm[1]? = some (some (.val (.sc (.ref b))))) (n3 : nm[3]? = some (some (.val (.i (W : Int))))) (w1 : 1 ≤ W) (w4 : W ≤ 4) (hN : n + 2501 ≤ 1000000) :
    EvT F n (n + 2501) nm (tCall (spTreeD F.K) [] E (tCons (tVar 1) (tCons (tVar 3) (tCons (tOp (rI0 fun i j => .int (i + j)) (tC (.int 1)) (tCall (spPick F.K) [] E' (tCons (tVar 1) (tCons (tC (.int 3)) tNil)))) (tCons (tC (.int 16)) tNil))))) (fun d => ∃ t : T 3, d = encT 3 t ∧ GoodT W 3 (ones W) t) := fun σ H Q S q => by
  obtain ⟨v1, a1, e1⟩ := S.val n1
  obtain ⟨v3, a3, e3⟩ := S.val n3
  have e1 : v1 = .ref b := e1
  have e3 : v3 = .int (W : Int) := e3
  subst e1 e3
  refine ⟨_, a1, _, a3, evT_pick (F := F) hb n1 (ev_c (v := .int 3)) (by decide) (by decide) (by omega) σ H _ S fun v d H1 hd l1 i1 p1 => ?_⟩
  obtain ⟨z, rfl, z0, z1⟩ := hd
  have p1 : v = .int z := p1
  subst p1
  refine ⟨1, z, rfl, rfl, z.toNat, b, g, n + 1, W, by omega, by rw [show (((z.toNat + 1 : Nat)) : Int) = 1 + z by omega]; rfl, hb.get _ _ i1, by omega, w1, w4, fun v t H' l bag good rv => ?_⟩
  exact q v _ H' ⟨t, rfl, good⟩ (l1.trans (hb.le l)) (hb.put (n + 1) (n + 2501) H1 H' i1 l bag (by omega)) rv
/-! a house is made -/
theorem make_house {C : Ct} {aH : Addr} {W : Nat} {t : T 3} {E : XK} {σ : L2.St} {H : Hp} {Q : VK} {k3 k4 : Nat} (S : SR C nm σ H) (n3 : nm[k3]? = some (some (.val (.i (W : Int))))) (n4 : nm[k4]? = some (some (.val (encT 3 t)))) (w1 : 1 ≤ W) (w4 : W ≤ 4) (good : GoodT W 3 (ones W) t)
    (q : ∀ x H', Ex H H' → HouseAt C.K aH H' x W 3 t → Q (.ref x) H') : tMake aH (spHouse C.K aH 3) [] E (tCons (tVar k3) (tCons (tVar k4) tNil)) σ H Q := by
  obtain ⟨v3, a3, e3⟩ := S.val n3
  obtain ⟨v4, a4, e4⟩ := S.val n4
  have e3 : v3 = .int (W : Int) := e3
  subst e3
  refine ⟨_, a3, _, a4, fun x dx hx hdx hne => ?_⟩
  have x1 : Ex H (upd H dx (.own x)) := Ex.new hdx
  have hx1 : upd H dx (.own x) x = none := by rw [upd_ne hne.symm]; exact hx
  have x2 : Ex (upd H dx (.own x)) (upd (upd H dx (.own x)) x (.ins aH dx [])) := Ex.new hx1
  refine ⟨W, t, x, dx, .cons rfl (.cons rfl (.cons ((e4.to x1.fx).to x2.fx) .nil)), upd_same, w1, w4, good, fun H' keep hh => ⟨rfl, q x H' (Ex.of fun a o e => keep a o (ne_of_none e hx) (x2.keep (x1.keep e))) hh⟩⟩
theorem two_asg {tm te : TE} {u : TS} {g : TG} {Dd : Ends} {σ : L2.St} {H : Hp} (h : tm σ H fun x H1 => te σ H1 fun y H2 => [x, y].length ≤ sizeLine ∧ ∀ p, H2 p = none → g (.ref p) σ (upd H2 p (.tup [x, y])) fun σ' H' => u Dd σ' H') : tSeq (tAsg (tTup (tCons tm (tCons te tNil))) g) u Dd σ H := h
theorem esT_house {aH : Addr} {W : Nat} {t : T 3} {E : XK} {te : TE} {u : TS} {N : Nm → Prop} {Rt : D → Prop} (n3 : nm[3]? = some (some (.val (.i (W : Int))))) (n4 : nm[4]? = some (some (.val (encT 3 t)))) (w1 : 1 ≤ W) (w4 : W ≤ 4) (good : GoodT W 3 (ones W) t) (he : Ev (F.c n) nm te (Is (frs (ones W)))) (no : ∀ a : Addr, NoOwn ((nm.set 5 (some (.val (.sc (.ref a))))).set 6 (some (.val (frs (ones W))))))
    (hu : ∀ H a (hl : Le F.B F.H0 H), HouseAt F.K aH H a W 3 t → EsT (F.root H hl) n m ((nm.set 5 (some (.val (.sc (.ref a))))).set 6 (some (.val (frs (ones W))))) u N Rt) :
    EsT F n m nm (tSeq (tAsg (tTup (tCons (tMake aH (spHouse F.K aH 3) [] E (tCons (tVar 3) (tCons (tVar 4) tNil))) (tCons te tNil))) (gTup F.K 2 (gCons (gName 5) (gCons (gName 6) gNil)))) u) N Rt := fun σ H Dd S q r => by
  refine two_asg (make_house (C := F.c n) S n3 n4 w1 w4 good fun x H1 ex hh => ?_)
  have S1 := S.ex ex
  refine he σ H1 _ S1 fun v d H2 hd l2 i2 p2 => ?_
  have hd : d = _ := hd
  subst hd
  refine ⟨by show 2 ≤ sizeLine; decide, fun p hp => ?_⟩
  have x3 : Ex H2 (upd H2 p (.tup [.ref x, v])) := Ex.new hp
  have S3 := (S1.step l2 i2).ex x3
  have rp : Rep F.K (upd H2 p (.tup [.ref x, v])) (.tup [.sc (.ref x), frs (ones W)]) (.ref p) := ⟨p, _, rfl, .inl (.inl upd_same), .cons rfl (.cons (p2.to x3.fx) .nil)⟩
  refine eg_two (C := F.c n) σ _ (.ref p) _ S3 rp fun σ' S' _ _ => ?_
  have fx : Fx H (upd H2 p (.tup [.ref x, v])) := (ex.fx.trans l2.fx).trans x3.fx
  exact hu _ x S'.le ((hh.to l2.fx).to x3.fx) σ' _ Dd (sr_root S' (no x)) (fun nm' σ2 H' hn S2 f => q nm' σ2 H' hn (sr_unroot S2) (fx.trans f)) fun v' d' H' rd l i p => r v' d' H' rd (S'.le.trans l) i p
/-- house != House(..) -/
theorem et_house {C : Ct} {aH : Addr} {W : Nat} {t : T 3} {E : XK} {a : Addr} {k3 k4 k5 : Nat} (n3 : nm[k3]? = some (some (.val (.i (W : Int))))) (n4 : nm[k4]? = some (some (.val (encT 3 t)))) (n5 : nm[k5]? = some (some (.val (.sc (.ref a))))) (w1 : 1 ≤ W) (w4 : W ≤ 4) (good : GoodT W 3 (ones W) t) (hh : HouseAt C.K aH C.H0 a W 3 t) :
    Et C nm (tTest (tOp (rNeG (DIns aH (EqR C.K aH 3))) (tVar k5) (tMake aH (spHouse C.K aH 3) [] E (tCons (tVar k3) (tCons (tVar k4) tNil))))) false := fun σ H Q S q => by
  obtain ⟨v5, a5, e5⟩ := S.val n5
  have e5 : v5 = .ref a := e5
  subst e5
  refine ⟨_, a5, make_house S n3 n4 w1 w4 good fun x H1 ex h1 => ?_⟩
  have h0 := hh.to (S.le.fx.trans ex.fx)
  obtain ⟨dx, fs, tv, b1, _⟩ := id h0
  obtain ⟨dy, gs, ty, b2, _⟩ := id h1
  exact ⟨⟨a, x, dx, dy, fs, gs, rfl, rfl, b1, b2, W, t, h0, h1⟩, fun H' e => ⟨false, rfl, q H' ((ex.le).trans (Ex.le (Ex.of e))) (C.exI (C.exI S.inv ex) (Ex.of e))⟩⟩
end
end Q3
namespace Q3
open PySem PySem.Spec PyProof.Rows L2
open LamX NdefX
structure Cals (P : Program) (w : World) (K : PySem.W.Frag) (mg : Str → Option Value) (base : Heap) (aH P0 : Addr) : Prop where
  c__law_bag : C8.Cal P w K mg base 1 "_law_bag" (spBag K) []
  c__law_pick : C8.Cal P w K mg base 1 "_law_pick" (spPick K) []
  c__law_tree : C8.Cal P w K mg base 9 "_law_tree" (spTreeD K) []
  c_House : C8.Mak P w K mg base 13 "House" aH (spHouse K aH 3) []
  c_luck : C8.Cal P w K mg base 9 "luck" (spLuck K aH 3 fun x => fr (bestT guV 3 (ones x.W) x.t).1) []
  c_luckiest : C8.Cal P w K mg base 9 "luckiest" (spLuck K aH 3 fun x => (bestT guV 3 (ones x.W) x.t).2) []
  c__law_luck : C8.Cal P w K mg base 8 "_law_luck" (spLL K 3) []
  c__law_is_asker : C8.Cal P w K mg base 5 "_law_is_asker" (spIA K 3) []
  c__law_times : C8.Cal P w K mg base 3 "_law_times" (spTimes K) []
  c__law_got : C8.Cal P w K mg base 9 "_law_got" (spGot K 3) []
  c_worth : C8.Cal P w K mg base 13 "worth" (spBest K aH P0 lamQ 3 fun x => fr (bestV x).1) []
  c__law_shares : C8.Cal P w K mg base 3 "_law_shares" (spShares K) []
  c__law_gains : C8.Cal P w K mg base 3 "_law_gains" (spGains K) []
  c__law_most : C8.Cal P w K mg base 2 "_law_most" (spMost K) []
  c__law_deed : C8.Cal P w K mg base 5 "_law_deed" (spDeed K) []
  c__law_worth : C8.Cal P w K mg base 9 "_law_worth" (spLW K 3) []
  c_worth_unasked : C8.Cal P w K mg base 7 "worth_unasked" (spUnasked K) []
  c__law_below : C8.Cal P w K mg base 1 "_law_below" (spBelow K) []
section
variable {P : Program} {w : World} {K : PySem.W.Frag} {mg : Str → Option Value} {base : Heap} {aN aO aH P0 : Addr}
theorem ev_totest {C : Ct} {nm : Nm} {E : XK} {x : Rat × Rat} {t : TA} (h : Ea C nm t (fun es => es = [fr x.1, fr x.2])) (h1 : Sz 4000 x.1) (h2 : Sz 4000 x.2) : Ev C nm (tCall (spTimes C.K) [] E t) (Is (fr (x.1 * x.2))) := ev_P (enc := e2) (pre := Sz2) (out := fun x => fr (x.1 * x.2)) x h ⟨h1, h2⟩
abbrev hd7 (p b a : Addr) (i W : Nat) (t : T 3) (rest : Nm) : Nm := some (.val (.sc (.ref p))) :: some (.val (.sc (.ref b))) :: some (.val (.i (i : Int))) :: some (.val (.i (W : Int))) :: some (.val (encT 3 t)) :: some (.val (.sc (.ref a))) :: some (.val (frs (ones W))) :: rest
theorem frs_even {W : Nat} (h : 1 ≤ W) : D.tup (List.replicate W (.tup [.i 1, .i (W : Int)])) = frs (even W (eW W)) := by
  unfold frs even
  rw [List.map_replicate, fr_eW h]
theorem guess_snoc (W w i : Nat) : ((List.range (i + 1)).map fun j => if j = w then (1 : Rat) else 0) = ((List.range i).map fun j => if j = w then (1 : Rat) else 0) ++ [if i = w then 1 else 0] := by
  rw [List.range_succ, List.map_append]
  rfl
abbrev lawN : List Str := ["_law_script", "_law_bag_here", "_law_turn", "_law_worlds", "_law_tree_here", "_law_house", "_law_ones", "_law_due", "_law_even", "_law_guesses", "_law_world", "_law_one", "_law_best", "_law_most_here", "_law_again", "_law_prior", "_law_gains_here", "_law_unasked", "_law_deed_here", "_law_got_here"]
theorem law_body (c : Cals P w K mg base aH P0) (T0 : Txt K mg aN aO aH) (hk : HouK K mg aH) (d_is : Df K mg "_law_is" s__law_is ["_law_found", "_law_due"]) {f : Addr} {cdv : Value} {A : Around} {outer : List Env} {s : Shared} {H : Hp} {E : XK} (hr : Room 14 (A.deeper (envOfC "law" (C8.fnScope s_law) s.heap.objs.size f cdv))) (hgd : A.guards = some [])
    {p : Addr} {xs : List Int} (hl : SqL K H p (xs.map V.int)) (h63 : xs.length ≤ 63) (tb : TabS H P0 lamQ) {Q : VK} (q : ∀ H', Q (.bl true) H') :
    ∃ t, PSs (cxOf C8.CX0 P w K mg base lawN "law" (C8.fnScope s_law) f cdv A outer s H E).nox (C8.fnBody s_law) t ∧ t { nx := fun _ H' => Q .non H', rt := Q } (L2.start lawN [.ref p]) H := by
  obtain ⟨c__law_bag, c__law_pick, c__law_tree, c_House, c_luck, c_luckiest, c__law_luck, c__law_is_asker, c__law_times, c__law_got, c_worth, c__law_shares, c__law_gains, c__law_most, c__law_deed, c__law_worth, c_worth_unasked, c__law_below⟩ := c
  obtain ⟨fE, fdE, FE, bE, eE, eF⟩ := fn_House_eq (P := P) (w := w) (base := base) (r := 3) (Nat.le_refl _) T0 hk
  have T := T0
  refine ⟨_, (pss_cons (ps_set (i := 1) sc_law.nd rfl (Or.inl rfl) (C8.pe_c c__law_bag hr (by decide) rfl (pa_cons (pv 0) pa_nil)))
      (pss_cons (ps_for PassesOwn.never rfl (pi_range1 (by rfl) T.rangeZ (pa_cons pe_int pa_nil)) (pg_name (i := 2) sc_law.nd rfl (Or.inl rfl)) (pss_cons (ps_set (i := 3) sc_law.nd rfl (Or.inl rfl) (pe_op op_add pe_int (C8.pe_c c__law_pick hr (by decide) rfl (pa_cons (pv 1) (pa_cons pe_int pa_nil)))))
      (pss_cons (ps_set (i := 4) sc_law.nd rfl (Or.inl rfl) (pe_ifExp (PW.pt (pw_or (pt_cmpR op_gt (pv 2) pe_int (nomark _)) (pw_or1 (pt_cmpR op_gt (C8.pe_c c__law_pick hr (by decide) rfl (pa_cons (pv 1) (pa_cons pe_int pa_nil))) pe_int (nomark _))))) (C8.pe_c c__law_tree hr (by decide) rfl (pa_cons (pv 1) (pa_cons (pv 3) (pa_cons (pe_op op_add pe_int (C8.pe_c c__law_pick hr (by decide) rfl (pa_cons (pv 1) (pa_cons pe_int pa_nil)))) (pa_cons pe_int pa_nil))))) (pe_tup pa_nil)))
      (pss_cons (ps_asg (pe_tup (pa_cons (C8.pe_mk c_House hr (by decide) rfl (pa_cons (pv 3) (pa_cons (pv 4) pa_nil))) (pa_cons (pe_op (kRep (K := K) rfl) (pe_tup (pa_cons (pe_tup (pa_cons pe_int (pa_cons pe_int pa_nil))) pa_nil)) (pv 3)) pa_nil))) (kTg (K := K) rfl rfl (pgs_cons (pg_name (i := 5) sc_law.nd rfl (Or.inl rfl)) (pgs_cons (pg_name (i := 6) sc_law.nd rfl (Or.inr rfl)) pgs_nil))))
      (pss_cons (ps_set (i := 7) sc_law.nd rfl (Or.inl rfl) (C8.pe_c c__law_luck hr (by decide) rfl (pa_cons (pv 6) (pa_cons (pv 4) pa_nil))))
      (pss_cons (ps_if (pt_not (pt_val (pe_is T d_is (hr.mono (by decide)) hgd rfl (pa_cons (C8.pe_c c_luck hr (by decide) rfl (pa_cons (pv 5) pa_nil)) (pa_cons (pv 7) pa_nil))))) (pss_one (ps_ret pe_bl)) pss_nil)
      (pss_cons (ps_set (i := 8) sc_law.nd rfl (Or.inl rfl) (pe_op (kRep (K := K) rfl) (pe_tup (pa_cons (pe_tup (pa_cons pe_int (pa_cons (pv 3) pa_nil))) pa_nil)) (pv 3)))
      (pss_cons (ps_set (i := 9) sc_law.nd rfl (Or.inl rfl) (pe_lst pa_nil))
      (pss_cons (ps_for PassesOwn.never rfl (pi_range1 (by rfl) T.rangeZ (pa_cons (pv 3) pa_nil)) (pg_name (i := 10) sc_law.nd rfl (Or.inr rfl)) (pss_one (ps_expr (pe_bm PySem.F.plainAttrs_list PySem.F.slot_list_append PySem.F.type_list_append mt_append (pv 9) (pa_cons (pe_callTy (kTuple (K := K) rfl rfl) (by rfl) T.tupleZ (by decide +kernel) (pa_cons (pe_lc rfl sc_law.nd (own := [("_law_one", 11)]) (g := (gName 11)) (tt := tYes) (pi_range1 (by rfl) T.rangeZ (pa_cons (pv 3) pa_nil)) (blkOk_by (by kernel_rfl)) (fun _ _ _ _ _ => (pg_name (i := 11) sc_law.nd rfl (Or.inl rfl))) (fun _ _ _ _ _ => pts_nil) (fun _ _ _ _ _ => (pe_ifExp (pt_cmpR op_eq (pv 11) (pv 10) (nomark _)) (pe_tup (pa_cons pe_int (pa_cons pe_int pa_nil))) (pe_tup (pa_cons pe_int (pa_cons pe_int pa_nil)))))) pa_nil)) pa_nil)))))
      (pss_cons (ps_set (i := 12) sc_law.nd rfl (Or.inl rfl) (C8.pe_c c_luckiest hr (by decide) rfl (pa_cons (pv 5) pa_nil)))
      (pss_cons (ps_if (pt_not (pt_val (C8.pe_c c__law_is_asker hr (by decide) rfl (pa_cons (pv 4) (pa_cons (pv 3) (pa_cons (pv 12) pa_nil)))))) (pss_one (ps_ret pe_bl)) pss_nil)
      (pss_cons (ps_set (i := 13) sc_law.nd rfl (Or.inl rfl) (C8.pe_c c__law_times hr (by decide) rfl (pa_cons (pv 7) (pa_cons (pe_tup (pa_cons pe_int (pa_cons (pv 3) pa_nil))) pa_nil))))
      (pss_cons (ps_if (PW.pt (pw_or (pt_cmpR (kNeD (K := K) rfl (hu64 hr)) (C8.pe_c c__law_got hr (by decide) rfl (pa_cons (pv 8) (pa_cons (pv 9) (pa_cons (pv 6) (pa_cons (pv 4) (pa_cons (pv 12) pa_nil)))))) (pv 13) (nomark _)) (pw_or1 (pt_cmpR (kNeD (K := K) rfl (hu64 hr)) (C8.pe_c c_worth hr (by decide) rfl (pa_cons (pv 5) (pa_cons (pv 8) (pa_cons (pe_callTy (kTuple (K := K) rfl rfl) (by rfl) T.tupleZ (by decide +kernel) (pa_cons (pv 9) pa_nil)) pa_nil)))) (pv 13) (nomark _))))) (pss_one (ps_ret pe_bl)) pss_nil)
      (pss_cons (ps_for PassesOwn.never rfl (pi_range1 (by rfl) T.rangeZ (pa_cons pe_int pa_nil)) (pg_name (i := 14) sc_law.nd rfl (Or.inl rfl)) (pss_cons (ps_set (i := 15) sc_law.nd rfl (Or.inr rfl) (pe_callTy (kTuple (K := K) rfl rfl) (by rfl) T.tupleZ (by decide +kernel) (pa_cons (C8.pe_c c__law_shares hr (by decide) rfl (pa_cons (pv 1) (pa_cons (pv 3) (pa_cons (C8.pe_c c__law_pick hr (by decide) rfl (pa_cons (pv 1) (pa_cons pe_int pa_nil))) pa_nil)))) pa_nil)))
      (pss_cons (ps_set (i := 16) sc_law.nd rfl (Or.inl rfl) (C8.pe_c c__law_gains hr (by decide) rfl (pa_cons (pv 1) (pa_cons (pv 3) (pa_cons pe_int pa_nil)))))
      (pss_cons (ps_set (i := 17) sc_law.nd rfl (Or.inl rfl) (C8.pe_c c__law_most hr (by decide) rfl (pa_cons (pe_lc rfl sc_law.nd (own := [("_law_deed_here", 18)]) (g := (gName 18)) (tt := tYes) (kPiT (K := K) rfl (pv 16)) (blkOk_by (by kernel_rfl)) (fun _ _ _ _ _ => (pg_name (i := 18) sc_law.nd rfl (Or.inl rfl))) (fun _ _ _ _ _ => pts_nil) (fun _ _ _ _ _ => (C8.pe_c c__law_deed hr (by decide) rfl (pa_cons (pv 15) (pa_cons (pv 6) (pa_cons (pv 18) pa_nil)))))) pa_nil)))
      (pss_cons (ps_set (i := 19) sc_law.nd rfl (Or.inl rfl) (C8.pe_c c_worth hr (by decide) rfl (pa_cons (pv 5) (pa_cons (pv 15) (pa_cons (pv 16) pa_nil)))))
      (pss_cons (ps_if (PW.pt (pw_or (pt_cmpR (kNeD (K := K) rfl (hu64 hr)) (pv 19) (C8.pe_c c__law_worth hr (by decide) rfl (pa_cons (pv 15) (pa_cons (pv 16) (pa_cons (pv 6) (pa_cons (pv 4) pa_nil))))) (nomark _)) (pw_or1 (pt_cmpR (kNeD (K := K) rfl (hu64 hr)) (C8.pe_c c_worth_unasked hr (by decide) rfl (pa_cons (pv 15) (pa_cons (pv 16) pa_nil))) (pv 17) (nomark _))))) (pss_one (ps_ret pe_bl)) pss_nil)
      (pss_one (ps_if (pt_val (C8.pe_c c__law_below hr (by decide) rfl (pa_cons (C8.pe_c c__law_times hr (by decide) rfl (pa_cons (pv 7) (pa_cons (pv 17) pa_nil))) (pa_cons (pv 19) pa_nil)))) (pss_one (ps_ret pe_bl)) pss_nil))))))))
      (pss_one (ps_if (PW.pt (pw_or (pt_cmpR (kNeD (K := K) rfl (hu64 hr)) (C8.pe_c c_luck hr (by decide) rfl (pa_cons (pv 5) pa_nil)) (pv 7) (nomark _)) (pw_or1 (pt_cmpR (op_neH (E := C8.E0) FE hk.mro hk.ne eE eF bE C8.pass0 (hr.mono (by decide))) (pv 5) (C8.pe_mk c_House hr (by decide) rfl (pa_cons (pv 3) (pa_cons (pv 4) pa_nil))) (nomark _))))) (pss_one (ps_ret pe_bl)) pss_nil))))))))))))))))
      (pss_one (ps_ret pe_bl)))), ?_⟩
  clear T
  -- the bag
  refine seq_asg ⟨.ref p, rfl, p, xs, rfl, hl, h63, fun b g H1 ex hb0 hg0 bag => ?_⟩
  have tb1 : TabS H1 P0 lamQ := tb.ext fun b o e => ex.keep e
  have hF : LawFam (lawF K b g P0 H1 ⟨1, bag, tb1⟩) b g P0 := lawF_fam
  have fK : (lawF K b g P0 H1 ⟨1, bag, tb1⟩).K = K := rfl
  have fH : (lawF K b g P0 H1 ⟨1, bag, tb1⟩).H0 = H1 := rfl
  have i1 : (lawF K b g P0 H1 ⟨1, bag, tb1⟩).I 1 H1 := ⟨bag, tb1⟩
  generalize lawF K b g P0 H1 ⟨1, bag, tb1⟩ = F at hF fK fH i1
  subst fK
  let base20 : Nm := [some (.val (.sc (.ref p))), some (.val (.sc (.ref b))), none, none, none, none, none, none, none, none, none, none, none, none, none, none, none, none, none, none]
  have S1 : SR (F.c 1) base20 ((L2.start lawN [.ref p]).set 1 (some (.ref b))) H1 := by
    refine ⟨by show Le F.B F.H0 H1; rw [fH]; exact Le.refl _ _, i1, rfl, fun i e he => ?_⟩
    rcases i with _ | _ | i
    · cases he
      exact ⟨_, rfl, rfl⟩
    · cases he
      exact ⟨_, rfl, rfl⟩
    · exfalso
      have z : ([none, none, none, none, none, none, none, none, none, none, none, none, none, none, none, none, none, none] : Nm)[i]? = some (some e) := he
      have zz := List.mem_of_getElem? z
      simp at zz
  dsimp only
  refine (?_ : EsT F 1 (1 + 2700 * 4) base20 _ (fun _ => False) (Is (.b true))) _ H1 _ S1 (fun _ _ _ hn _ _ => hn.elim) fun v d H' rd l i rp => by
    have rd : d = _ := rd
    subst rd
    have rp : v = .bl true := rp
    rw [rp]
    exact q H'
  refine esT_seq (m := 1 + 2700 * 4) (N1 := fun _ => True) (esT_forR (m := 1) (c := 2700) (kmax := 4) (K0 := fun k => k = 4) ((Ea.T (ea_cons ev_c ea_nil)).imp fun ds hds => ⟨4, hds, Nat.le_refl _, rfl⟩) (by decide) (fun k i nm' => nm' = base20) (fun _ _ => rfl) (fun k i nm' hi hk4 hK hP => ?_) fun _ _ _ _ => trivial) (fun nm' _ => esT_ret (Ev.T ev_c)) (Nat.le_refl _)
  subst hP
  have hi3 : i ≤ 3 := by omega
  rw [show 1 + 2700 * (i + 1) = 1 + 2700 * i + 2700 by omega]
  have hn0 : 1 + 2700 * i ≤ 8101 := by omega
  generalize 1 + 2700 * i = n at hn0
  -- worlds
  refine esT_seq (m := n + 1) (N1 := fun nm' => ∃ W : Nat, 1 ≤ W ∧ W ≤ 4 ∧ nm' = [some (.val (.sc (.ref p))), some (.val (.sc (.ref b))), some (.val (.i (i : Int))), some (.val (.i (W : Int))), none, none, none, none, none, none, none, none, none, none, none, none, none, none, none, none])
    (esT_asg (R := fun d => ∃ z : Int, d = .i (1 + z) ∧ 0 ≤ z ∧ z < 4) (evT_op (Ra := Is (.i 1)) (Rb := fun d => ∃ z : Int, d = .i z ∧ 0 ≤ z ∧ z < 4) (Ev.T ev_c) (evT_pick hF.bag rfl (ev_c (v := .int 4)) (by decide) (by decide) (by omega)) fun x y hx hy => ?_) fun d hd => ?_) ?_ (by omega)
  · obtain ⟨z, rfl, z0, z1⟩ := hy
    have hx : x = _ := hx
    subst hx
    intro H1 vx vy Q1 l1 i1 p1 p2 q1
    exact ⟨1, z, p1, p2, q1 _ _ H1 ⟨z, rfl, z0, z1⟩ (Le.refl _ _) i1 rfl⟩
  · obtain ⟨z, rfl, z0, z1⟩ := hd
    have e : (1 + z) = (((1 + z).toNat : Nat) : Int) := (Int.toNat_of_nonneg (by omega)).symm
    exact ⟨(1 + z).toNat, by omega, by omega, by rw [← e]; rfl⟩
  rintro nm' ⟨W, w1, w4, rfl⟩
  -- tree
  refine esT_seq (m := n + 1 + 1 + 2501) (N1 := fun nm' => ∃ t : T 3, GoodT W 3 (ones W) t ∧ nm' = [some (.val (.sc (.ref p))), some (.val (.sc (.ref b))), some (.val (.i (i : Int))), some (.val (.i (W : Int))), some (.val (encT 3 t)), none, none, none, none, none, none, none, none, none, none, none, none, none, none, none])
    (esT_asg (R := fun d => ∃ t : T 3, d = encT 3 t ∧ GoodT W 3 (ones W) t) (evT_ifX (m := n + 1 + 1) (etXT_or (et_test (ev_b (ev_var rfl) (ev_c (v := .int 0)) rfl)) (etXT_gt (EvT.imp (evT_pick hF.bag rfl (ev_c (v := .int 3)) (by decide) (by decide) (by omega)) fun d hd => by obtain ⟨z, e, _⟩ := hd; exact ⟨z, e⟩)) (by omega)) (evT_tree hF.bag rfl rfl w1 w4 (by omega)) (EvT.up (Ev.T (Ev.imp (ev_tup (ds := []) ea_nil (by simp)) fun d hd => ?_)) (by omega))) fun d hd => ?_) ?_ (by omega)
  · exact ⟨([] : List (List (An 2))), hd, ⟨Nat.zero_le _, fun q hq => absurd (show q ∈ ([] : List (List (An 2))) from hq) (by simp)⟩⟩
  · obtain ⟨t, rfl, good⟩ := hd
    exact ⟨t, good, rfl⟩
  rintro nm' ⟨t, good, rfl⟩
  rw [show n + 2700 = n + 1 + 1 + 2501 + 197 by omega]
  generalize hn' : n + 1 + 1 + 2501 = n'
  have hn2 : n' ≤ 20000 := by omega
  clear hn' hn0 n
  have hone := ev_rep (C := F.c n') (nm := [some (.val (.sc (.ref p))), some (.val (.sc (.ref b))), some (.val (.i (i : Int))), some (.val (.i (W : Int))), some (.val (encT 3 t)), none, none, none, none, none, none, none, none, none, none, none, none, none, none, none]) (d := fr 1) (n := W) (ev_tup (ds := [fr 1]) (ea_cons (ev_tup (ds := [.i 1, .i 1]) (ea_cons (ev_c (v := .int 1)) (ea_cons (ev_c (v := .int 1)) ea_nil)) (by simp)) ea_nil) (by simp)) (ev_var (i := 3) rfl) w1 (by omega)
  rw [ones_frs] at hone
  refine esT_house (aH := aH) rfl rfl w1 w4 good hone (fun a j b' zs he => ?_) fun H2 a hl2 hh => ?_
  · rcases j with _ | _ | _ | _ | _ | _ | _ | j
    · cases he
    · cases he
    · cases he
    · cases he
    · cases he
    · cases he
    · cases he
    · have z : ([none, none, none, none, none, none, none, none, none, none, none, none, none] : Nm)[j]? = some (some (.own b' zs)) := he
      have zz := List.mem_of_getElem? z
      simp at zz
  have hF2 : LawFam (F.root H2 hl2) b g P0 := hF.root
  have hh2 : HouseAt (F.root H2 hl2).K aH (F.root H2 hl2).H0 a W 3 t := hh
  have gK : (F.root H2 hl2).K = F.K := rfl
  generalize F.root H2 hl2 = G at hF2 hh2 gK
  rw [← gK] at c__law_bag c__law_pick c__law_tree c_House c_luck c_luckiest c__law_luck c__law_is_asker c__law_times c__law_got c_worth c__law_shares c__law_gains c__law_most c__law_deed c__law_worth c_worth_unasked c__law_below
  rw [← gK]
  have wk := ones_wk W
  have gu := wk.gu w1 w4
  have allG : AllO GuOk 3 t := good_all (fun ws h => h.gu w1 w4) 3 (ones W) t good
  have hLs : Sz 430 (luck 3 (ones W) t) := luck_sz 3 (ones W) t gu allG
  have lok : LuckOk (⟨W, t⟩ : LuckIn 3) := ⟨w1, by show W ≤ 5; omega, allG⟩
  have hbg := bestT_guess 3 (ones W) t
  have hgets := best_gets w1 w4 3 (Nat.le_refl _) (ones W) (ones W) t wk good
  have hprior := even_prior w1 w4
  have hguess := guesses_ok w1 w4
  have hworth := turn_worth w1 w4 good
  have hWe := good_all (W := W) (ok := WeOk (even W (eW W)) (guesses W) W) (fun ws h => h.we hprior hguess.g) 3 (ones W) t good
  have hask := Gets.ask _ _ _ _ _ _ hgets
  have hLe : Sz 4000 (luck 3 (ones W) t * eW W) := (hLs.mul (eW_sz w1 w4)).mono (by decide)
  generalize hL : luck 3 (ones W) t = L at hLs hbg hworth hLe
  rw [hbg] at hgets
  have depf : ∀ q : Rat, dep (fr q) ≤ 64 := fun q => by rw [dep_fr]; decide
  have evL : ∀ (m : Nat) (rest : Nm), Ev (G.c m) (hd7 p b a i W t rest) (tCall (spLuck G.K aH 3 fun x => fr (bestT guV 3 (ones x.W) x.t).1) [] C8.E0 (tCons (tVar 5) tNil)) (Is (fr L)) := fun m rest => Ev.imp (ev_luck (C := G.c m) hh2 lok (ea_cons (ev_var rfl) ea_nil)) fun d hd => by
    have hd : d = _ := hd
    rw [hd]
    show fr (bestT guV 3 (ones W) t).1 = fr L
    rw [hbg]
  -- due
  refine esT_seq (m := n') (N1 := fun nm' => nm' = hd7 p b a i W t [some (.val (fr L)), none, none, none, none, none, none, none, none, none, none, none, none]) (Es.T (es_asg (ev_callF (R := Is (fr L)) (ea_cons (ev_var rfl) (ea_cons (ev_var rfl) ea_nil)) fun H3 vs3 Q3 l i p q => ⟨ones W, t, by rw [List.append_nil]; exact p, gu, allG, fun v H' e rv => q v _ H' rfl e.le (G.st _ _ _ i fun a o q _ => e.keep q) (by rw [hL] at rv; exact rv)⟩) rfl)) ?_ (by omega)
  rintro nm' rfl
  refine esT_seq (m := n') (N1 := fun nm' => nm' = hd7 p b a i W t [some (.val (fr L)), none, none, none, none, none, none, none, none, none, none, none, none]) (Es.T (es_if (b := false) (et_not (a := true) (et_val (ev_is (q := L) (ea_cons (evL n' _) (ea_cons (ev_var rfl) ea_nil)) hLs))) (fun z => nomatch z) fun _ => es_next rfl)) ?_ (by omega)
  rintro nm' rfl
  -- even
  have hev := ev_rep (C := G.c n') (nm := hd7 p b a i W t [some (.val (fr L)), none, none, none, none, none, none, none, none, none, none, none, none]) (d := .tup [.i 1, .i (W : Int)]) (n := W) (ev_tup (ds := [.tup [.i 1, .i (W : Int)]]) (ea_cons (ev_tup (ds := [.i 1, .i (W : Int)]) (ea_cons (ev_c (v := .int 1)) (ea_cons (ev_var (i := 3) rfl) ea_nil)) (by simp)) ea_nil) (by simp)) (ev_var (i := 3) rfl) w1 (by omega)
  rw [frs_even w1] at hev
  refine esT_seq (m := n') (N1 := fun nm' => nm' = hd7 p b a i W t [some (.val (fr L)), some (.val (frs (even W (eW W)))), none, none, none, none, none, none, none, none, none, none, none]) (Es.T (es_asg hev rfl)) ?_ (by omega)
  rintro nm' rfl
  refine esT_seq (m := n') (N1 := fun nm' => ∃ pg : Addr, nm' = hd7 p b a i W t [some (.val (fr L)), some (.val (frs (even W (eW W)))), some (.own pg []), none, none, none, none, none, none, none, none, none, none]) (Es.T (es_asgL (Rs := fun es => es = []) (el_lst ea_nil (by simp)) fun pg ds hds _ => ⟨pg, by rw [hds]; rfl⟩)) ?_ (by omega)
  rintro nm' ⟨pg, rfl⟩
  -- guesses
  refine esT_seq (m := n') (N1 := fun nm' => ∃ x : Option D, nm' = hd7 p b a i W t [some (.val (fr L)), some (.val (frs (even W (eW W)))), some (.own pg ((guesses W).map frs)), x.map Ent.val, none, none, none, none, none, none, none, none, none])
    (Es.T (es_for (ei_range (n := W) (ea_cons (ev_var rfl) ea_nil) (by omega)) (fun w nm' => w ≤ W ∧ ∃ x : Option D, nm' = hd7 p b a i W t [some (.val (fr L)), some (.val (frs (even W (eW W)))), some (.own pg (((guesses W).take w).map frs)), x.map Ent.val, none, none, none, none, none, none, none, none, none]) ⟨Nat.zero_le _, none, rfl⟩ (fun _ _ _ => trivial) (fun w d nm' hd hP => ?_) fun nm' hP => ?_)) ?_ (by omega)
  · obtain ⟨_, x, rfl⟩ := hP
    have hw : w < W := by
      have z := (List.getElem?_eq_some_iff.mp hd).1
      rw [List.length_map, List.length_range] at z
      exact z
    rw [range_at hw] at hd
    obtain rfl := Option.some.inj hd
    refine ⟨_, _, eg_name, es_app (a := pg) (ds := ((guesses W).take w).map frs) rfl (ev_tupL1 (ds := (guess W w).map fr) (el_lc (ei_range (n := W) (ea_cons (ev_var rfl) ea_nil) (by omega)) trivial (by rw [List.length_map, List.length_range]; omega) (fun j acc => acc = ((List.range j).map fun j => if j = w then (1 : Rat) else 0).map fr) rfl (fun j d acc hd hacc => ?_) fun acc hacc => by rw [hacc, List.length_map, List.length_range]; rfl)) ?_ ?_ fun d hd => ?_⟩
    · have hj : j < W := by
        have z := (List.getElem?_eq_some_iff.mp hd).1
        rw [List.length_map, List.length_range] at z
        exact z
      rw [range_at hj] at hd
      obtain rfl := Option.some.inj hd
      refine ⟨_, _, eg_name, by simp, Ev.imp (Ra := Is (fr (if j = w then 1 else 0))) (ev_if (b := decide ((j : Int) = (w : Int))) (et_test (ev_eqI (ev_var rfl) (ev_var rfl) rfl)) (fun hb => Ev.imp (ev_tup (ds := [.i 1, .i 1]) (ea_cons ev_c (ea_cons ev_c ea_nil)) (by simp)) fun e he => ?_) fun hb => Ev.imp (ev_tup (ds := [.i 0, .i 1]) (ea_cons ev_c (ea_cons ev_c ea_nil)) (by simp)) fun e he => ?_) fun e he => ?_⟩
      · have he : e = _ := he
        have hb := of_decide_eq_true hb
        rw [if_pos (by omega)]
        exact he
      · have he : e = _ := he
        have hb := of_decide_eq_false hb
        rw [if_neg (by omega)]
        exact he
      · have he : e = _ := he
        rw [hacc, he, guess_snoc W w j, List.map_append]
        rfl
    · rw [List.length_map, List.length_take]
      omega
    · intro j' b' zs hj' h
      rcases j' with _ | _ | _ | _ | _ | _ | _ | _ | _ | _ | _ | j'
      · cases h
      · cases h
      · cases h
      · cases h
      · cases h
      · cases h
      · cases h
      · cases h
      · cases h
      · exact absurd rfl hj'
      · cases h
      · have z : ([none, none, none, none, none, none, none, none, none] : Nm)[j']? = some (some (.own b' zs)) := h
        have zz := List.mem_of_getElem? z
        simp at zz
    · have hd : d = _ := hd
      refine ⟨hw, some (.i (w : Int)), ?_⟩
      rw [hd, List.take_add_one, guesses_at hw]
      show _ = hd7 p b a i W t [_, _, some (.own pg (((guesses W).take w ++ [guess W w]).map frs)), _, _, _, _, _, _, _, _, _, _]
      rw [List.map_append]
      rfl
  · obtain ⟨_, x, rfl⟩ := hP
    refine ⟨x, ?_⟩
    rw [List.length_map, List.length_range, List.take_of_length_le (by rw [guesses_len]; exact Nat.le_refl _)]
  rintro nm' ⟨x10, rfl⟩
  -- best
  refine esT_seq (m := n') (N1 := fun nm' => nm' = hd7 p b a i W t [some (.val (fr L)), some (.val (frs (even W (eW W)))), some (.own pg ((guesses W).map frs)), x10.map Ent.val, none, some (.val (bestT guV 3 (ones W) t).2), none, none, none, none, none, none, none]) (Es.T (es_asg (ev_luck (C := G.c n') (out := fun x => (bestT guV 3 (ones x.W) x.t).2) hh2 lok (ea_cons (ev_var rfl) ea_nil)) rfl)) ?_ (by omega)
  rintro nm' rfl
  refine esT_seq (m := n') (N1 := fun nm' => nm' = hd7 p b a i W t [some (.val (fr L)), some (.val (frs (even W (eW W)))), some (.own pg ((guesses W).map frs)), x10.map Ent.val, none, some (.val (bestT guV 3 (ones W) t).2), none, none, none, none, none, none, none]) (Es.T (es_if (b := false) (et_not (a := true) (et_val (ev_callF (R := Is (.b true)) (ea_cons (ev_var rfl) (ea_cons (ev_var rfl) (ea_cons (ev_var rfl) ea_nil))) fun H3 vs3 Q3 l i p q => ⟨W, t, _, by rw [List.append_nil]; exact p, by rw [guesses_len] at hask; exact hask, AllO.few 3 t allG, fun v H' e rv => q v _ H' rfl e.le (G.st _ _ _ i fun a o q _ => e.keep q) rv⟩))) (fun z => nomatch z) fun _ => es_next rfl)) ?_ (by omega)
  rintro nm' rfl
  -- most
  refine esT_seq (m := n') (N1 := fun nm' => nm' = hd7 p b a i W t [some (.val (fr L)), some (.val (frs (even W (eW W)))), some (.own pg ((guesses W).map frs)), x10.map Ent.val, none, some (.val (bestT guV 3 (ones W) t).2), some (.val (fr (L * eW W))), none, none, none, none, none, none]) (Es.T (es_asg (ev_totest (x := (L, eW W)) (ea_cons (ev_var rfl) (ea_cons (by rw [fr_eW w1]; exact ev_tup (ds := [.i 1, .i (W : Int)]) (ea_cons (ev_c (v := .int 1)) (ea_cons (ev_var (i := 3) rfl) ea_nil)) (by simp)) ea_nil)) (hLs.mono (by decide)) ((eW_sz w1 w4).mono (by decide))) rfl)) ?_ (by omega)
  rintro nm' rfl
  have hbo : BestOk (⟨W, t, even W (eW W), guesses W⟩ : BestIn 3) := ⟨hprior, hguess.g, hWe⟩
  have outW : ∀ (prior : List Rat) (gains : List (List Rat)), fr (bestV (⟨W, t, prior, gains⟩ : BestIn 3)).1 = fr (worth prior gains 3 (ones W) t) := fun prior gains => by
    show fr (bestT (laV prior gains) 3 (ones W) t).1 = _
    rw [bestT_worth]
  refine esT_seq (m := n') (N1 := fun nm' => nm' = hd7 p b a i W t [some (.val (fr L)), some (.val (frs (even W (eW W)))), some (.own pg ((guesses W).map frs)), x10.map Ent.val, none, some (.val (bestT guV 3 (ones W) t).2), some (.val (fr (L * eW W))), none, none, none, none, none, none])
    (Es.T (es_if (b := false) (et_or (a := false) (et_test (ev_neD (d := fr (L * eW W)) (ev_gotO (C := G.c n') (x := ⟨even W (eW W), guesses W, W⟩) rfl rfl rfl rfl rfl hgets) (ev_var rfl) (plain_fr _) (depf _))) (fun _ => et_test (ev_neD (d := fr (L * eW W)) (Ev.imp (ev_worth hF2 hh2 hbo (ea_cons (ev_var rfl) (ea_cons (ev_var rfl) (ea_cons (ev_tupO rfl) ea_nil)))) fun d hd => ?_) (ev_var rfl) (plain_fr _) (depf _))) rfl) (fun z => nomatch z) fun _ => es_next rfl)) ?_ (by omega)
  · have hd : d = _ := hd
    rw [hd]
    show fr (bestV (⟨W, t, even W (eW W), guesses W⟩ : BestIn 3)).1 = _
    rw [outW, hworth]
  rintro nm' rfl
  -- three times
  let A13 : Option D → Option D → Option D → Option D → Option D → Nm := fun x14 x15 x16 x17 x19 => hd7 p b a i W t [some (.val (fr L)), some (.val (frs (even W (eW W)))), some (.own pg ((guesses W).map frs)), x10.map Ent.val, none, some (.val (bestT guV 3 (ones W) t).2), some (.val (fr (L * eW W))), x14.map Ent.val, x15.map Ent.val, x16.map Ent.val, x17.map Ent.val, none, x19.map Ent.val]
  refine esT_seq (m := n' + 55 * 3) (N1 := fun nm' => ∃ x14 x15 x16 x17 x19, nm' = A13 x14 x15 x16 x17 x19)
    (esT_forR (m := n') (c := 55) (kmax := 3) (K0 := fun k => k = 3) ((Ea.T (ea_cons ev_c ea_nil)).imp fun ds hds => ⟨3, hds, Nat.le_refl _, rfl⟩) (by decide) (fun k j nm' => ∃ x14 x15 x16 x17 x19, nm' = A13 x14 x15 x16 x17 x19) (fun _ _ => ⟨none, none, none, none, none, rfl⟩) (fun k j nm' hj hk3 hK hP => ?_) fun k nm' _ hP => hP) ?_ (by omega)
  · obtain ⟨x14, x15, x16, x17, x19, rfl⟩ := hP
    rw [show n' + 55 * (j + 1) = n' + 55 * j + 6 + 49 by omega]
    have hm : n' + 55 * j ≤ 30000 := by omega
    generalize n' + 55 * j = m at hm
    -- a prior
    refine esT_seq (m := m + 6) (N1 := fun nm' => ∃ ss, ShOk W ss ∧ nm' = A13 (some (.i (j : Int))) (some (frs ss)) x16 x17 x19) (esT_asg (evT_shares hF2.bag rfl rfl w1 w4 (by omega)) fun d hd => ?_) ?_ (by omega)
    · obtain ⟨ss, rfl, sh⟩ := hd
      exact ⟨ss, sh, rfl⟩
    rintro nm' ⟨ss, sh, rfl⟩
    have hp : PriorOk W ss := ⟨sh.len, w4, w1, sh.nn, fun q hq => (sh.sz q hq).mono (by decide), sh.one⟩
    -- gains
    refine esT_seq (m := m + 6 + 49) (N1 := fun nm' => ∃ gs, GnOk W gs ∧ nm' = A13 (some (.i (j : Int))) (some (frs ss)) (some (gD gs)) x17 x19) (esT_asg (evT_gains hF2.bag rfl rfl w1 w4 (by omega)) fun d hd => ?_) ?_ (Nat.le_refl _)
    · obtain ⟨gs, rfl, ok⟩ := hd
      exact ⟨gs, ok, rfl⟩
    rintro nm' ⟨gs, hg, rfl⟩
    have hW : WOk ⟨ss, gs, ones W, W⟩ := wk.we hp hg.g
    have hWt := good_all (W := W) (ok := WeOk ss gs W) (fun ws h => h.we hp hg.g) 3 (ones W) t good
    have hvs : ∀ x ∈ gs.map (deed ss (ones W)), Sz 101 x := hW.vals
    have hne : gs.map (deed ss (ones W)) ≠ [] := hW.ne
    have hU : Sz 101 (mostL (gs.map (deed ss (ones W)))) := mostL_sz hvs (by decide)
    have hle := turn_le w1 good hp hg
    rw [hL] at hle
    have hwz : Sz 4000 (worth ss gs 3 (ones W) t) := (worth_sz 3 (ones W) t hW hWt).mono (by decide)
    generalize hm' : m + 6 + 49 = m'
    -- unasked
    refine esT_seq (m := m') (N1 := fun nm' => nm' = A13 (some (.i (j : Int))) (some (frs ss)) (some (gD gs)) (some (fr (mostL (gs.map (deed ss (ones W)))))) x19) (Es.T (es_asg (ev_Q (enc := fun x : NL => x.2.map fr) (pre := NMok) (out := fun x => fr (mostL x.2)) (101, gs.map (deed ss (ones W))) (el_lc (ei_tup (ds := gs.map frs) (ev_var rfl)) trivial (by rw [List.length_map]; have := hg.g.few; omega) (fun i acc => acc = ((gs.take i).map (deed ss (ones W))).map fr) rfl (fun i d acc hd hacc => ?_) fun acc hacc => by rw [hacc, List.length_map, List.take_length]) ⟨hvs, by show 101 ≤ 4000; decide, hne⟩) rfl)) ?_ (Nat.le_refl _)
    · obtain ⟨g', hg', rfl⟩ := gD_at hd
      refine ⟨_, _, eg_name, by simp, (ev_deed ⟨ss, ones W, g', W⟩ (ea_cons (ev_var rfl) (ea_cons (ev_var rfl) (ea_cons (ev_var rfl) ea_nil))) (hW.deed (List.mem_of_getElem? hg'))).imp fun x hx => ?_⟩
      have hx : x = _ := hx
      rw [hacc, hx, take_snoc hg', List.map_append]
      rfl
    rintro nm' rfl
    -- the worth
    have hbo2 : BestOk (⟨W, t, ss, gs⟩ : BestIn 3) := ⟨hp, hg.g, hWt⟩
    refine esT_seq (m := m') (N1 := fun nm' => nm' = A13 (some (.i (j : Int))) (some (frs ss)) (some (gD gs)) (some (fr (mostL (gs.map (deed ss (ones W)))))) (some (fr (worth ss gs 3 (ones W) t)))) (Es.T (es_asg (Ev.imp (ev_worth hF2 hh2 hbo2 (ea_cons (ev_var rfl) (ea_cons (ev_var rfl) (ea_cons (ev_var rfl) ea_nil)))) fun d hd => ?_) rfl)) ?_ (Nat.le_refl _)
    · have hd : d = _ := hd
      rw [hd]
      exact outW ss gs
    rintro nm' rfl
    have hfr2 : UOk (⟨ss, gs, W⟩ : UIn) := ⟨hp, hg.g⟩
    refine esT_seq (m := m') (N1 := fun nm' => nm' = A13 (some (.i (j : Int))) (some (frs ss)) (some (gD gs)) (some (fr (mostL (gs.map (deed ss (ones W)))))) (some (fr (worth ss gs 3 (ones W) t))))
      (Es.T (es_if (b := false) (et_or (a := false) (et_test (ev_neD (d := fr (worth ss gs 3 (ones W) t)) (ev_var rfl) (ev_callF (R := Is (fr (worth ss gs 3 (ones W) t))) (ea_cons (ev_var rfl) (ea_cons (ev_var rfl) (ea_cons (ev_var rfl) (ea_cons (ev_var rfl) ea_nil)))) fun H3 vs3 Q3 l i p q => ⟨⟨ss, gs, W⟩, ones W, t, by rw [List.append_nil]; exact p, hW, hWt, fun v H' e rv => q v _ H' rfl e.le (G.st _ _ _ i fun a o q _ => e.keep q) rv⟩) (plain_fr _) (depf _)))
        (fun _ => et_test (ev_neD (d := fr (mostL (gs.map (deed ss (ones W))))) (ev_P (pre := UOk) (enc := fun x : UIn => [frs x.prior, gD x.gains]) (out := fun x => fr (mostL x.wi.vals)) ⟨ss, gs, W⟩ (ea_cons (ev_var rfl) (ea_cons (ev_var rfl) ea_nil)) hfr2) (ev_var rfl) (plain_fr _) (depf _))) rfl) (fun z => nomatch z) fun _ => es_next rfl)) ?_ (Nat.le_refl _)
    rintro nm' rfl
    -- the fifth fact
    refine Es.T (es_if (b := false) (et_val (ev_callF (ea_cons (ev_totest (x := (L, mostL (gs.map (deed ss (ones W))))) (ea_cons (ev_var rfl) (ea_cons (ev_var rfl) ea_nil)) (hLs.mono (by decide)) (hU.mono (by decide))) (ea_cons (ev_var (d := fr (worth ss gs 3 (ones W) t)) rfl) ea_nil)) fun H3 vs3 Q3 l i p q => ?_)) (fun z => nomatch z) fun _ => es_next ⟨_, _, _, _, _, rfl⟩)
    have hz : Sz 4000 (L * mostL (gs.map (deed ss (ones W)))) := (hLs.mul hU).mono (by decide)
    refine rc_P (C := G.c m') (enc := e2) (pre := Sz2) (out := fun x => .b (decide (x.1 < x.2))) (L * mostL (gs.map (deed ss (ones W))), worth ss gs 3 (ones W) t) ⟨hz, hwz⟩ H3 vs3 Q3 l i p fun v d H' hd => q v d H' ?_
    have hd : d = _ := hd
    rw [hd]
    show D.b (decide (L * mostL (gs.map (deed ss (ones W))) < worth ss gs 3 (ones W) t)) = .b false
    rw [decide_eq_false (Rat.not_lt.mpr hle)]
  rintro nm' ⟨x14, x15, x16, x17, x19, rfl⟩
  -- once more
  refine EsT.forget (EsT.up (m := n' + 55 * 3) (Es.T (es_if (b := false) (et_or (a := false) (et_test (ev_neD (d := fr L) (evL _ _) (ev_var rfl) (plain_fr _) (depf _))) (fun _ => et_house (C := G.c (n' + 55 * 3)) (k3 := 3) (k4 := 4) (k5 := 5) rfl rfl rfl w1 w4 good hh2) rfl) (fun z => nomatch z) fun _ => es_next ⟨rfl, fun j e he => ?_⟩)) (by omega))
  rcases j with _ | _ | j
  · exact he
  · exact he
  · exfalso
    have z : ([none, none, none, none, none, none, none, none, none, none, none, none, none, none, none, none, none, none] : Nm)[j]? = some (some e) := he
    have zz := List.mem_of_getElem? z
    simp at zz
end
end Q3
namespace Q3
open PySem PySem.Spec PyProof.Rows L2
structure Dfs (K : PySem.W.Frag) (mg : Str → Option Value) : Prop where
  d_is_integer : Df K mg "is_integer" s_is_integer ["thing"]
  d_is_within : Df K mg "is_within" s_is_within ["thing", "least", "most"]
  d_is_sized : Df K mg "is_sized" s_is_sized ["thing", "least", "most"]
  d_is_pair : Df K mg "is_pair" s_is_pair ["thing"]
  d_is_triple : Df K mg "is_triple" s_is_triple ["thing"]
  d_are_rising : Df K mg "are_rising" s_are_rising ["things"]
  d_divisor : Df K mg "divisor" s_divisor ["one", "other"]
  d_lowest : Df K mg "lowest" s_lowest ["top", "bottom"]
  d_plus : Df K mg "plus" s_plus ["one", "other"]
  d_times : Df K mg "times" s_times ["one", "other"]
  d_is_below : Df K mg "is_below" s_is_below ["one", "other"]
  d_greater : Df K mg "greater" s_greater ["one", "other"]
  d_total : Df K mg "total" s_total ["fractions"]
  d_is_fraction : Df K mg "is_fraction" s_is_fraction ["thing"]
  d_is_chance : Df K mg "is_chance" s_is_chance ["thing"]
  d_is_prior : Df K mg "is_prior" s_is_prior ["worlds", "thing"]
  d_are_gains : Df K mg "are_gains" s_are_gains ["worlds", "thing"]
  d_check_prior : Df K mg "check_prior" s_check_prior ["worlds", "thing"]
  d_check_gains : Df K mg "check_gains" s_check_gains ["worlds", "thing"]
  d_deed_gets : Df K mg "deed_gets" s_deed_gets ["prior", "weights", "deed"]
  d_best_at : Df K mg "best_at" s_best_at ["weights", "node", "stopping"]
  d_best_deed : Df K mg "best_deed" s_best_deed ["prior", "gains", "weights"]
  d_worth : Df K mg "worth" s_worth ["house", "prior", "gains"]
  d_worth_unasked : Df K mg "worth_unasked" s_worth_unasked ["prior", "gains"]
  d_guessing : Df K mg "guessing" s_guessing ["weights"]
  d_luck : Df K mg "luck" s_luck ["house"]
  d_luckiest : Df K mg "luckiest" s_luckiest ["house"]
  d_is_word : Df K mg "is_word" s_is_word ["thing"]
  d_is_answer : Df K mg "is_answer" s_is_answer ["worlds", "thing"]
  d_added_weights : Df K mg "added_weights" s_added_weights ["worlds", "question"]
  d_wrong_in_node : Df K mg "wrong_in_node" s_wrong_in_node ["worlds", "node", "ahead", "place"]
  d_wrong_in_question : Df K mg "wrong_in_question" s_wrong_in_question ["worlds", "question", "ahead", "place"]
  d_count_answers : Df K mg "count_answers" s_count_answers ["node"]
  d__law_bag : Df K mg "_law_bag" s__law_bag ["_law_script"]
  d__law_pick : Df K mg "_law_pick" s__law_pick ["_law_bag_here", "_law_many"]
  d__law_some : Df K mg "_law_some" s__law_some ["_law_bag_here", "_law_things"]
  d__law_common : Df K mg "_law_common" s__law_common ["_law_one", "_law_other"]
  d__law_low : Df K mg "_law_low" s__law_low ["_law_top", "_law_bottom"]
  d__law_plus : Df K mg "_law_plus" s__law_plus ["_law_one", "_law_other"]
  d__law_times : Df K mg "_law_times" s__law_times ["_law_one", "_law_other"]
  d__law_total : Df K mg "_law_total" s__law_total ["_law_parts"]
  d__law_below : Df K mg "_law_below" s__law_below ["_law_one", "_law_other"]
  d__law_shares : Df K mg "_law_shares" s__law_shares ["_law_bag_here", "_law_many", "_law_least"]
  d__law_question : Df K mg "_law_question" s__law_question ["_law_bag_here", "_law_worlds", "_law_ahead", "_law_rounds", "_law_left"]
  d__law_node : Df K mg "_law_node" s__law_node ["_law_bag_here", "_law_worlds", "_law_ahead", "_law_rounds", "_law_left"]
  d__law_tree : Df K mg "_law_tree" s__law_tree ["_law_bag_here", "_law_worlds", "_law_rounds", "_law_answers"]
  d__law_is : Df K mg "_law_is" s__law_is ["_law_found", "_law_due"]
  d__law_int : Df K mg "_law_int" s__law_int ["_law_thing", "_law_least", "_law_most_here"]
  d__law_gains : Df K mg "_law_gains" s__law_gains ["_law_bag_here", "_law_worlds", "_law_least"]
  d__law_deed : Df K mg "_law_deed" s__law_deed ["_law_prior", "_law_weights", "_law_deed_here"]
  d__law_most : Df K mg "_law_most" s__law_most ["_law_parts"]
  d__law_worth : Df K mg "_law_worth" s__law_worth ["_law_prior", "_law_gains_here", "_law_weights", "_law_node_here"]
  d__law_got : Df K mg "_law_got" s__law_got ["_law_prior", "_law_gains_here", "_law_weights", "_law_node_here", "_law_asker"]
  d__law_is_asker : Df K mg "_law_is_asker" s__law_is_asker ["_law_node_here", "_law_deeds", "_law_thing"]
  d__law_luck : Df K mg "_law_luck" s__law_luck ["_law_weights", "_law_node_here"]
section
variable {P : Program} {w : World} {K : PySem.W.Frag} {mg : Str → Option Value} {base : Heap} {aN aO aH P0 cB : Addr}
theorem cals_all (T : Txt K mg aN aO aH) (D : Dfs K mg) (hk : HouK K mg aH) (db : DfC K mg "best_of" s_best_of ["house", "prior", "gains"] cB) (TB : LamX.TabB base mg cB P0) : Cals P w K mg base aH P0 := by
  have c_is_integer := cal_is_integer (P := P) (w := w) (base := base) T D.d_is_integer
  have c_is_within := cal_is_within D.d_is_within c_is_integer
  have c_is_sized := cal_is_sized (P := P) (w := w) (base := base) T D.d_is_sized
  have c_is_pair := cal_is_pair (P := P) (w := w) (base := base) T D.d_is_pair
  have c_is_triple := cal_is_triple (P := P) (w := w) (base := base) T D.d_is_triple
  have c_divisor := cal_divisor (P := P) (w := w) (base := base) T D.d_divisor
  have c__law_common := cal_law_common (P := P) (w := w) (base := base) D.d__law_common
  have c_lowest := cal_lowest D.d_lowest c_divisor
  have c__law_low := cal_law_low T D.d__law_low c__law_common
  have c_plus := cal_plus D.d_plus c_lowest
  have c__law_plus := cal_law_plus D.d__law_plus c__law_low
  have c_times := cal_times D.d_times c_lowest
  have c__law_times := cal_law_times D.d__law_times c__law_low
  have c_is_below := cal_is_below (P := P) (w := w) (base := base) D.d_is_below
  have c__law_below := cal_law_below (P := P) (w := w) (base := base) D.d__law_below
  have c_greater := cal_greater D.d_greater c_is_below
  have c_total := cal_total T D.d_total c_plus
  have c_totalT := cal_totalT T D.d_total c_plus
  have c__law_total := cal_law_total D.d__law_total c__law_plus
  have c__law_most := cal_law_most D.d__law_most c__law_below
  have c_is_fraction := cal_is_fraction D.d_is_fraction c_is_pair c_is_integer c_divisor
  have c_is_chance := cal_is_chance D.d_is_chance c_is_fraction
  have c_deed_gets := cal_deed_gets T D.d_deed_gets c_total c_times
  have c__law_deed := cal_law_deed T D.d__law_deed c__law_total c__law_times
  have c_is_prior := cal_is_prior T D.d_is_prior c_is_sized c_is_chance c_totalT
  have c_are_gains := cal_are_gains T D.d_are_gains c_is_sized c_is_fraction
  have c_check_prior := cal_check_prior D.d_check_prior c_is_prior
  have c_check_gains := cal_check_gains D.d_check_gains c_are_gains
  have c_best_deed := cal_best_deed T D.d_best_deed c_deed_gets c_is_below
  have c_guessing := cal_guessing T D.d_guessing c_is_below
  have c_worth_unasked := cal_worth_unasked T D.d_worth_unasked c_is_sized c_check_prior c_check_gains c_deed_gets c_greater
  have c_best3 := best_trees T D.d_best_at c_best_deed c_total c_is_below 3 (Nat.le_refl _)
  have c_guess3 := guess_trees T D.d_best_at D.d_guessing c_guessing c_total c_is_below 3 (Nat.le_refl _)
  obtain ⟨fG, fdG, DG, _⟩ := D.d_guessing.ex
  have c_luck := cal_luck T hk.cls D.d_luck DG.mgf c_guess3
  have c_luckiest := cal_luckiest T hk.cls D.d_luckiest DG.mgf c_guess3
  have c_best_of := cal_best_of T hk.cls db TB c_check_prior c_check_gains c_best3
  have c_worth := cal_worth D.d_worth c_best_of
  have c__law_int := cal_law_int (P := P) (w := w) (base := base) T D.d__law_int
  have c__law_luck := cal_law_luck T D.d__law_luck c__law_total c__law_most 3 (by decide)
  have c__law_worth := cal_law_worth T D.d__law_worth c__law_total c__law_most c__law_deed 3 (by decide)
  have c__law_is_asker := cal_is_asker T D.d__law_is_asker c__law_int 3
  have c__law_got := cal_got T D.d__law_got c__law_total c__law_deed 3
  have c_is_word := cal_is_word T D.d_is_word c_is_within c_is_sized
  have c_is_answer := cal_is_answer T D.d_is_answer c_is_triple c_is_sized c_is_word c_is_chance
  have c_are_rising := cal_are_rising (P := P) (w := w) (base := base) T D.d_are_rising
  have c_wrong := cal_wrong T D.d_wrong_in_node D.d_wrong_in_question D.d_added_weights c_is_sized c_is_answer c_are_rising c_total 3 (by decide)
  have c_count := cal_count (P := P) (w := w) (base := base) T D.d_count_answers 3
  have c_House := cal_House (Nat.le_refl 3) T hk c_is_within c_wrong c_count
  have c__law_pick := cal_pick (P := P) (w := w) (base := base) T D.d__law_pick
  have c__law_some := cal_some T D.d__law_some c__law_pick
  have c__law_shares := cal_shares T D.d__law_shares c__law_pick c__law_low
  have c__law_gains := cal_gains T D.d__law_gains c__law_pick c__law_some c__law_low
  have n0 := cal_n0 (j := 2) (by decide) T D.d__law_node D.d__law_question c__law_pick
  have q0 := cal_q (by decide) T D.d__law_question c__law_pick c__law_some c__law_shares c__law_times n0
  have n1 := cal_n (by decide) T D.d__law_node c__law_pick q0
  have q1 := cal_q (by decide) T D.d__law_question c__law_pick c__law_some c__law_shares c__law_times n1
  have n2 := cal_n (by decide) T D.d__law_node c__law_pick q1
  have q2 := cal_q (by decide) T D.d__law_question c__law_pick c__law_some c__law_shares c__law_times n2
  have c__law_tree := cal_treeD (by decide) T D.d__law_tree c__law_pick q2
  exact ⟨cal_bag T D.d__law_bag, c__law_pick, c__law_tree, c_House, c_luck, c_luckiest, c__law_luck, c__law_is_asker, c__law_times, c__law_got, c_worth, c__law_shares, c__law_gains, c__law_most, c__law_deed, c__law_worth, c_worth_unasked, c__law_below⟩
end
end Q3
namespace Q3
open PySem PySem.Spec PyProof.Rows L2
open LamX
/-! the end: the law called at the top, its one table -/
theorem law_end {P : Program} {w : World} {K : PySem.W.Frag} {mg mb : Str → Option Value} {fa a c P0 : Addr} {s₁ : Shared} {vs : List Value} {ns : List Int} (KX : K.In s₁.heap) (hns : s₁.heap.Ns mainGlobals mg) (hb : s₁.heap.Ns builtinsNs mb) (hbb : ∀ x : Str, x ≠ "__name__" → mb x = bootBuiltins x) (hlim : s₁.heap.NoLimit) (hg : s₁.gens = #[])
    (hT : s₁.heap.get? P0 = some { cls := .none, data := .fields #[] }) (nT : K.lookup P0 = none) (C : PySem.W.CodeHd s₁.heap c P0)
    (hbm : ∃ (bm : Addr) (ob : Obj), mg "__builtins__" = some (.ref bm) ∧ bm ≠ builtinsNs ∧ s₁.heap.get? bm = some ob ∧ ob.cls = .type "module" ∧ ob.dict = some builtinsNs ∧ ob.data = .plain)
    (ha : s₁.heap.get? a = some { cls := .type "list", data := .seq vs.toArray }) (hi : IntsAre vs ns) (hl : ns.length ≤ sizeLine)
    (run : ∀ (base : Heap) (H : Hp), TabB base mg c P0 → Env0 P w K mg base callerA [] s₁ H → H P0 = some (.tbl #[]) → SqL K H a (ns.map V.int) → codeAny (model P w) callerA (.call (.ref fa) ⟨[.ref a], []⟩) (CR C8.CX0 [] P w H s₁ (fun v _ => v = .bl true) C8.E0) s₁) :
    codeAny (model P w) callerA (.call (.ref fa) ⟨[.ref a], []⟩) (fun r s' => r = .ok (.ret (.bool true)) ∧ OldK s₁.heap s'.heap ∧ s'.os = s₁.os ∧ AllBare s'.gens) s₁ := by
  have rv := vals_ints hi
  have lenV := hi.length
  have aP : a ≠ P0 := fun z => by
    rw [z, hT] at ha
    have q : Data.fields #[] = Data.seq vs.toArray _ := congrArg Obj.data (Option.some.inj ha)
    cases q
  -- the tracked: the table; the script, where it is not of the written part
  obtain ⟨H, hH⟩ : ∃ H : Hp, ∀ b, H b = if b = P0 then some (.tbl #[]) else if b = a ∧ K.lookup a = none then some (.frz { cls := .type "list", data := .seq vs.toArray } (.lst (ns.map V.int))) else none := ⟨_, fun _ => rfl⟩
  have hP : H P0 = some (.tbl #[]) := by rw [hH, if_pos rfl]
  have cases3 : ∀ b, (b = P0 ∧ H b = some (.tbl #[])) ∨ (b = a ∧ K.lookup a = none ∧ H b = some (.frz { cls := .type "list", data := .seq vs.toArray } (.lst (ns.map V.int)))) ∨ H b = none := fun b => by
    by_cases h1 : b = P0
    · exact .inl ⟨h1, by rw [h1]; exact hP⟩
    · by_cases h2 : b = a ∧ K.lookup a = none
      · exact .inr (.inl ⟨h2.1, h2.2, by rw [hH, if_neg h1, if_pos h2]⟩)
      · exact .inr (.inr (by rw [hH, if_neg h1, if_neg h2]))
  have other : ∀ b o, s₁.heap.get? b = some o → o.data ≠ .fields #[] → (∀ xs n, o.data ≠ .seq xs n) → H b = none := fun b o e h1 h2 => by
    rcases cases3 b with ⟨z, _⟩ | ⟨z, _, _⟩ | z
    · rw [z, hT] at e
      cases e
      exact absurd rfl h1
    · rw [z, ha] at e
      cases e
      exact absurd rfl (h2 _ _)
    · exact z
  have ofK : ∀ b o, K.lookup b = some o → H b = none := fun b o e => by
    rcases cases3 b with ⟨z, _⟩ | ⟨z, n, _⟩ | z
    · rw [z, nT] at e; cases e
    · rw [z, n] at e; cases e
    · exact z
  have base_of : ∀ {b : Addr} {o : Obj}, s₁.heap.get? b = some o → H b = none → (hidT s₁.heap H).get? b = some o := fun e n => hidT_get e n
  have nsB : ∀ {b : Addr} {m : Str → Option Value}, s₁.heap.Ns b m → (hidT s₁.heap H).Ns b m := fun {b m} ⟨o, es, ep, e, d, r⟩ => ⟨o, es, ep, base_of e (other b o e (fun z => by rw [d] at z; cases z) fun xs n z => by rw [d] at z; cases z), d, r⟩
  have hok : HOk P w H s₁.heap := fun b u e => by
    rcases cases3 b with ⟨z, h⟩ | ⟨z, _, h⟩ | h
    · rw [h] at e
      cases e
      rw [z]
      exact hT
    · rw [h] at e
      cases e
      rw [z]
      exact ⟨ha, by rw [List.length_map]; exact hl, vs, _, rv, ha⟩
    · rw [h] at e
      cases e
  have mod : L2.Mod K mg (hidT s₁.heap H) := ⟨fun b o e => base_of (KX b o e) (ofK b o e), nsB hns, ⟨mb, nsB hb, hbb⟩, let ⟨mc, h1, h2⟩ := hlim; ⟨mc, nsB h1, h2⟩⟩
  have tab : TabB (hidT s₁.heap H) mg c P0 := by
    refine ⟨?_, ?_, fun z => ?_⟩
    · obtain ⟨o, us, file, tf, flags, tg, inF, text, tt, e1, r1, r2, r3, rest⟩ := C
      refine ⟨o, us, file, tf, flags, tg, inF, text, tt, base_of e1 (other c o e1 (fun z => ?_) fun xs n z => ?_), r1, r2, r3, rest⟩
      · rw [r2] at z
        cases z
        simp at r3
      · rw [r2] at z
        cases z
    · obtain ⟨bm, ob, b1, b2, b3, b4, b5, b6⟩ := hbm
      refine ⟨bm, ob, b1, b2, fun q => ?_, fun q => ?_, base_of b3 (other bm ob b3 (fun z => ?_) fun xs n z => ?_), b4, b5, b6⟩
      · obtain ⟨o, es, ep, e, hd, _⟩ := hns
        rw [← q, b3] at e
        cases e
        rw [b6] at hd
        cases hd
      · rw [q, hT] at b3
        cases b3
        cases b6
      · rw [b6] at z; cases z
      · rw [b6] at z; cases z
    · obtain ⟨o, es, ep, e, hd, _⟩ := hns
      rw [z, hT] at e
      cases e
      cases hd
  have e0 : Env0 P w K mg (hidT s₁.heap H) callerA [] s₁ H := ⟨rfl, mod, fun b o e => of_hidT e, Nat.le_of_eq (hidT_size _ _), trivial, fun b hb => absurd (show b ∈ ([] : List Addr) from hb) (by simp), hok, .of_eq hg⟩
  have script : SqL K H a (ns.map V.int) := by
    cases hk : K.lookup a with
    | none => exact .inl (.inr ⟨_, by rw [hH, if_neg aP, if_pos ⟨rfl, hk⟩]⟩)
    | some o =>
      have e := KX a o hk
      rw [ha] at e
      cases e
      exact .inr ⟨_, vs.toArray, _, hk, rfl, rfl, rfl, by rw [List.size_toArray, lenV]; exact hl, by simpa using rv⟩
  refine codeAny_mono (run _ H tab e0 hP script) fun r s' h => ?_
  cases r with
  | error e => exact (show False from h).elim
  | ok fl =>
    cases fl with
    | next => exact False.elim h
    | brk => exact False.elim h
    | cont => exact False.elim h
    | ret u =>
      obtain ⟨v, H', os, bare, un, hok', r', q⟩ := h
      have q : v = .bl true := q
      subst q
      obtain rfl : u = Value.bool true := r'
      have stays : ∀ b o, b ≠ P0 → s₁.heap.get? b = some o → s'.heap.get? b = some o := fun b o nb e => by
        rcases cases3 b with ⟨z, _⟩ | ⟨z, _, h⟩ | h
        · exact absurd z nb
        · have e2 := (hok' b _ (un.frzs b _ _ h)).1
          rw [z, ha] at e
          cases e
          exact e2
        · exact un.keep b o e h (fun z => absurd (show b ∈ ([] : List Addr) from z) (by simp)) (by simp)
      obtain ⟨more, hm⟩ := un.tbls P0 #[] hP
      have hm' : s'.heap.get? P0 = some { cls := .none, data := .fields (#[] ++ more) } := hok' P0 _ hm
      refine ⟨rfl, ⟨fun b o e => ?_, fun b o e => ?_⟩, os, bare⟩
      · by_cases hb : b = P0
        · rw [hb] at e ⊢
          rw [hT] at e
          cases e
          exact .inr (.inl ⟨(C.tab hT).isCodeTable, rfl, #[], more, rfl, hm'⟩)
        · exact .inl (stays b o hb e)
      · by_cases hb : b = P0
        · rw [hb]
          exact ⟨_, hm'⟩
        · exact ⟨o, stays b o hb e⟩
/-- the law at the top -/
theorem law_at {P : Program} {w : World} {K : PySem.W.Frag} {mg : Str → Option Value} {base : Heap} {aN aO aH P0 cB fa a : Addr} {s : Shared} {H : Hp} {ns : List Int} (T : Txt K mg aN aO aH) (D : Dfs K mg) (hk : HouK K mg aH) (db : DfC K mg "best_of" s_best_of ["house", "prior", "gains"] cB)
    (dl : Df K mg "law" s_law ["_law_script"]) (hfa : mg "law" = some (.ref fa)) (hr : Room 15 callerA) (TB : TabB base mg cB P0) (e0 : Env0 P w K mg base callerA [] s H) (hP : H P0 = some (.tbl #[])) (hl : SqL K H a (ns.map V.int)) (h63 : ns.length ≤ 63) :
    codeAny (model P w) callerA (.call (.ref fa) ⟨[.ref a], []⟩) (CR C8.CX0 [] P w H s (fun v _ => v = .bl true) C8.E0) s := by
  have c := cals_all (P := P) (w := w) T D hk db TB
  obtain ⟨f, fd, DD, b⟩ := dl.ex
  obtain ⟨oc, od, dV, kV, doc, pm, an, cdv, ct, osl, rfl, lk, hcd⟩ := DD.fn.ex
  have ef : fa = f := by
    have z := DD.mgf
    rw [hfa] at z
    exact Value.ref.inj (Option.some.inj z)
  subst ef
  have KX : K.In s.heap := e0.mod.kin.keeps fun b o e => (e0.bs b o e).1
  refine run_ofS (k := 14) (N := lawN) (ps := ["_law_script"]) (us := [.ref a]) (vs := [.ref a]) lk hcd sc_law hr e0 (by
    have z := b s [.ref a] KX rfl
    exact z) (.cons rfl .nil) rfl fun hr' => ?_
  obtain ⟨t, ht, q⟩ := law_body c T hk D.d__law_is hr' rfl hl h63 (TabS.nil hP) (Q := fun v _ => v = .bl true) (E := C8.E0) (fun _ => rfl)
  exact ⟨t, ht.nox, q⟩
end Q3
namespace Q3
open PySem PySem.Spec PyProof.Rows L2
open LamX
theorem df_mk {K : PySem.W.Frag} {h : Heap} {mg : Str → Option Value} {x : Str} {st : Stmt} {ps : List Str} {f : Addr} {oc kV doc pm cd ct : Value} {od an : Option Addr} {sl : Array (Option Value)} (X : K.In h) (G : h.Ns mainGlobals mg) (a : PySem.W.nsIn K mainGlobals x = some (some (.ref f)))
    (l : K.lookup f = some ⟨oc, od, .func (PySem.W.fnOf x x (C8.fnArgs st) (C8.fnBody st) (C8.fnScope st) .none kV doc pm an cd ct), sl⟩) (c : PySem.W.codeIn K cd x = true) (k : PySem.W.keepIn K (.ref f) = true)
    (hb : ∀ (kV doc pm : Value) (an : Option Addr) (cdv ct : Value) (us : List Value), us.length = ps.length → bindArgs (PySem.W.fnOf x x (C8.fnArgs st) (C8.fnBody st) (C8.fnScope st) .none kV doc pm an cdv ct) ⟨us, []⟩ = pure (ps.zip us)) : Df K mg x st ps := by
  have F : C8.Fun K x x st f (PySem.W.fnOf x x (C8.fnArgs st) (C8.fnBody st) (C8.fnScope st) .none kV doc pm an cd ct) := ⟨oc, od, .none, kV, doc, pm, an, cd, ct, sl, rfl, l, c⟩
  exact ⟨f, _, ⟨F, PySem.W.mg_of X G a, k⟩, F.binds rfl hb⟩
structure AtTop (K : PySem.W.Frag) (mg : Str → Option Value) (h : Heap) (fa : Addr) : Prop where
  ex : ∃ aN aO aH cB P0 : Addr, Txt K mg aN aO aH ∧ Dfs K mg ∧ HouK K mg aH ∧ DfC K mg "best_of" s_best_of ["house", "prior", "gains"] cB ∧ Df K mg "law" s_law ["_law_script"] ∧ h.get? P0 = some { cls := .none, data := .fields #[] } ∧ K.lookup P0 = none ∧ PySem.W.CodeHd h cB P0
def BestTab (mg : Str → Option Value) (h : Heap) : Prop := ∃ (a : Addr) (o : Obj) (fd : FuncData) (c P : Addr), mg "best_of" = some (.ref a) ∧ h.get? a = some o ∧ o.data = .func fd ∧ fd.code = .ref c ∧ h.IsCode c P #[] ∧ h.TableAt c P #[]
theorem tup2 {K : PySem.W.Frag} {a : Addr} {n : Nat} {sl : Array (Option Value)} {i j : Int} {t u : Tok} (l : K.lookup a = some ⟨.type "tuple", none, .seq #[.int i t, .int j u] n, sl⟩) (H : Hp) : SqT K H a [.int i, .int j] :=
  .inr ⟨_, #[.int i t, .int j u], _, l, rfl, rfl, by show 2 ≤ sizeLine; decide, .cons ⟨_, rfl⟩ (.cons ⟨_, rfl⟩ .nil)⟩
theorem attop_mk {K : PySem.W.Frag} {h : Heap} {mg : Str → Option Value} {fa : Addr} (X : K.In h) (G : h.Ns mainGlobals mg) (bt : BestTab mg h) {f_isinteger : Addr} {oc_isinteger kV_isinteger dc_isinteger pm_isinteger cd_isinteger ct_isinteger : Value} {od_isinteger an_isinteger : Option Addr} {sl_isinteger : Array (Option Value)} {f_iswithin : Addr} {oc_iswithin kV_iswithin dc_iswithin pm_iswithin cd_iswithin ct_iswithin : Value} {od_iswithin an_iswithin : Option Addr} {sl_iswithin : Array (Option Value)} {f_issized : Addr} {oc_issized kV_issized dc_issized pm_issized cd_issized ct_issized : Value} {od_issized an_issized : Option Addr} {sl_issized : Array (Option Value)} {f_ispair : Addr} {oc_ispair kV_ispair dc_ispair pm_ispair cd_ispair ct_ispair : Value} {od_ispair an_ispair : Option Addr} {sl_ispair : Array (Option Value)} {f_istriple : Addr} {oc_istriple kV_istriple dc_istriple pm_istriple cd_istriple ct_istriple : Value} {od_istriple an_istriple : Option Addr} {sl_istriple : Array (Option Value)} {f_arerising : Addr} {oc_arerising kV_arerising dc_arerising pm_arerising cd_arerising ct_arerising : Value} {od_arerising an_arerising : Option Addr} {sl_arerising : Array (Option Value)} {f_divisor : Addr} {oc_divisor kV_divisor dc_divisor pm_divisor cd_divisor ct_divisor : Value} {od_divisor an_divisor : Option Addr} {sl_divisor : Array (Option Value)} {f_lowest : Addr} {oc_lowest kV_lowest dc_lowest pm_lowest cd_lowest ct_lowest : Value} {od_lowest an_lowest : Option Addr} {sl_lowest : Array (Option Value)} {f_plus : Addr} {oc_plus kV_plus dc_plus pm_plus cd_plus ct_plus : Value} {od_plus an_plus : Option Addr} {sl_plus : Array (Option Value)} {f_times : Addr} {oc_times kV_times dc_times pm_times cd_times ct_times : Value} {od_times an_times : Option Addr} {sl_times : Array (Option Value)} {f_isbelow : Addr} {oc_isbelow kV_isbelow dc_isbelow pm_isbelow cd_isbelow ct_isbelow : Value} {od_isbelow an_isbelow : Option Addr} {sl_isbelow : Array (Option Value)} {f_greater : Addr} {oc_greater kV_greater dc_greater pm_greater cd_greater ct_greater : Value} {od_greater an_greater : Option Addr} {sl_greater : Array (Option Value)} {f_total : Addr} {oc_total kV_total dc_total pm_total cd_total ct_total : Value} {od_total an_total : Option Addr} {sl_total : Array (Option Value)} {f_isfraction : Addr} {oc_isfraction kV_isfraction dc_isfraction pm_isfraction cd_isfraction ct_isfraction : Value} {od_isfraction an_isfraction : Option Addr} {sl_isfraction : Array (Option Value)} {f_ischance : Addr} {oc_ischance kV_ischance dc_ischance pm_ischance cd_ischance ct_ischance : Value} {od_ischance an_ischance : Option Addr} {sl_ischance : Array (Option Value)} {f_isprior : Addr} {oc_isprior kV_isprior dc_isprior pm_isprior cd_isprior ct_isprior : Value} {od_isprior an_isprior : Option Addr} {sl_isprior : Array (Option Value)} {f_aregains : Addr} {oc_aregains kV_aregains dc_aregains pm_aregains cd_aregains ct_aregains : Value} {od_aregains an_aregains : Option Addr} {sl_aregains : Array (Option Value)} {f_checkprior : Addr} {oc_checkprior kV_checkprior dc_checkprior pm_checkprior cd_checkprior ct_checkprior : Value} {od_checkprior an_checkprior : Option Addr} {sl_checkprior : Array (Option Value)} {f_checkgains : Addr} {oc_checkgains kV_checkgains dc_checkgains pm_checkgains cd_checkgains ct_checkgains : Value} {od_checkgains an_checkgains : Option Addr} {sl_checkgains : Array (Option Value)} {f_deedgets : Addr} {oc_deedgets kV_deedgets dc_deedgets pm_deedgets cd_deedgets ct_deedgets : Value} {od_deedgets an_deedgets : Option Addr} {sl_deedgets : Array (Option Value)} {f_bestat : Addr} {oc_bestat kV_bestat dc_bestat pm_bestat cd_bestat ct_bestat : Value} {od_bestat an_bestat : Option Addr} {sl_bestat : Array (Option Value)} {f_bestdeed : Addr} {oc_bestdeed kV_bestdeed dc_bestdeed pm_bestdeed cd_bestdeed ct_bestdeed : Value} {od_bestdeed an_bestdeed : Option Addr} {sl_bestdeed : Array (Option Value)} {f_worth : Addr} {oc_worth kV_worth dc_worth pm_worth cd_worth ct_worth : Value} {od_worth an_worth : Option Addr} {sl_worth : Array (Option Value)} {f_worthunasked : Addr} {oc_worthunasked kV_worthunasked dc_worthunasked pm_worthunasked cd_worthunasked ct_worthunasked : Value} {od_worthunasked an_worthunasked : Option Addr} {sl_worthunasked : Array (Option Value)} {f_guessing : Addr} {oc_guessing kV_guessing dc_guessing pm_guessing cd_guessing ct_guessing : Value} {od_guessing an_guessing : Option Addr} {sl_guessing : Array (Option Value)} {f_luck : Addr} {oc_luck kV_luck dc_luck pm_luck cd_luck ct_luck : Value} {od_luck an_luck : Option Addr} {sl_luck : Array (Option Value)} {f_luckiest : Addr} {oc_luckiest kV_luckiest dc_luckiest pm_luckiest cd_luckiest ct_luckiest : Value} {od_luckiest an_luckiest : Option Addr} {sl_luckiest : Array (Option Value)} {f_isword : Addr} {oc_isword kV_isword dc_isword pm_isword cd_isword ct_isword : Value} {od_isword an_isword : Option Addr} {sl_isword : Array (Option Value)} {f_isanswer : Addr} {oc_isanswer kV_isanswer dc_isanswer pm_isanswer cd_isanswer ct_isanswer : Value} {od_isanswer an_isanswer : Option Addr} {sl_isanswer : Array (Option Value)} {f_addedweights : Addr} {oc_addedweights kV_addedweights dc_addedweights pm_addedweights cd_addedweights ct_addedweights : Value} {od_addedweights an_addedweights : Option Addr} {sl_addedweights : Array (Option Value)} {f_wronginnode : Addr} {oc_wronginnode kV_wronginnode dc_wronginnode pm_wronginnode cd_wronginnode ct_wronginnode : Value} {od_wronginnode an_wronginnode : Option Addr} {sl_wronginnode : Array (Option Value)} {f_wronginquestion : Addr} {oc_wronginquestion kV_wronginquestion dc_wronginquestion pm_wronginquestion cd_wronginquestion ct_wronginquestion : Value} {od_wronginquestion an_wronginquestion : Option Addr} {sl_wronginquestion : Array (Option Value)} {f_countanswers : Addr} {oc_countanswers kV_countanswers dc_countanswers pm_countanswers cd_countanswers ct_countanswers : Value} {od_countanswers an_countanswers : Option Addr} {sl_countanswers : Array (Option Value)} {f_Lbag : Addr} {oc_Lbag kV_Lbag dc_Lbag pm_Lbag cd_Lbag ct_Lbag : Value} {od_Lbag an_Lbag : Option Addr} {sl_Lbag : Array (Option Value)} {f_Lpick : Addr} {oc_Lpick kV_Lpick dc_Lpick pm_Lpick cd_Lpick ct_Lpick : Value} {od_Lpick an_Lpick : Option Addr} {sl_Lpick : Array (Option Value)} {f_Lsome : Addr} {oc_Lsome kV_Lsome dc_Lsome pm_Lsome cd_Lsome ct_Lsome : Value} {od_Lsome an_Lsome : Option Addr} {sl_Lsome : Array (Option Value)} {f_Lcommon : Addr} {oc_Lcommon kV_Lcommon dc_Lcommon pm_Lcommon cd_Lcommon ct_Lcommon : Value} {od_Lcommon an_Lcommon : Option Addr} {sl_Lcommon : Array (Option Value)} {f_Llow : Addr} {oc_Llow kV_Llow dc_Llow pm_Llow cd_Llow ct_Llow : Value} {od_Llow an_Llow : Option Addr} {sl_Llow : Array (Option Value)} {f_Lplus : Addr} {oc_Lplus kV_Lplus dc_Lplus pm_Lplus cd_Lplus ct_Lplus : Value} {od_Lplus an_Lplus : Option Addr} {sl_Lplus : Array (Option Value)} {f_Ltimes : Addr} {oc_Ltimes kV_Ltimes dc_Ltimes pm_Ltimes cd_Ltimes ct_Ltimes : Value} {od_Ltimes an_Ltimes : Option Addr} {sl_Ltimes : Array (Option Value)} {f_Ltotal : Addr} {oc_Ltotal kV_Ltotal dc_Ltotal pm_Ltotal cd_Ltotal ct_Ltotal : Value} {od_Ltotal an_Ltotal : Option Addr} {sl_Ltotal : Array (Option Value)} {f_Lbelow : Addr} {oc_Lbelow kV_Lbelow dc_Lbelow pm_Lbelow cd_Lbelow ct_Lbelow : Value} {od_Lbelow an_Lbelow : Option Addr} {sl_Lbelow : Array (Option Value)} {f_Lshares : Addr} {oc_Lshares kV_Lshares dc_Lshares pm_Lshares cd_Lshares ct_Lshares : Value} {od_Lshares an_Lshares : Option Addr} {sl_Lshares : Array (Option Value)} {f_Lquestion : Addr} {oc_Lquestion kV_Lquestion dc_Lquestion pm_Lquestion cd_Lquestion ct_Lquestion : Value} {od_Lquestion an_Lquestion : Option Addr} {sl_Lquestion : Array (Option Value)} {f_Lnode : Addr} {oc_Lnode kV_Lnode dc_Lnode pm_Lnode cd_Lnode ct_Lnode : Value} {od_Lnode an_Lnode : Option Addr} {sl_Lnode : Array (Option Value)} {f_Ltree : Addr} {oc_Ltree kV_Ltree dc_Ltree pm_Ltree cd_Ltree ct_Ltree : Value} {od_Ltree an_Ltree : Option Addr} {sl_Ltree : Array (Option Value)} {f_Lis : Addr} {oc_Lis kV_Lis dc_Lis pm_Lis cd_Lis ct_Lis : Value} {od_Lis an_Lis : Option Addr} {sl_Lis : Array (Option Value)} {f_Lint : Addr} {oc_Lint kV_Lint dc_Lint pm_Lint cd_Lint ct_Lint : Value} {od_Lint an_Lint : Option Addr} {sl_Lint : Array (Option Value)} {f_Lgains : Addr} {oc_Lgains kV_Lgains dc_Lgains pm_Lgains cd_Lgains ct_Lgains : Value} {od_Lgains an_Lgains : Option Addr} {sl_Lgains : Array (Option Value)} {f_Ldeed : Addr} {oc_Ldeed kV_Ldeed dc_Ldeed pm_Ldeed cd_Ldeed ct_Ldeed : Value} {od_Ldeed an_Ldeed : Option Addr} {sl_Ldeed : Array (Option Value)} {f_Lmost : Addr} {oc_Lmost kV_Lmost dc_Lmost pm_Lmost cd_Lmost ct_Lmost : Value} {od_Lmost an_Lmost : Option Addr} {sl_Lmost : Array (Option Value)} {f_Lworth : Addr} {oc_Lworth kV_Lworth dc_Lworth pm_Lworth cd_Lworth ct_Lworth : Value} {od_Lworth an_Lworth : Option Addr} {sl_Lworth : Array (Option Value)} {f_Lgot : Addr} {oc_Lgot kV_Lgot dc_Lgot pm_Lgot cd_Lgot ct_Lgot : Value} {od_Lgot an_Lgot : Option Addr} {sl_Lgot : Array (Option Value)} {f_Lisasker : Addr} {oc_Lisasker kV_Lisasker dc_Lisasker pm_Lisasker cd_Lisasker ct_Lisasker : Value} {od_Lisasker an_Lisasker : Option Addr} {sl_Lisasker : Array (Option Value)} {f_Lluck : Addr} {oc_Lluck kV_Lluck dc_Lluck pm_Lluck cd_Lluck ct_Lluck : Value} {od_Lluck an_Lluck : Option Addr} {sl_Lluck : Array (Option Value)} {f_law : Addr} {oc_law kV_law dc_law pm_law cd_law ct_law : Value} {od_law an_law : Option Addr} {sl_law : Array (Option Value)} {f_B cB PB : Addr} {oc_B kV_B dc_B pm_B ct_B e_B : Value} {od_B an_B dd_B : Option Addr} {sl_B sl_C : Array (Option Value)} {vs_B : Array Value} {aH f_I f_E : Addr} {oc_I kV_I dc_I pm_I cd_I ct_I oc_E kV_E dc_E pm_E cd_E ct_E : Value} {od_I an_I od_E an_E : Option Addr} {sl_I sl_E : Array (Option Value)} {aN aO : Addr} {nN nO : Nat} {slN slO : Array (Option Value)} {tN1 tN2 tO1 tO2 t1 t2 t3 t4 t5 t6 t7 t8 : Tok}
    (a_isinteger : PySem.W.nsIn K mainGlobals "is_integer" = some (some (.ref f_isinteger)))
    (l_isinteger : K.lookup f_isinteger = some ⟨oc_isinteger, od_isinteger, .func (PySem.W.fnOf "is_integer" "is_integer" (C8.fnArgs s_is_integer) (C8.fnBody s_is_integer) (C8.fnScope s_is_integer) .none kV_isinteger dc_isinteger pm_isinteger an_isinteger cd_isinteger ct_isinteger), sl_isinteger⟩)
    (c_isinteger : PySem.W.codeIn K cd_isinteger "is_integer" = true)
    (k_isinteger : PySem.W.keepIn K (.ref f_isinteger) = true)
    (a_iswithin : PySem.W.nsIn K mainGlobals "is_within" = some (some (.ref f_iswithin)))
    (l_iswithin : K.lookup f_iswithin = some ⟨oc_iswithin, od_iswithin, .func (PySem.W.fnOf "is_within" "is_within" (C8.fnArgs s_is_within) (C8.fnBody s_is_within) (C8.fnScope s_is_within) .none kV_iswithin dc_iswithin pm_iswithin an_iswithin cd_iswithin ct_iswithin), sl_iswithin⟩)
    (c_iswithin : PySem.W.codeIn K cd_iswithin "is_within" = true)
    (k_iswithin : PySem.W.keepIn K (.ref f_iswithin) = true)
    (a_issized : PySem.W.nsIn K mainGlobals "is_sized" = some (some (.ref f_issized)))
    (l_issized : K.lookup f_issized = some ⟨oc_issized, od_issized, .func (PySem.W.fnOf "is_sized" "is_sized" (C8.fnArgs s_is_sized) (C8.fnBody s_is_sized) (C8.fnScope s_is_sized) .none kV_issized dc_issized pm_issized an_issized cd_issized ct_issized), sl_issized⟩)
    (c_issized : PySem.W.codeIn K cd_issized "is_sized" = true)
    (k_issized : PySem.W.keepIn K (.ref f_issized) = true)
    (a_ispair : PySem.W.nsIn K mainGlobals "is_pair" = some (some (.ref f_ispair)))
    (l_ispair : K.lookup f_ispair = some ⟨oc_ispair, od_ispair, .func (PySem.W.fnOf "is_pair" "is_pair" (C8.fnArgs s_is_pair) (C8.fnBody s_is_pair) (C8.fnScope s_is_pair) .none kV_ispair dc_ispair pm_ispair an_ispair cd_ispair ct_ispair), sl_ispair⟩)
    (c_ispair : PySem.W.codeIn K cd_ispair "is_pair" = true)
    (k_ispair : PySem.W.keepIn K (.ref f_ispair) = true)
    (a_istriple : PySem.W.nsIn K mainGlobals "is_triple" = some (some (.ref f_istriple)))
    (l_istriple : K.lookup f_istriple = some ⟨oc_istriple, od_istriple, .func (PySem.W.fnOf "is_triple" "is_triple" (C8.fnArgs s_is_triple) (C8.fnBody s_is_triple) (C8.fnScope s_is_triple) .none kV_istriple dc_istriple pm_istriple an_istriple cd_istriple ct_istriple), sl_istriple⟩)
    (c_istriple : PySem.W.codeIn K cd_istriple "is_triple" = true)
    (k_istriple : PySem.W.keepIn K (.ref f_istriple) = true)
    (a_arerising : PySem.W.nsIn K mainGlobals "are_rising" = some (some (.ref f_arerising)))
    (l_arerising : K.lookup f_arerising = some ⟨oc_arerising, od_arerising, .func (PySem.W.fnOf "are_rising" "are_rising" (C8.fnArgs s_are_rising) (C8.fnBody s_are_rising) (C8.fnScope s_are_rising) .none kV_arerising dc_arerising pm_arerising an_arerising cd_arerising ct_arerising), sl_arerising⟩)
    (c_arerising : PySem.W.codeIn K cd_arerising "are_rising" = true)
    (k_arerising : PySem.W.keepIn K (.ref f_arerising) = true)
    (a_divisor : PySem.W.nsIn K mainGlobals "divisor" = some (some (.ref f_divisor)))
    (l_divisor : K.lookup f_divisor = some ⟨oc_divisor, od_divisor, .func (PySem.W.fnOf "divisor" "divisor" (C8.fnArgs s_divisor) (C8.fnBody s_divisor) (C8.fnScope s_divisor) .none kV_divisor dc_divisor pm_divisor an_divisor cd_divisor ct_divisor), sl_divisor⟩)
    (c_divisor : PySem.W.codeIn K cd_divisor "divisor" = true)
    (k_divisor : PySem.W.keepIn K (.ref f_divisor) = true)
    (a_lowest : PySem.W.nsIn K mainGlobals "lowest" = some (some (.ref f_lowest)))
    (l_lowest : K.lookup f_lowest = some ⟨oc_lowest, od_lowest, .func (PySem.W.fnOf "lowest" "lowest" (C8.fnArgs s_lowest) (C8.fnBody s_lowest) (C8.fnScope s_lowest) .none kV_lowest dc_lowest pm_lowest an_lowest cd_lowest ct_lowest), sl_lowest⟩)
    (c_lowest : PySem.W.codeIn K cd_lowest "lowest" = true)
    (k_lowest : PySem.W.keepIn K (.ref f_lowest) = true)
    (a_plus : PySem.W.nsIn K mainGlobals "plus" = some (some (.ref f_plus)))
    (l_plus : K.lookup f_plus = some ⟨oc_plus, od_plus, .func (PySem.W.fnOf "plus" "plus" (C8.fnArgs s_plus) (C8.fnBody s_plus) (C8.fnScope s_plus) .none kV_plus dc_plus pm_plus an_plus cd_plus ct_plus), sl_plus⟩)
    (c_plus : PySem.W.codeIn K cd_plus "plus" = true)
    (k_plus : PySem.W.keepIn K (.ref f_plus) = true)
    (a_times : PySem.W.nsIn K mainGlobals "times" = some (some (.ref f_times)))
    (l_times : K.lookup f_times = some ⟨oc_times, od_times, .func (PySem.W.fnOf "times" "times" (C8.fnArgs s_times) (C8.fnBody s_times) (C8.fnScope s_times) .none kV_times dc_times pm_times an_times cd_times ct_times), sl_times⟩)
    (c_times : PySem.W.codeIn K cd_times "times" = true)
    (k_times : PySem.W.keepIn K (.ref f_times) = true)
    (a_isbelow : PySem.W.nsIn K mainGlobals "is_below" = some (some (.ref f_isbelow)))
    (l_isbelow : K.lookup f_isbelow = some ⟨oc_isbelow, od_isbelow, .func (PySem.W.fnOf "is_below" "is_below" (C8.fnArgs s_is_below) (C8.fnBody s_is_below) (C8.fnScope s_is_below) .none kV_isbelow dc_isbelow pm_isbelow an_isbelow cd_isbelow ct_isbelow), sl_isbelow⟩)
    (c_isbelow : PySem.W.codeIn K cd_isbelow "is_below" = true)
    (k_isbelow : PySem.W.keepIn K (.ref f_isbelow) = true)
    (a_greater : PySem.W.nsIn K mainGlobals "greater" = some (some (.ref f_greater)))
    (l_greater : K.lookup f_greater = some ⟨oc_greater, od_greater, .func (PySem.W.fnOf "greater" "greater" (C8.fnArgs s_greater) (C8.fnBody s_greater) (C8.fnScope s_greater) .none kV_greater dc_greater pm_greater an_greater cd_greater ct_greater), sl_greater⟩)
    (c_greater : PySem.W.codeIn K cd_greater "greater" = true)
    (k_greater : PySem.W.keepIn K (.ref f_greater) = true)
    (a_total : PySem.W.nsIn K mainGlobals "total" = some (some (.ref f_total)))
    (l_total : K.lookup f_total = some ⟨oc_total, od_total, .func (PySem.W.fnOf "total" "total" (C8.fnArgs s_total) (C8.fnBody s_total) (C8.fnScope s_total) .none kV_total dc_total pm_total an_total cd_total ct_total), sl_total⟩)
    (c_total : PySem.W.codeIn K cd_total "total" = true)
    (k_total : PySem.W.keepIn K (.ref f_total) = true)
    (a_isfraction : PySem.W.nsIn K mainGlobals "is_fraction" = some (some (.ref f_isfraction)))
    (l_isfraction : K.lookup f_isfraction = some ⟨oc_isfraction, od_isfraction, .func (PySem.W.fnOf "is_fraction" "is_fraction" (C8.fnArgs s_is_fraction) (C8.fnBody s_is_fraction) (C8.fnScope s_is_fraction) .none kV_isfraction dc_isfraction pm_isfraction an_isfraction cd_isfraction ct_isfraction), sl_isfraction⟩)
    (c_isfraction : PySem.W.codeIn K cd_isfraction "is_fraction" = true)
    (k_isfraction : PySem.W.keepIn K (.ref f_isfraction) = true)
    (a_ischance : PySem.W.nsIn K mainGlobals "is_chance" = some (some (.ref f_ischance)))
    (l_ischance : K.lookup f_ischance = some ⟨oc_ischance, od_ischance, .func (PySem.W.fnOf "is_chance" "is_chance" (C8.fnArgs s_is_chance) (C8.fnBody s_is_chance) (C8.fnScope s_is_chance) .none kV_ischance dc_ischance pm_ischance an_ischance cd_ischance ct_ischance), sl_ischance⟩)
    (c_ischance : PySem.W.codeIn K cd_ischance "is_chance" = true)
    (k_ischance : PySem.W.keepIn K (.ref f_ischance) = true)
    (a_isprior : PySem.W.nsIn K mainGlobals "is_prior" = some (some (.ref f_isprior)))
    (l_isprior : K.lookup f_isprior = some ⟨oc_isprior, od_isprior, .func (PySem.W.fnOf "is_prior" "is_prior" (C8.fnArgs s_is_prior) (C8.fnBody s_is_prior) (C8.fnScope s_is_prior) .none kV_isprior dc_isprior pm_isprior an_isprior cd_isprior ct_isprior), sl_isprior⟩)
    (c_isprior : PySem.W.codeIn K cd_isprior "is_prior" = true)
    (k_isprior : PySem.W.keepIn K (.ref f_isprior) = true)
    (a_aregains : PySem.W.nsIn K mainGlobals "are_gains" = some (some (.ref f_aregains)))
    (l_aregains : K.lookup f_aregains = some ⟨oc_aregains, od_aregains, .func (PySem.W.fnOf "are_gains" "are_gains" (C8.fnArgs s_are_gains) (C8.fnBody s_are_gains) (C8.fnScope s_are_gains) .none kV_aregains dc_aregains pm_aregains an_aregains cd_aregains ct_aregains), sl_aregains⟩)
    (c_aregains : PySem.W.codeIn K cd_aregains "are_gains" = true)
    (k_aregains : PySem.W.keepIn K (.ref f_aregains) = true)
    (a_checkprior : PySem.W.nsIn K mainGlobals "check_prior" = some (some (.ref f_checkprior)))
    (l_checkprior : K.lookup f_checkprior = some ⟨oc_checkprior, od_checkprior, .func (PySem.W.fnOf "check_prior" "check_prior" (C8.fnArgs s_check_prior) (C8.fnBody s_check_prior) (C8.fnScope s_check_prior) .none kV_checkprior dc_checkprior pm_checkprior an_checkprior cd_checkprior ct_checkprior), sl_checkprior⟩)
    (c_checkprior : PySem.W.codeIn K cd_checkprior "check_prior" = true)
    (k_checkprior : PySem.W.keepIn K (.ref f_checkprior) = true)
    (a_checkgains : PySem.W.nsIn K mainGlobals "check_gains" = some (some (.ref f_checkgains)))
    (l_checkgains : K.lookup f_checkgains = some ⟨oc_checkgains, od_checkgains, .func (PySem.W.fnOf "check_gains" "check_gains" (C8.fnArgs s_check_gains) (C8.fnBody s_check_gains) (C8.fnScope s_check_gains) .none kV_checkgains dc_checkgains pm_checkgains an_checkgains cd_checkgains ct_checkgains), sl_checkgains⟩)
    (c_checkgains : PySem.W.codeIn K cd_checkgains "check_gains" = true)
    (k_checkgains : PySem.W.keepIn K (.ref f_checkgains) = true)
    (a_deedgets : PySem.W.nsIn K mainGlobals "deed_gets" = some (some (.ref f_deedgets)))
    (l_deedgets : K.lookup f_deedgets = some ⟨oc_deedgets, od_deedgets, .func (PySem.W.fnOf "deed_gets" "deed_gets" (C8.fnArgs s_deed_gets) (C8.fnBody s_deed_gets) (C8.fnScope s_deed_gets) .none kV_deedgets dc_deedgets pm_deedgets an_deedgets cd_deedgets ct_deedgets), sl_deedgets⟩)
    (c_deedgets : PySem.W.codeIn K cd_deedgets "deed_gets" = true)
    (k_deedgets : PySem.W.keepIn K (.ref f_deedgets) = true)
    (a_bestat : PySem.W.nsIn K mainGlobals "best_at" = some (some (.ref f_bestat)))
    (l_bestat : K.lookup f_bestat = some ⟨oc_bestat, od_bestat, .func (PySem.W.fnOf "best_at" "best_at" (C8.fnArgs s_best_at) (C8.fnBody s_best_at) (C8.fnScope s_best_at) .none kV_bestat dc_bestat pm_bestat an_bestat cd_bestat ct_bestat), sl_bestat⟩)
    (c_bestat : PySem.W.codeIn K cd_bestat "best_at" = true)
    (k_bestat : PySem.W.keepIn K (.ref f_bestat) = true)
    (a_bestdeed : PySem.W.nsIn K mainGlobals "best_deed" = some (some (.ref f_bestdeed)))
    (l_bestdeed : K.lookup f_bestdeed = some ⟨oc_bestdeed, od_bestdeed, .func (PySem.W.fnOf "best_deed" "best_deed" (C8.fnArgs s_best_deed) (C8.fnBody s_best_deed) (C8.fnScope s_best_deed) .none kV_bestdeed dc_bestdeed pm_bestdeed an_bestdeed cd_bestdeed ct_bestdeed), sl_bestdeed⟩)
    (c_bestdeed : PySem.W.codeIn K cd_bestdeed "best_deed" = true)
    (k_bestdeed : PySem.W.keepIn K (.ref f_bestdeed) = true)
    (a_worth : PySem.W.nsIn K mainGlobals "worth" = some (some (.ref f_worth)))
    (l_worth : K.lookup f_worth = some ⟨oc_worth, od_worth, .func (PySem.W.fnOf "worth" "worth" (C8.fnArgs s_worth) (C8.fnBody s_worth) (C8.fnScope s_worth) .none kV_worth dc_worth pm_worth an_worth cd_worth ct_worth), sl_worth⟩)
    (c_worth : PySem.W.codeIn K cd_worth "worth" = true)
    (k_worth : PySem.W.keepIn K (.ref f_worth) = true)
    (a_worthunasked : PySem.W.nsIn K mainGlobals "worth_unasked" = some (some (.ref f_worthunasked)))
    (l_worthunasked : K.lookup f_worthunasked = some ⟨oc_worthunasked, od_worthunasked, .func (PySem.W.fnOf "worth_unasked" "worth_unasked" (C8.fnArgs s_worth_unasked) (C8.fnBody s_worth_unasked) (C8.fnScope s_worth_unasked) .none kV_worthunasked dc_worthunasked pm_worthunasked an_worthunasked cd_worthunasked ct_worthunasked), sl_worthunasked⟩)
    (c_worthunasked : PySem.W.codeIn K cd_worthunasked "worth_unasked" = true)
    (k_worthunasked : PySem.W.keepIn K (.ref f_worthunasked) = true)
    (a_guessing : PySem.W.nsIn K mainGlobals "guessing" = some (some (.ref f_guessing)))
    (l_guessing : K.lookup f_guessing = some ⟨oc_guessing, od_guessing, .func (PySem.W.fnOf "guessing" "guessing" (C8.fnArgs s_guessing) (C8.fnBody s_guessing) (C8.fnScope s_guessing) .none kV_guessing dc_guessing pm_guessing an_guessing cd_guessing ct_guessing), sl_guessing⟩)
    (c_guessing : PySem.W.codeIn K cd_guessing "guessing" = true)
    (k_guessing : PySem.W.keepIn K (.ref f_guessing) = true)
    (a_luck : PySem.W.nsIn K mainGlobals "luck" = some (some (.ref f_luck)))
    (l_luck : K.lookup f_luck = some ⟨oc_luck, od_luck, .func (PySem.W.fnOf "luck" "luck" (C8.fnArgs s_luck) (C8.fnBody s_luck) (C8.fnScope s_luck) .none kV_luck dc_luck pm_luck an_luck cd_luck ct_luck), sl_luck⟩)
    (c_luck : PySem.W.codeIn K cd_luck "luck" = true)
    (k_luck : PySem.W.keepIn K (.ref f_luck) = true)
    (a_luckiest : PySem.W.nsIn K mainGlobals "luckiest" = some (some (.ref f_luckiest)))
    (l_luckiest : K.lookup f_luckiest = some ⟨oc_luckiest, od_luckiest, .func (PySem.W.fnOf "luckiest" "luckiest" (C8.fnArgs s_luckiest) (C8.fnBody s_luckiest) (C8.fnScope s_luckiest) .none kV_luckiest dc_luckiest pm_luckiest an_luckiest cd_luckiest ct_luckiest), sl_luckiest⟩)
    (c_luckiest : PySem.W.codeIn K cd_luckiest "luckiest" = true)
    (k_luckiest : PySem.W.keepIn K (.ref f_luckiest) = true)
    (a_isword : PySem.W.nsIn K mainGlobals "is_word" = some (some (.ref f_isword)))
    (l_isword : K.lookup f_isword = some ⟨oc_isword, od_isword, .func (PySem.W.fnOf "is_word" "is_word" (C8.fnArgs s_is_word) (C8.fnBody s_is_word) (C8.fnScope s_is_word) .none kV_isword dc_isword pm_isword an_isword cd_isword ct_isword), sl_isword⟩)
    (c_isword : PySem.W.codeIn K cd_isword "is_word" = true)
    (k_isword : PySem.W.keepIn K (.ref f_isword) = true)
    (a_isanswer : PySem.W.nsIn K mainGlobals "is_answer" = some (some (.ref f_isanswer)))
    (l_isanswer : K.lookup f_isanswer = some ⟨oc_isanswer, od_isanswer, .func (PySem.W.fnOf "is_answer" "is_answer" (C8.fnArgs s_is_answer) (C8.fnBody s_is_answer) (C8.fnScope s_is_answer) .none kV_isanswer dc_isanswer pm_isanswer an_isanswer cd_isanswer ct_isanswer), sl_isanswer⟩)
    (c_isanswer : PySem.W.codeIn K cd_isanswer "is_answer" = true)
    (k_isanswer : PySem.W.keepIn K (.ref f_isanswer) = true)
    (a_addedweights : PySem.W.nsIn K mainGlobals "added_weights" = some (some (.ref f_addedweights)))
    (l_addedweights : K.lookup f_addedweights = some ⟨oc_addedweights, od_addedweights, .func (PySem.W.fnOf "added_weights" "added_weights" (C8.fnArgs s_added_weights) (C8.fnBody s_added_weights) (C8.fnScope s_added_weights) .none kV_addedweights dc_addedweights pm_addedweights an_addedweights cd_addedweights ct_addedweights), sl_addedweights⟩)
    (c_addedweights : PySem.W.codeIn K cd_addedweights "added_weights" = true)
    (k_addedweights : PySem.W.keepIn K (.ref f_addedweights) = true)
    (a_wronginnode : PySem.W.nsIn K mainGlobals "wrong_in_node" = some (some (.ref f_wronginnode)))
    (l_wronginnode : K.lookup f_wronginnode = some ⟨oc_wronginnode, od_wronginnode, .func (PySem.W.fnOf "wrong_in_node" "wrong_in_node" (C8.fnArgs s_wrong_in_node) (C8.fnBody s_wrong_in_node) (C8.fnScope s_wrong_in_node) .none kV_wronginnode dc_wronginnode pm_wronginnode an_wronginnode cd_wronginnode ct_wronginnode), sl_wronginnode⟩)
    (c_wronginnode : PySem.W.codeIn K cd_wronginnode "wrong_in_node" = true)
    (k_wronginnode : PySem.W.keepIn K (.ref f_wronginnode) = true)
    (a_wronginquestion : PySem.W.nsIn K mainGlobals "wrong_in_question" = some (some (.ref f_wronginquestion)))
    (l_wronginquestion : K.lookup f_wronginquestion = some ⟨oc_wronginquestion, od_wronginquestion, .func (PySem.W.fnOf "wrong_in_question" "wrong_in_question" (C8.fnArgs s_wrong_in_question) (C8.fnBody s_wrong_in_question) (C8.fnScope s_wrong_in_question) .none kV_wronginquestion dc_wronginquestion pm_wronginquestion an_wronginquestion cd_wronginquestion ct_wronginquestion), sl_wronginquestion⟩)
    (c_wronginquestion : PySem.W.codeIn K cd_wronginquestion "wrong_in_question" = true)
    (k_wronginquestion : PySem.W.keepIn K (.ref f_wronginquestion) = true)
    (a_countanswers : PySem.W.nsIn K mainGlobals "count_answers" = some (some (.ref f_countanswers)))
    (l_countanswers : K.lookup f_countanswers = some ⟨oc_countanswers, od_countanswers, .func (PySem.W.fnOf "count_answers" "count_answers" (C8.fnArgs s_count_answers) (C8.fnBody s_count_answers) (C8.fnScope s_count_answers) .none kV_countanswers dc_countanswers pm_countanswers an_countanswers cd_countanswers ct_countanswers), sl_countanswers⟩)
    (c_countanswers : PySem.W.codeIn K cd_countanswers "count_answers" = true)
    (k_countanswers : PySem.W.keepIn K (.ref f_countanswers) = true)
    (a_Lbag : PySem.W.nsIn K mainGlobals "_law_bag" = some (some (.ref f_Lbag)))
    (l_Lbag : K.lookup f_Lbag = some ⟨oc_Lbag, od_Lbag, .func (PySem.W.fnOf "_law_bag" "_law_bag" (C8.fnArgs s__law_bag) (C8.fnBody s__law_bag) (C8.fnScope s__law_bag) .none kV_Lbag dc_Lbag pm_Lbag an_Lbag cd_Lbag ct_Lbag), sl_Lbag⟩)
    (c_Lbag : PySem.W.codeIn K cd_Lbag "_law_bag" = true)
    (k_Lbag : PySem.W.keepIn K (.ref f_Lbag) = true)
    (a_Lpick : PySem.W.nsIn K mainGlobals "_law_pick" = some (some (.ref f_Lpick)))
    (l_Lpick : K.lookup f_Lpick = some ⟨oc_Lpick, od_Lpick, .func (PySem.W.fnOf "_law_pick" "_law_pick" (C8.fnArgs s__law_pick) (C8.fnBody s__law_pick) (C8.fnScope s__law_pick) .none kV_Lpick dc_Lpick pm_Lpick an_Lpick cd_Lpick ct_Lpick), sl_Lpick⟩)
    (c_Lpick : PySem.W.codeIn K cd_Lpick "_law_pick" = true)
    (k_Lpick : PySem.W.keepIn K (.ref f_Lpick) = true)
    (a_Lsome : PySem.W.nsIn K mainGlobals "_law_some" = some (some (.ref f_Lsome)))
    (l_Lsome : K.lookup f_Lsome = some ⟨oc_Lsome, od_Lsome, .func (PySem.W.fnOf "_law_some" "_law_some" (C8.fnArgs s__law_some) (C8.fnBody s__law_some) (C8.fnScope s__law_some) .none kV_Lsome dc_Lsome pm_Lsome an_Lsome cd_Lsome ct_Lsome), sl_Lsome⟩)
    (c_Lsome : PySem.W.codeIn K cd_Lsome "_law_some" = true)
    (k_Lsome : PySem.W.keepIn K (.ref f_Lsome) = true)
    (a_Lcommon : PySem.W.nsIn K mainGlobals "_law_common" = some (some (.ref f_Lcommon)))
    (l_Lcommon : K.lookup f_Lcommon = some ⟨oc_Lcommon, od_Lcommon, .func (PySem.W.fnOf "_law_common" "_law_common" (C8.fnArgs s__law_common) (C8.fnBody s__law_common) (C8.fnScope s__law_common) .none kV_Lcommon dc_Lcommon pm_Lcommon an_Lcommon cd_Lcommon ct_Lcommon), sl_Lcommon⟩)
    (c_Lcommon : PySem.W.codeIn K cd_Lcommon "_law_common" = true)
    (k_Lcommon : PySem.W.keepIn K (.ref f_Lcommon) = true)
    (a_Llow : PySem.W.nsIn K mainGlobals "_law_low" = some (some (.ref f_Llow)))
    (l_Llow : K.lookup f_Llow = some ⟨oc_Llow, od_Llow, .func (PySem.W.fnOf "_law_low" "_law_low" (C8.fnArgs s__law_low) (C8.fnBody s__law_low) (C8.fnScope s__law_low) .none kV_Llow dc_Llow pm_Llow an_Llow cd_Llow ct_Llow), sl_Llow⟩)
    (c_Llow : PySem.W.codeIn K cd_Llow "_law_low" = true)
    (k_Llow : PySem.W.keepIn K (.ref f_Llow) = true)
    (a_Lplus : PySem.W.nsIn K mainGlobals "_law_plus" = some (some (.ref f_Lplus)))
    (l_Lplus : K.lookup f_Lplus = some ⟨oc_Lplus, od_Lplus, .func (PySem.W.fnOf "_law_plus" "_law_plus" (C8.fnArgs s__law_plus) (C8.fnBody s__law_plus) (C8.fnScope s__law_plus) .none kV_Lplus dc_Lplus pm_Lplus an_Lplus cd_Lplus ct_Lplus), sl_Lplus⟩)
    (c_Lplus : PySem.W.codeIn K cd_Lplus "_law_plus" = true)
    (k_Lplus : PySem.W.keepIn K (.ref f_Lplus) = true)
    (a_Ltimes : PySem.W.nsIn K mainGlobals "_law_times" = some (some (.ref f_Ltimes)))
    (l_Ltimes : K.lookup f_Ltimes = some ⟨oc_Ltimes, od_Ltimes, .func (PySem.W.fnOf "_law_times" "_law_times" (C8.fnArgs s__law_times) (C8.fnBody s__law_times) (C8.fnScope s__law_times) .none kV_Ltimes dc_Ltimes pm_Ltimes an_Ltimes cd_Ltimes ct_Ltimes), sl_Ltimes⟩)
    (c_Ltimes : PySem.W.codeIn K cd_Ltimes "_law_times" = true)
    (k_Ltimes : PySem.W.keepIn K (.ref f_Ltimes) = true)
    (a_Ltotal : PySem.W.nsIn K mainGlobals "_law_total" = some (some (.ref f_Ltotal)))
    (l_Ltotal : K.lookup f_Ltotal = some ⟨oc_Ltotal, od_Ltotal, .func (PySem.W.fnOf "_law_total" "_law_total" (C8.fnArgs s__law_total) (C8.fnBody s__law_total) (C8.fnScope s__law_total) .none kV_Ltotal dc_Ltotal pm_Ltotal an_Ltotal cd_Ltotal ct_Ltotal), sl_Ltotal⟩)
    (c_Ltotal : PySem.W.codeIn K cd_Ltotal "_law_total" = true)
    (k_Ltotal : PySem.W.keepIn K (.ref f_Ltotal) = true)
    (a_Lbelow : PySem.W.nsIn K mainGlobals "_law_below" = some (some (.ref f_Lbelow)))
    (l_Lbelow : K.lookup f_Lbelow = some ⟨oc_Lbelow, od_Lbelow, .func (PySem.W.fnOf "_law_below" "_law_below" (C8.fnArgs s__law_below) (C8.fnBody s__law_below) (C8.fnScope s__law_below) .none kV_Lbelow dc_Lbelow pm_Lbelow an_Lbelow cd_Lbelow ct_Lbelow), sl_Lbelow⟩)
    (c_Lbelow : PySem.W.codeIn K cd_Lbelow "_law_below" = true)
    (k_Lbelow : PySem.W.keepIn K (.ref f_Lbelow) = true)
    (a_Lshares : PySem.W.nsIn K mainGlobals "_law_shares" = some (some (.ref f_Lshares)))
    (l_Lshares : K.lookup f_Lshares = some ⟨oc_Lshares, od_Lshares, .func (PySem.W.fnOf "_law_shares" "_law_shares" (C8.fnArgs s__law_shares) (C8.fnBody s__law_shares) (C8.fnScope s__law_shares) .none kV_Lshares dc_Lshares pm_Lshares an_Lshares cd_Lshares ct_Lshares), sl_Lshares⟩)
    (c_Lshares : PySem.W.codeIn K cd_Lshares "_law_shares" = true)
    (k_Lshares : PySem.W.keepIn K (.ref f_Lshares) = true)
    (a_Lquestion : PySem.W.nsIn K mainGlobals "_law_question" = some (some (.ref f_Lquestion)))
    (l_Lquestion : K.lookup f_Lquestion = some ⟨oc_Lquestion, od_Lquestion, .func (PySem.W.fnOf "_law_question" "_law_question" (C8.fnArgs s__law_question) (C8.fnBody s__law_question) (C8.fnScope s__law_question) .none kV_Lquestion dc_Lquestion pm_Lquestion an_Lquestion cd_Lquestion ct_Lquestion), sl_Lquestion⟩)
    (c_Lquestion : PySem.W.codeIn K cd_Lquestion "_law_question" = true)
    (k_Lquestion : PySem.W.keepIn K (.ref f_Lquestion) = true)
    (a_Lnode : PySem.W.nsIn K mainGlobals "_law_node" = some (some (.ref f_Lnode)))
    (l_Lnode : K.lookup f_Lnode = some ⟨oc_Lnode, od_Lnode, .func (PySem.W.fnOf "_law_node" "_law_node" (C8.fnArgs s__law_node) (C8.fnBody s__law_node) (C8.fnScope s__law_node) .none kV_Lnode dc_Lnode pm_Lnode an_Lnode cd_Lnode ct_Lnode), sl_Lnode⟩)
    (c_Lnode : PySem.W.codeIn K cd_Lnode "_law_node" = true)
    (k_Lnode : PySem.W.keepIn K (.ref f_Lnode) = true)
    (a_Ltree : PySem.W.nsIn K mainGlobals "_law_tree" = some (some (.ref f_Ltree)))
    (l_Ltree : K.lookup f_Ltree = some ⟨oc_Ltree, od_Ltree, .func (PySem.W.fnOf "_law_tree" "_law_tree" (C8.fnArgs s__law_tree) (C8.fnBody s__law_tree) (C8.fnScope s__law_tree) .none kV_Ltree dc_Ltree pm_Ltree an_Ltree cd_Ltree ct_Ltree), sl_Ltree⟩)
    (c_Ltree : PySem.W.codeIn K cd_Ltree "_law_tree" = true)
    (k_Ltree : PySem.W.keepIn K (.ref f_Ltree) = true)
    (a_Lis : PySem.W.nsIn K mainGlobals "_law_is" = some (some (.ref f_Lis)))
    (l_Lis : K.lookup f_Lis = some ⟨oc_Lis, od_Lis, .func (PySem.W.fnOf "_law_is" "_law_is" (C8.fnArgs s__law_is) (C8.fnBody s__law_is) (C8.fnScope s__law_is) .none kV_Lis dc_Lis pm_Lis an_Lis cd_Lis ct_Lis), sl_Lis⟩)
    (c_Lis : PySem.W.codeIn K cd_Lis "_law_is" = true)
    (k_Lis : PySem.W.keepIn K (.ref f_Lis) = true)
    (a_Lint : PySem.W.nsIn K mainGlobals "_law_int" = some (some (.ref f_Lint)))
    (l_Lint : K.lookup f_Lint = some ⟨oc_Lint, od_Lint, .func (PySem.W.fnOf "_law_int" "_law_int" (C8.fnArgs s__law_int) (C8.fnBody s__law_int) (C8.fnScope s__law_int) .none kV_Lint dc_Lint pm_Lint an_Lint cd_Lint ct_Lint), sl_Lint⟩)
    (c_Lint : PySem.W.codeIn K cd_Lint "_law_int" = true)
    (k_Lint : PySem.W.keepIn K (.ref f_Lint) = true)
    (a_Lgains : PySem.W.nsIn K mainGlobals "_law_gains" = some (some (.ref f_Lgains)))
    (l_Lgains : K.lookup f_Lgains = some ⟨oc_Lgains, od_Lgains, .func (PySem.W.fnOf "_law_gains" "_law_gains" (C8.fnArgs s__law_gains) (C8.fnBody s__law_gains) (C8.fnScope s__law_gains) .none kV_Lgains dc_Lgains pm_Lgains an_Lgains cd_Lgains ct_Lgains), sl_Lgains⟩)
    (c_Lgains : PySem.W.codeIn K cd_Lgains "_law_gains" = true)
    (k_Lgains : PySem.W.keepIn K (.ref f_Lgains) = true)
    (a_Ldeed : PySem.W.nsIn K mainGlobals "_law_deed" = some (some (.ref f_Ldeed)))
    (l_Ldeed : K.lookup f_Ldeed = some ⟨oc_Ldeed, od_Ldeed, .func (PySem.W.fnOf "_law_deed" "_law_deed" (C8.fnArgs s__law_deed) (C8.fnBody s__law_deed) (C8.fnScope s__law_deed) .none kV_Ldeed dc_Ldeed pm_Ldeed an_Ldeed cd_Ldeed ct_Ldeed), sl_Ldeed⟩)
    (c_Ldeed : PySem.W.codeIn K cd_Ldeed "_law_deed" = true)
    (k_Ldeed : PySem.W.keepIn K (.ref f_Ldeed) = true)
    (a_Lmost : PySem.W.nsIn K mainGlobals "_law_most" = some (some (.ref f_Lmost)))
    (l_Lmost : K.lookup f_Lmost = some ⟨oc_Lmost, od_Lmost, .func (PySem.W.fnOf "_law_most" "_law_most" (C8.fnArgs s__law_most) (C8.fnBody s__law_most) (C8.fnScope s__law_most) .none kV_Lmost dc_Lmost pm_Lmost an_Lmost cd_Lmost ct_Lmost), sl_Lmost⟩)
    (c_Lmost : PySem.W.codeIn K cd_Lmost "_law_most" = true)
    (k_Lmost : PySem.W.keepIn K (.ref f_Lmost) = true)
    (a_Lworth : PySem.W.nsIn K mainGlobals "_law_worth" = some (some (.ref f_Lworth)))
    (l_Lworth : K.lookup f_Lworth = some ⟨oc_Lworth, od_Lworth, .func (PySem.W.fnOf "_law_worth" "_law_worth" (C8.fnArgs s__law_worth) (C8.fnBody s__law_worth) (C8.fnScope s__law_worth) .none kV_Lworth dc_Lworth pm_Lworth an_Lworth cd_Lworth ct_Lworth), sl_Lworth⟩)
    (c_Lworth : PySem.W.codeIn K cd_Lworth "_law_worth" = true)
    (k_Lworth : PySem.W.keepIn K (.ref f_Lworth) = true)
    (a_Lgot : PySem.W.nsIn K mainGlobals "_law_got" = some (some (.ref f_Lgot)))
    (l_Lgot : K.lookup f_Lgot = some ⟨oc_Lgot, od_Lgot, .func (PySem.W.fnOf "_law_got" "_law_got" (C8.fnArgs s__law_got) (C8.fnBody s__law_got) (C8.fnScope s__law_got) .none kV_Lgot dc_Lgot pm_Lgot an_Lgot cd_Lgot ct_Lgot), sl_Lgot⟩)
    (c_Lgot : PySem.W.codeIn K cd_Lgot "_law_got" = true)
    (k_Lgot : PySem.W.keepIn K (.ref f_Lgot) = true)
    (a_Lisasker : PySem.W.nsIn K mainGlobals "_law_is_asker" = some (some (.ref f_Lisasker)))
    (l_Lisasker : K.lookup f_Lisasker = some ⟨oc_Lisasker, od_Lisasker, .func (PySem.W.fnOf "_law_is_asker" "_law_is_asker" (C8.fnArgs s__law_is_asker) (C8.fnBody s__law_is_asker) (C8.fnScope s__law_is_asker) .none kV_Lisasker dc_Lisasker pm_Lisasker an_Lisasker cd_Lisasker ct_Lisasker), sl_Lisasker⟩)
    (c_Lisasker : PySem.W.codeIn K cd_Lisasker "_law_is_asker" = true)
    (k_Lisasker : PySem.W.keepIn K (.ref f_Lisasker) = true)
    (a_Lluck : PySem.W.nsIn K mainGlobals "_law_luck" = some (some (.ref f_Lluck)))
    (l_Lluck : K.lookup f_Lluck = some ⟨oc_Lluck, od_Lluck, .func (PySem.W.fnOf "_law_luck" "_law_luck" (C8.fnArgs s__law_luck) (C8.fnBody s__law_luck) (C8.fnScope s__law_luck) .none kV_Lluck dc_Lluck pm_Lluck an_Lluck cd_Lluck ct_Lluck), sl_Lluck⟩)
    (c_Lluck : PySem.W.codeIn K cd_Lluck "_law_luck" = true)
    (k_Lluck : PySem.W.keepIn K (.ref f_Lluck) = true)
    (a_law : PySem.W.nsIn K mainGlobals "law" = some (some (.ref f_law)))
    (l_law : K.lookup f_law = some ⟨oc_law, od_law, .func (PySem.W.fnOf "law" "law" (C8.fnArgs s_law) (C8.fnBody s_law) (C8.fnScope s_law) .none kV_law dc_law pm_law an_law cd_law ct_law), sl_law⟩)
    (c_law : PySem.W.codeIn K cd_law "law" = true)
    (k_law : PySem.W.keepIn K (.ref f_law) = true)
    (a_B : PySem.W.nsIn K mainGlobals "best_of" = some (some (.ref f_B)))
    (l_B : K.lookup f_B = some ⟨oc_B, od_B, .func (PySem.W.fnOf "best_of" "best_of" (C8.fnArgs s_best_of) (C8.fnBody s_best_of) (C8.fnScope s_best_of) .none kV_B dc_B pm_B an_B (.ref cB) ct_B), sl_B⟩)
    (c_B : PySem.W.codeIn K (.ref cB) "best_of" = true)
    (k_B : PySem.W.keepIn K (.ref f_B) = true)
    (kc_B : K.lookup cB = some ⟨e_B, dd_B, .fields vs_B, sl_C⟩)
    (kp_B : vs_B[11]? = some (.ref PB))
    (kn_B : K.lookup PB = none)
    (a_H : PySem.W.nsIn K mainGlobals "House" = some (some (.ref aH)))
    (f_Ix : PySem.W.findIn K (.ref aH) "__init__" = some (some (.ref f_I)))
    (i_I : PySem.W.isFn K (.ref f_I) = true)
    (l_I : K.lookup f_I = some ⟨oc_I, od_I, .func (PySem.W.fnOf "__init__" "House.__init__" (C8.fnArgs s_House_init) (C8.fnBody s_House_init) (C8.fnScope s_House_init) .none kV_I dc_I pm_I an_I cd_I ct_I), sl_I⟩)
    (c_I : PySem.W.codeIn K cd_I "House.__init__" = true)
    (f_Ex : PySem.W.findIn K (.ref aH) "__eq__" = some (some (.ref f_E)))
    (i_E : PySem.W.isFn K (.ref f_E) = true)
    (l_E : K.lookup f_E = some ⟨oc_E, od_E, .func (PySem.W.fnOf "__eq__" "House.__eq__" (C8.fnArgs s_House_eq) (C8.fnBody s_House_eq) (C8.fnScope s_House_eq) .none kV_E dc_E pm_E an_E cd_E ct_E), sl_E⟩)
    (c_E : PySem.W.codeIn K cd_E "House.__eq__" = true)
    (ne_H : PySem.W.findIn K (.ref aH) "__ne__" = some (some (.builtin "object.__ne__")))
    (mro_H : PySem.W.mroIn K aH (.type "object") = some true)
    (pg_H : PySem.W.plainGet K aH Str.empty = true)
    (hd_H : PySem.W.hasDictIn K aH = true)
    (po_H : PySem.W.plainOver K aH = true)
    (sa_H : PySem.W.findIn K (.ref aH) "__setattr__" = some (some (.builtin "object.__setattr__")))
    (mk_H : PySem.W.makesIn K aH = true)
    (kp_H : PySem.W.keepIn K (.ref aH) = true)
    (nw_H : PySem.W.findIn K (.ref aH) "worlds" = some none)
    (nt_H : PySem.W.findIn K (.ref aH) "tree" = some none)
    (ha_H : PySem.W.findIn K (.ref aH) "__class__" = some (some (.builtin "object.__class__")))
    (hn_H : PySem.W.specialIn K (.builtin "object.__class__") "__get__" = some (some (.builtin "getset_descriptor.__get__")))
    (ht_H : PySem.W.takesIn K (.builtin "object.__class__") = some true)
    (me_H : PySem.W.kitOne K (.ref aH) (.ref aH) = some true)
    (z_len : PySem.W.nsIn K mainGlobals "len" = some none)
    (z_isinstance : PySem.W.nsIn K mainGlobals "isinstance" = some none)
    (z_abs : PySem.W.nsIn K mainGlobals "abs" = some none)
    (z_all : PySem.W.nsIn K mainGlobals "all" = some none)
    (z_sum : PySem.W.nsIn K mainGlobals "sum" = some none)
    (z_tuple : PySem.W.nsIn K mainGlobals "tuple" = some none)
    (z_list : PySem.W.nsIn K mainGlobals "list" = some none)
    (z_int : PySem.W.nsIn K mainGlobals "int" = some none)
    (z_bool : PySem.W.nsIn K mainGlobals "bool" = some none)
    (z_str : PySem.W.nsIn K mainGlobals "str" = some none)
    (z_max : PySem.W.nsIn K mainGlobals "max" = some none)
    (z_zip : PySem.W.nsIn K mainGlobals "zip" = some none)
    (z_enumerate : PySem.W.nsIn K mainGlobals "enumerate" = some none)
    (z_range : PySem.W.nsIn K mainGlobals "range" = some none)
    (z_repr : PySem.W.nsIn K mainGlobals "repr" = some none)
    (m_1 : PySem.W.nsIn K mainGlobals "MOST_WORLDS_worths" = some (some (.int 5 t1)))
    (m_2 : PySem.W.nsIn K mainGlobals "MOST_WORLDS_houses" = some (some (.int 5 t2)))
    (m_3 : PySem.W.nsIn K mainGlobals "MOST_QUESTIONS" = some (some (.int 5 t3)))
    (m_4 : PySem.W.nsIn K mainGlobals "MOST_ANSWERS" = some (some (.int 12 t4)))
    (m_5 : PySem.W.nsIn K mainGlobals "MOST_NUMBERS" = some (some (.int 8 t5)))
    (m_6 : PySem.W.nsIn K mainGlobals "MOST_NUMBER" = some (some (.int 99 t6)))
    (m_7 : PySem.W.nsIn K mainGlobals "MOST_ROUNDS" = some (some (.int 8 t7)))
    (m_8 : PySem.W.nsIn K mainGlobals "MOST_IN_ALL" = some (some (.int 1500 t8)))
    (a_N : PySem.W.nsIn K mainGlobals "NOUGHT" = some (some (.ref aN)))
    (l_N : K.lookup aN = some ⟨.type "tuple", none, .seq #[.int 0 tN1, .int 1 tN2] nN, slN⟩)
    (a_O : PySem.W.nsIn K mainGlobals "ONE" = some (some (.ref aO)))
    (l_O : K.lookup aO = some ⟨.type "tuple", none, .seq #[.int 1 tO1, .int 1 tO2] nO, slO⟩)
    : AtTop K mg h fa := by
  have T : Txt K mg aN aO aH := ⟨PySem.W.mg_none_of X G z_len, PySem.W.mg_none_of X G z_isinstance, PySem.W.mg_none_of X G z_abs, PySem.W.mg_none_of X G z_all, PySem.W.mg_none_of X G z_sum, PySem.W.mg_none_of X G z_tuple, PySem.W.mg_none_of X G z_list, PySem.W.mg_none_of X G z_int, PySem.W.mg_none_of X G z_bool, PySem.W.mg_none_of X G z_str, PySem.W.mg_none_of X G z_max, PySem.W.mg_none_of X G z_zip, PySem.W.mg_none_of X G z_enumerate, PySem.W.mg_none_of X G z_range, PySem.W.mg_none_of X G z_repr, PySem.W.mg_of X G a_N, PySem.W.mg_of X G a_O, PySem.W.mg_of X G a_H, ⟨_, PySem.W.mg_of X G m_1, ⟨_, rfl⟩⟩, ⟨_, PySem.W.mg_of X G m_2, ⟨_, rfl⟩⟩, ⟨_, PySem.W.mg_of X G m_3, ⟨_, rfl⟩⟩, ⟨_, PySem.W.mg_of X G m_4, ⟨_, rfl⟩⟩, ⟨_, PySem.W.mg_of X G m_5, ⟨_, rfl⟩⟩, ⟨_, PySem.W.mg_of X G m_6, ⟨_, rfl⟩⟩, ⟨_, PySem.W.mg_of X G m_7, ⟨_, rfl⟩⟩, ⟨_, PySem.W.mg_of X G m_8, ⟨_, rfl⟩⟩, tup2 l_N, tup2 l_O⟩
  have cl : Cls K aH := ⟨pg_H, hd_H, po_H, sa_H⟩
  have FI : C8.Fun K "__init__" "House.__init__" s_House_init f_I (PySem.W.fnOf "__init__" "House.__init__" (C8.fnArgs s_House_init) (C8.fnBody s_House_init) (C8.fnScope s_House_init) .none kV_I dc_I pm_I an_I cd_I ct_I) := ⟨oc_I, od_I, .none, kV_I, dc_I, pm_I, an_I, cd_I, ct_I, sl_I, rfl, l_I, c_I⟩
  have FE : C8.Fun K "__eq__" "House.__eq__" s_House_eq f_E (PySem.W.fnOf "__eq__" "House.__eq__" (C8.fnArgs s_House_eq) (C8.fnBody s_House_eq) (C8.fnScope s_House_eq) .none kV_E dc_E pm_E an_E cd_E ct_E) := ⟨oc_E, od_E, .none, kV_E, dc_E, pm_E, an_E, cd_E, ct_E, sl_E, rfl, l_E, c_E⟩
  have hk : HouK K mg aH := ⟨⟨f_I, f_E, _, _, ⟨mk_H, f_Ix, i_I, kp_H⟩, FI, FI.binds rfl (fun _ _ _ _ _ _ us hl => match us, hl with | [_, _, _], _ => rfl), FE, FE.binds rfl (fun _ _ _ _ _ _ us hl => match us, hl with | [_, _], _ => rfl), f_Ex, i_E⟩, PySem.W.mg_of X G a_H, ne_H, mro_H, ⟨cl, ha_H, hn_H, ht_H, mro_H, me_H⟩, ⟨cl, nw_H, nt_H⟩⟩
  have FB : C8.Fun K "best_of" "best_of" s_best_of f_B (PySem.W.fnOf "best_of" "best_of" (C8.fnArgs s_best_of) (C8.fnBody s_best_of) (C8.fnScope s_best_of) .none kV_B dc_B pm_B an_B (.ref cB) ct_B) := ⟨oc_B, od_B, .none, kV_B, dc_B, pm_B, an_B, .ref cB, ct_B, sl_B, rfl, l_B, c_B⟩
  have db : DfC K mg "best_of" s_best_of ["house", "prior", "gains"] cB := ⟨f_B, oc_B, od_B, .none, kV_B, dc_B, pm_B, an_B, ct_B, sl_B, l_B, c_B, PySem.W.mg_of X G a_B, k_B, FB.binds rfl (fun _ _ _ _ _ _ us hl => match us, hl with | [_, _, _], _ => rfl)⟩
  obtain ⟨a, o, fd, c, P, b1, b2, b3, b4, b5, b6⟩ := bt
  have e1 : a = f_B := Value.ref.inj (Option.some.inj (b1.symm.trans (PySem.W.mg_of X G a_B)))
  subst e1
  have g1 := X _ _ l_B
  rw [b2] at g1
  cases g1
  cases b3
  have e2 : cB = c := Value.ref.inj b4
  subst e2
  have b6' := b6
  obtain ⟨⟨oc, vc, f1, _, f3, f4⟩, hP⟩ := b6
  have g2 := X _ _ kc_B
  rw [f1] at g2
  cases g2
  cases f3
  rw [kp_B] at f4
  have e3 : PB = P := Value.ref.inj (Option.some.inj f4)
  subst e3
  refine ⟨aN, aO, aH, cB, PB, T, ?_, hk, db, (df_mk X G a_law l_law c_law k_law (fun _ _ _ _ _ _ us hl => match us, hl with | [_], _ => rfl)), hP, kn_B, PySem.W.CodeHd.of b5 b6'⟩
  exact ⟨(df_mk X G a_isinteger l_isinteger c_isinteger k_isinteger (fun _ _ _ _ _ _ us hl => match us, hl with | [_], _ => rfl)), (df_mk X G a_iswithin l_iswithin c_iswithin k_iswithin (fun _ _ _ _ _ _ us hl => match us, hl with | [_, _, _], _ => rfl)), (df_mk X G a_issized l_issized c_issized k_issized (fun _ _ _ _ _ _ us hl => match us, hl with | [_, _, _], _ => rfl)), (df_mk X G a_ispair l_ispair c_ispair k_ispair (fun _ _ _ _ _ _ us hl => match us, hl with | [_], _ => rfl)), (df_mk X G a_istriple l_istriple c_istriple k_istriple (fun _ _ _ _ _ _ us hl => match us, hl with | [_], _ => rfl)), (df_mk X G a_arerising l_arerising c_arerising k_arerising (fun _ _ _ _ _ _ us hl => match us, hl with | [_], _ => rfl)), (df_mk X G a_divisor l_divisor c_divisor k_divisor (fun _ _ _ _ _ _ us hl => match us, hl with | [_, _], _ => rfl)), (df_mk X G a_lowest l_lowest c_lowest k_lowest (fun _ _ _ _ _ _ us hl => match us, hl with | [_, _], _ => rfl)), (df_mk X G a_plus l_plus c_plus k_plus (fun _ _ _ _ _ _ us hl => match us, hl with | [_, _], _ => rfl)), (df_mk X G a_times l_times c_times k_times (fun _ _ _ _ _ _ us hl => match us, hl with | [_, _], _ => rfl)), (df_mk X G a_isbelow l_isbelow c_isbelow k_isbelow (fun _ _ _ _ _ _ us hl => match us, hl with | [_, _], _ => rfl)), (df_mk X G a_greater l_greater c_greater k_greater (fun _ _ _ _ _ _ us hl => match us, hl with | [_, _], _ => rfl)), (df_mk X G a_total l_total c_total k_total (fun _ _ _ _ _ _ us hl => match us, hl with | [_], _ => rfl)), (df_mk X G a_isfraction l_isfraction c_isfraction k_isfraction (fun _ _ _ _ _ _ us hl => match us, hl with | [_], _ => rfl)), (df_mk X G a_ischance l_ischance c_ischance k_ischance (fun _ _ _ _ _ _ us hl => match us, hl with | [_], _ => rfl)), (df_mk X G a_isprior l_isprior c_isprior k_isprior (fun _ _ _ _ _ _ us hl => match us, hl with | [_, _], _ => rfl)), (df_mk X G a_aregains l_aregains c_aregains k_aregains (fun _ _ _ _ _ _ us hl => match us, hl with | [_, _], _ => rfl)), (df_mk X G a_checkprior l_checkprior c_checkprior k_checkprior (fun _ _ _ _ _ _ us hl => match us, hl with | [_, _], _ => rfl)), (df_mk X G a_checkgains l_checkgains c_checkgains k_checkgains (fun _ _ _ _ _ _ us hl => match us, hl with | [_, _], _ => rfl)), (df_mk X G a_deedgets l_deedgets c_deedgets k_deedgets (fun _ _ _ _ _ _ us hl => match us, hl with | [_, _, _], _ => rfl)), (df_mk X G a_bestat l_bestat c_bestat k_bestat (fun _ _ _ _ _ _ us hl => match us, hl with | [_, _, _], _ => rfl)), (df_mk X G a_bestdeed l_bestdeed c_bestdeed k_bestdeed (fun _ _ _ _ _ _ us hl => match us, hl with | [_, _, _], _ => rfl)), (df_mk X G a_worth l_worth c_worth k_worth (fun _ _ _ _ _ _ us hl => match us, hl with | [_, _, _], _ => rfl)), (df_mk X G a_worthunasked l_worthunasked c_worthunasked k_worthunasked (fun _ _ _ _ _ _ us hl => match us, hl with | [_, _], _ => rfl)), (df_mk X G a_guessing l_guessing c_guessing k_guessing (fun _ _ _ _ _ _ us hl => match us, hl with | [_], _ => rfl)), (df_mk X G a_luck l_luck c_luck k_luck (fun _ _ _ _ _ _ us hl => match us, hl with | [_], _ => rfl)), (df_mk X G a_luckiest l_luckiest c_luckiest k_luckiest (fun _ _ _ _ _ _ us hl => match us, hl with | [_], _ => rfl)), (df_mk X G a_isword l_isword c_isword k_isword (fun _ _ _ _ _ _ us hl => match us, hl with | [_], _ => rfl)), (df_mk X G a_isanswer l_isanswer c_isanswer k_isanswer (fun _ _ _ _ _ _ us hl => match us, hl with | [_, _], _ => rfl)), (df_mk X G a_addedweights l_addedweights c_addedweights k_addedweights (fun _ _ _ _ _ _ us hl => match us, hl with | [_, _], _ => rfl)), (df_mk X G a_wronginnode l_wronginnode c_wronginnode k_wronginnode (fun _ _ _ _ _ _ us hl => match us, hl with | [_, _, _, _], _ => rfl)), (df_mk X G a_wronginquestion l_wronginquestion c_wronginquestion k_wronginquestion (fun _ _ _ _ _ _ us hl => match us, hl with | [_, _, _, _], _ => rfl)), (df_mk X G a_countanswers l_countanswers c_countanswers k_countanswers (fun _ _ _ _ _ _ us hl => match us, hl with | [_], _ => rfl)), (df_mk X G a_Lbag l_Lbag c_Lbag k_Lbag (fun _ _ _ _ _ _ us hl => match us, hl with | [_], _ => rfl)), (df_mk X G a_Lpick l_Lpick c_Lpick k_Lpick (fun _ _ _ _ _ _ us hl => match us, hl with | [_, _], _ => rfl)), (df_mk X G a_Lsome l_Lsome c_Lsome k_Lsome (fun _ _ _ _ _ _ us hl => match us, hl with | [_, _], _ => rfl)), (df_mk X G a_Lcommon l_Lcommon c_Lcommon k_Lcommon (fun _ _ _ _ _ _ us hl => match us, hl with | [_, _], _ => rfl)), (df_mk X G a_Llow l_Llow c_Llow k_Llow (fun _ _ _ _ _ _ us hl => match us, hl with | [_, _], _ => rfl)), (df_mk X G a_Lplus l_Lplus c_Lplus k_Lplus (fun _ _ _ _ _ _ us hl => match us, hl with | [_, _], _ => rfl)), (df_mk X G a_Ltimes l_Ltimes c_Ltimes k_Ltimes (fun _ _ _ _ _ _ us hl => match us, hl with | [_, _], _ => rfl)), (df_mk X G a_Ltotal l_Ltotal c_Ltotal k_Ltotal (fun _ _ _ _ _ _ us hl => match us, hl with | [_], _ => rfl)), (df_mk X G a_Lbelow l_Lbelow c_Lbelow k_Lbelow (fun _ _ _ _ _ _ us hl => match us, hl with | [_, _], _ => rfl)), (df_mk X G a_Lshares l_Lshares c_Lshares k_Lshares (fun _ _ _ _ _ _ us hl => match us, hl with | [_, _, _], _ => rfl)), (df_mk X G a_Lquestion l_Lquestion c_Lquestion k_Lquestion (fun _ _ _ _ _ _ us hl => match us, hl with | [_, _, _, _, _], _ => rfl)), (df_mk X G a_Lnode l_Lnode c_Lnode k_Lnode (fun _ _ _ _ _ _ us hl => match us, hl with | [_, _, _, _, _], _ => rfl)), (df_mk X G a_Ltree l_Ltree c_Ltree k_Ltree (fun _ _ _ _ _ _ us hl => match us, hl with | [_, _, _, _], _ => rfl)), (df_mk X G a_Lis l_Lis c_Lis k_Lis (fun _ _ _ _ _ _ us hl => match us, hl with | [_, _], _ => rfl)), (df_mk X G a_Lint l_Lint c_Lint k_Lint (fun _ _ _ _ _ _ us hl => match us, hl with | [_, _, _], _ => rfl)), (df_mk X G a_Lgains l_Lgains c_Lgains k_Lgains (fun _ _ _ _ _ _ us hl => match us, hl with | [_, _, _], _ => rfl)), (df_mk X G a_Ldeed l_Ldeed c_Ldeed k_Ldeed (fun _ _ _ _ _ _ us hl => match us, hl with | [_, _, _], _ => rfl)), (df_mk X G a_Lmost l_Lmost c_Lmost k_Lmost (fun _ _ _ _ _ _ us hl => match us, hl with | [_], _ => rfl)), (df_mk X G a_Lworth l_Lworth c_Lworth k_Lworth (fun _ _ _ _ _ _ us hl => match us, hl with | [_, _, _, _], _ => rfl)), (df_mk X G a_Lgot l_Lgot c_Lgot k_Lgot (fun _ _ _ _ _ _ us hl => match us, hl with | [_, _, _, _, _], _ => rfl)), (df_mk X G a_Lisasker l_Lisasker c_Lisasker k_Lisasker (fun _ _ _ _ _ _ us hl => match us, hl with | [_, _, _], _ => rfl)), (df_mk X G a_Lluck l_Lluck c_Lluck k_Lluck (fun _ _ _ _ _ _ us hl => match us, hl with | [_, _], _ => rfl))⟩
/-- the end -/
theorem walkX {l : PySem.W.OpenLaw} {q : Program} {loose : List Str} {XP : (Str → Option Value) → Heap → Prop} {YP : World → Heap → Prop} {d : DefRec} {K : Params → PySem.W.Frag} (hn : l.most = some 63) (hdf : d.params.defaults = []) (hdn : d.name = "law") (hrec : ((recsOf q).any fun e => e.name == "best_of") = true)
    (hY : ∀ (w : World) (h : Heap), YP w h → (K w.params).In h) (F : ∀ (w : World) (mg : Str → Option Value) (fa : Addr) (h : Heap), (K w.params).In h → h.Ns mainGlobals mg → BestTab mg h → AtTop (K w.params) mg h fa) :
    PySem.W.WalkO q loose XP YP l.row.toRowW d [] (fun f vs => PySem.call f vs) := by
  refine Att.attach_callB hn hdf fun w s₀ s₁ mg mb fa o pm cd doc a vs ns G Y ho hd hcd hmg hobj hints hlen hbits hg => ?_
  have KX := hY w _ Y
  obtain ⟨dL, hm, hn1⟩ := List.any_eq_true.mp hrec
  have hn2 : dL.name = "best_of" := beq_iff_eq.mp hn1
  obtain ⟨a', o', fd', c', P', h1, h2, h3, h4, h5, h6⟩ := G.T.tab dL hm
  rw [hn2] at h1
  rw [hdn] at hmg
  obtain ⟨aN, aO, aH, cB, P0, T, D, hk, db, dl, t1, t2, t3⟩ := (F w mg fa _ KX G.T.g ⟨a', o', fd', c', P', h1, h2, h3, h4, h5, h6⟩).ex
  exact law_end KX G.T.g G.T.b G.T.builtins G.T.nolimit hg t1 t2 t3 G.T.bmain hobj hints (Nat.le_trans hlen (by decide)) fun base H TB e0 hP hS => law_at T D hk db dl hmg ⟨rfl, by decide, by decide⟩ TB e0 hP hS hlen
end Q3
open PySem PySem.W PyProof.Rows
set_option maxRecDepth 100000 in
set_option maxHeartbeats 0 in
theorem PySem.Challenge.cw_tellsless_k33_whole_luck_by_own_sums_holds : PySem.Challenge.rw_tellsless_k33_whole_luck_by_own_sums.Holds := by
  w_on; o_law; k_head; (case hw => w_witness2)
  k_fill
  refine Q3.walkX (l := PySem.Challenge.rw_tellsless_k33_whole_luck_by_own_sums) rfl rfl ?hdn ?hrec (fun w h Y => PySem.W.km_in_of Y) ?F
  case hdn => first | rfl | kernel_rfl
  case hrec => first | kernel_rfl | rfl
  case F =>
  intro w mg fa h KX G bt
  refine' Q3.attop_mk KX G bt ?a_isinteger ?l_isinteger ?c_isinteger ?k_isinteger ?a_iswithin ?l_iswithin ?c_iswithin ?k_iswithin ?a_issized ?l_issized ?c_issized ?k_issized ?a_ispair ?l_ispair ?c_ispair ?k_ispair ?a_istriple ?l_istriple ?c_istriple ?k_istriple ?a_arerising ?l_arerising ?c_arerising ?k_arerising ?a_divisor ?l_divisor ?c_divisor ?k_divisor ?a_lowest ?l_lowest ?c_lowest ?k_lowest ?a_plus ?l_plus ?c_plus ?k_plus ?a_times ?l_times ?c_times ?k_times ?a_isbelow ?l_isbelow ?c_isbelow ?k_isbelow ?a_greater ?l_greater ?c_greater ?k_greater ?a_total ?l_total ?c_total ?k_total ?a_isfraction ?l_isfraction ?c_isfraction ?k_isfraction ?a_ischance ?l_ischance ?c_ischance ?k_ischance ?a_isprior ?l_isprior ?c_isprior ?k_isprior ?a_aregains ?l_aregains ?c_aregains ?k_aregains ?a_checkprior ?l_checkprior ?c_checkprior ?k_checkprior ?a_checkgains ?l_checkgains ?c_checkgains ?k_checkgains ?a_deedgets ?l_deedgets ?c_deedgets ?k_deedgets ?a_bestat ?l_bestat ?c_bestat ?k_bestat ?a_bestdeed ?l_bestdeed ?c_bestdeed ?k_bestdeed ?a_worth ?l_worth ?c_worth ?k_worth ?a_worthunasked ?l_worthunasked ?c_worthunasked ?k_worthunasked ?a_guessing ?l_guessing ?c_guessing ?k_guessing ?a_luck ?l_luck ?c_luck ?k_luck ?a_luckiest ?l_luckiest ?c_luckiest ?k_luckiest ?a_isword ?l_isword ?c_isword ?k_isword ?a_isanswer ?l_isanswer ?c_isanswer ?k_isanswer ?a_addedweights ?l_addedweights ?c_addedweights ?k_addedweights ?a_wronginnode ?l_wronginnode ?c_wronginnode ?k_wronginnode ?a_wronginquestion ?l_wronginquestion ?c_wronginquestion ?k_wronginquestion ?a_countanswers ?l_countanswers ?c_countanswers ?k_countanswers ?a_Lbag ?l_Lbag ?c_Lbag ?k_Lbag ?a_Lpick ?l_Lpick ?c_Lpick ?k_Lpick ?a_Lsome ?l_Lsome ?c_Lsome ?k_Lsome ?a_Lcommon ?l_Lcommon ?c_Lcommon ?k_Lcommon ?a_Llow ?l_Llow ?c_Llow ?k_Llow ?a_Lplus ?l_Lplus ?c_Lplus ?k_Lplus ?a_Ltimes ?l_Ltimes ?c_Ltimes ?k_Ltimes ?a_Ltotal ?l_Ltotal ?c_Ltotal ?k_Ltotal ?a_Lbelow ?l_Lbelow ?c_Lbelow ?k_Lbelow ?a_Lshares ?l_Lshares ?c_Lshares ?k_Lshares ?a_Lquestion ?l_Lquestion ?c_Lquestion ?k_Lquestion ?a_Lnode ?l_Lnode ?c_Lnode ?k_Lnode ?a_Ltree ?l_Ltree ?c_Ltree ?k_Ltree ?a_Lis ?l_Lis ?c_Lis ?k_Lis ?a_Lint ?l_Lint ?c_Lint ?k_Lint ?a_Lgains ?l_Lgains ?c_Lgains ?k_Lgains ?a_Ldeed ?l_Ldeed ?c_Ldeed ?k_Ldeed ?a_Lmost ?l_Lmost ?c_Lmost ?k_Lmost ?a_Lworth ?l_Lworth ?c_Lworth ?k_Lworth ?a_Lgot ?l_Lgot ?c_Lgot ?k_Lgot ?a_Lisasker ?l_Lisasker ?c_Lisasker ?k_Lisasker ?a_Lluck ?l_Lluck ?c_Lluck ?k_Lluck ?a_law ?l_law ?c_law ?k_law ?a_B ?l_B ?c_B ?k_B ?kc_B ?kp_B ?kn_B ?a_H ?f_Ix ?i_I ?l_I ?c_I ?f_Ex ?i_E ?l_E ?c_E ?ne_H ?mro_H ?pg_H ?hd_H ?po_H ?sa_H ?mk_H ?kp_H ?nw_H ?nt_H ?ha_H ?hn_H ?ht_H ?me_H ?z_len ?z_isinstance ?z_abs ?z_all ?z_sum ?z_tuple ?z_list ?z_int ?z_bool ?z_str ?z_max ?z_zip ?z_enumerate ?z_range ?z_repr ?m_1 ?m_2 ?m_3 ?m_4 ?m_5 ?m_6 ?m_7 ?m_8 ?a_N ?l_N ?a_O ?l_O
  (case a_isinteger => k_is)
  (case l_isinteger => k_is)
  (case c_isinteger => k_is)
  (case k_isinteger => k_is)
  (case a_iswithin => k_is)
  (case l_iswithin => k_is)
  (case c_iswithin => k_is)
  (case k_iswithin => k_is)
  (case a_issized => k_is)
  (case l_issized => k_is)
  (case c_issized => k_is)
  (case k_issized => k_is)
  (case a_ispair => k_is)
  (case l_ispair => k_is)
  (case c_ispair => k_is)
  (case k_ispair => k_is)
  (case a_istriple => k_is)
  (case l_istriple => k_is)
  (case c_istriple => k_is)
  (case k_istriple => k_is)
  (case a_arerising => k_is)
  (case l_arerising => k_is)
  (case c_arerising => k_is)
  (case k_arerising => k_is)
  (case a_divisor => k_is)
  (case l_divisor => k_is)
  (case c_divisor => k_is)
  (case k_divisor => k_is)
  (case a_lowest => k_is)
  (case l_lowest => k_is)
  (case c_lowest => k_is)
  (case k_lowest => k_is)
  (case a_plus => k_is)
  (case l_plus => k_is)
  (case c_plus => k_is)
  (case k_plus => k_is)
  (case a_times => k_is)
  (case l_times => k_is)
  (case c_times => k_is)
  (case k_times => k_is)
  (case a_isbelow => k_is)
  (case l_isbelow => k_is)
  (case c_isbelow => k_is)
  (case k_isbelow => k_is)
  (case a_greater => k_is)
  (case l_greater => k_is)
  (case c_greater => k_is)
  (case k_greater => k_is)
  (case a_total => k_is)
  (case l_total => k_is)
  (case c_total => k_is)
  (case k_total => k_is)
  (case a_isfraction => k_is)
  (case l_isfraction => k_is)
  (case c_isfraction => k_is)
  (case k_isfraction => k_is)
  (case a_ischance => k_is)
  (case l_ischance => k_is)
  (case c_ischance => k_is)
  (case k_ischance => k_is)
  (case a_isprior => k_is)
  (case l_isprior => k_is)
  (case c_isprior => k_is)
  (case k_isprior => k_is)
  (case a_aregains => k_is)
  (case l_aregains => k_is)
  (case c_aregains => k_is)
  (case k_aregains => k_is)
  (case a_checkprior => k_is)
  (case l_checkprior => k_is)
  (case c_checkprior => k_is)
  (case k_checkprior => k_is)
  (case a_checkgains => k_is)
  (case l_checkgains => k_is)
  (case c_checkgains => k_is)
  (case k_checkgains => k_is)
  (case a_deedgets => k_is)
  (case l_deedgets => k_is)
  (case c_deedgets => k_is)
  (case k_deedgets => k_is)
  (case a_bestat => k_is)
  (case l_bestat => k_is)
  (case c_bestat => k_is)
  (case k_bestat => k_is)
  (case a_bestdeed => k_is)
  (case l_bestdeed => k_is)
  (case c_bestdeed => k_is)
  (case k_bestdeed => k_is)
  (case a_worth => k_is)
  (case l_worth => k_is)
  (case c_worth => k_is)
  (case k_worth => k_is)
  (case a_worthunasked => k_is)
  (case l_worthunasked => k_is)
  (case c_worthunasked => k_is)
  (case k_worthunasked => k_is)
  (case a_guessing => k_is)
  (case l_guessing => k_is)
  (case c_guessing => k_is)
  (case k_guessing => k_is)
  (case a_luck => k_is)
  (case l_luck => k_is)
  (case c_luck => k_is)
  (case k_luck => k_is)
  (case a_luckiest => k_is)
  (case l_luckiest => k_is)
  (case c_luckiest => k_is)
  (case k_luckiest => k_is)
  (case a_isword => k_is)
  (case l_isword => k_is)
  (case c_isword => k_is)
  (case k_isword => k_is)
  (case a_isanswer => k_is)
  (case l_isanswer => k_is)
  (case c_isanswer => k_is)
  (case k_isanswer => k_is)
  (case a_addedweights => k_is)
  (case l_addedweights => k_is)
  (case c_addedweights => k_is)
  (case k_addedweights => k_is)
  (case a_wronginnode => k_is)
  (case l_wronginnode => k_is)
  (case c_wronginnode => k_is)
  (case k_wronginnode => k_is)
  (case a_wronginquestion => k_is)
  (case l_wronginquestion => k_is)
  (case c_wronginquestion => k_is)
  (case k_wronginquestion => k_is)
  (case a_countanswers => k_is)
  (case l_countanswers => k_is)
  (case c_countanswers => k_is)
  (case k_countanswers => k_is)
  (case a_Lbag => k_is)
  (case l_Lbag => k_is)
  (case c_Lbag => k_is)
  (case k_Lbag => k_is)
  (case a_Lpick => k_is)
  (case l_Lpick => k_is)
  (case c_Lpick => k_is)
  (case k_Lpick => k_is)
  (case a_Lsome => k_is)
  (case l_Lsome => k_is)
  (case c_Lsome => k_is)
  (case k_Lsome => k_is)
  (case a_Lcommon => k_is)
  (case l_Lcommon => k_is)
  (case c_Lcommon => k_is)
  (case k_Lcommon => k_is)
  (case a_Llow => k_is)
  (case l_Llow => k_is)
  (case c_Llow => k_is)
  (case k_Llow => k_is)
  (case a_Lplus => k_is)
  (case l_Lplus => k_is)
  (case c_Lplus => k_is)
  (case k_Lplus => k_is)
  (case a_Ltimes => k_is)
  (case l_Ltimes => k_is)
  (case c_Ltimes => k_is)
  (case k_Ltimes => k_is)
  (case a_Ltotal => k_is)
  (case l_Ltotal => k_is)
  (case c_Ltotal => k_is)
  (case k_Ltotal => k_is)
  (case a_Lbelow => k_is)
  (case l_Lbelow => k_is)
  (case c_Lbelow => k_is)
  (case k_Lbelow => k_is)
  (case a_Lshares => k_is)
  (case l_Lshares => k_is)
  (case c_Lshares => k_is)
  (case k_Lshares => k_is)
  (case a_Lquestion => k_is)
  (case l_Lquestion => k_is)
  (case c_Lquestion => k_is)
  (case k_Lquestion => k_is)
  (case a_Lnode => k_is)
  (case l_Lnode => k_is)
  (case c_Lnode => k_is)
  (case k_Lnode => k_is)
  (case a_Ltree => k_is)
  (case l_Ltree => k_is)
  (case c_Ltree => k_is)
  (case k_Ltree => k_is)
  (case a_Lis => k_is)
  (case l_Lis => k_is)
  (case c_Lis => k_is)
  (case k_Lis => k_is)
  (case a_Lint => k_is)
  (case l_Lint => k_is)
  (case c_Lint => k_is)
  (case k_Lint => k_is)
  (case a_Lgains => k_is)
  (case l_Lgains => k_is)
  (case c_Lgains => k_is)
  (case k_Lgains => k_is)
  (case a_Ldeed => k_is)
  (case l_Ldeed => k_is)
  (case c_Ldeed => k_is)
  (case k_Ldeed => k_is)
  (case a_Lmost => k_is)
  (case l_Lmost => k_is)
  (case c_Lmost => k_is)
  (case k_Lmost => k_is)
  (case a_Lworth => k_is)
  (case l_Lworth => k_is)
  (case c_Lworth => k_is)
  (case k_Lworth => k_is)
  (case a_Lgot => k_is)
  (case l_Lgot => k_is)
  (case c_Lgot => k_is)
  (case k_Lgot => k_is)
  (case a_Lisasker => k_is)
  (case l_Lisasker => k_is)
  (case c_Lisasker => k_is)
  (case k_Lisasker => k_is)
  (case a_Lluck => k_is)
  (case l_Lluck => k_is)
  (case c_Lluck => k_is)
  (case k_Lluck => k_is)
  (case a_law => k_is)
  (case l_law => k_is)
  (case c_law => k_is)
  (case k_law => k_is)
  (case a_B => k_is)
  (case l_B => k_is)
  (case c_B => k_is)
  (case k_B => k_is)
  (case kc_B => k_is)
  (case kp_B => exact rfl)
  (case kn_B => first | kernel_rfl | exact rfl)
  (case a_H => k_is)
  (case f_Ix => k_is)
  (case i_I => k_is)
  (case l_I => k_is)
  (case c_I => k_is)
  (case f_Ex => k_is)
  (case i_E => k_is)
  (case l_E => k_is)
  (case c_E => k_is)
  (case ne_H => k_is)
  (case mro_H => k_is)
  (case pg_H => k_is)
  (case hd_H => k_is)
  (case po_H => k_is)
  (case sa_H => k_is)
  (case mk_H => k_is)
  (case kp_H => k_is)
  (case nw_H => k_is)
  (case nt_H => k_is)
  (case ha_H => k_is)
  (case hn_H => k_is)
  (case ht_H => k_is)
  (case me_H => exact if_pos (beq_self_eq_true _))
  (case z_len => k_is)
  (case z_isinstance => k_is)
  (case z_abs => k_is)
  (case z_all => k_is)
  (case z_sum => k_is)
  (case z_tuple => k_is)
  (case z_list => k_is)
  (case z_int => k_is)
  (case z_bool => k_is)
  (case z_str => k_is)
  (case z_max => k_is)
  (case z_zip => k_is)
  (case z_enumerate => k_is)
  (case z_range => k_is)
  (case z_repr => k_is)
  (case m_1 => k_is)
  (case m_2 => k_is)
  (case m_3 => k_is)
  (case m_4 => k_is)
  (case m_5 => k_is)
  (case m_6 => k_is)
  (case m_7 => k_is)
  (case m_8 => k_is)
  (case a_N => k_is)
  (case l_N => k_is)
  (case a_O => k_is)
  (case l_O => k_is)
