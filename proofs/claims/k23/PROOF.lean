import PyProof.Rows.All
import Wide.All
import OpenK.AllK
import Wide.FinOn
import KE.KStateDown
import KE.KIsAll
import HandS.ForMost
import HandS.More
import HandS.Defaults
import HandS.ExcField
import HandS.ExcIs
import HandS.Head0
import HandS.Head1
import HandS.Head2
import HandS.HeadEnd
import HandS.HeadHook4
import PySem.Challenge.RW_dueways_k23_whole_greedy_is_ahead
import KE.KRevIter
import KE.GoesEnum
import KE.GoesEnumKw
import PyProof.ReprRoads
import KE.KExcInit
import KE.KExcIs
import HandS.ForExc
import HandS.ExcInit
import HandS.IsInst
import HandS.Flow
import HandS.Codes
import HandS.Walk
import HandS.MakeKwOnly
import HandS.Wide
import HandS.FStr
import HandS.WordsExc
import HandS.TryOnly
import PyProof.Rows.StrJoinMade
set_option Elab.async false
set_option linter.all false
set_option maxRecDepth 100000
set_option maxHeartbeats 4000000
/-! ## K23Math -/
/-! The plain law: values of a row, its form, good rows, records, windows, what may enter. No program in sight. -/
namespace K23
/-! ### values at lengths -/
/-- a row's value at a length -/
def vAt (vs : List Int) (p : Nat) (g : Int) (l : Nat) : Int :=
  if l = 0 then 0
  else if l ≤ vs.length then vs.getD (l - 1) 0
  else vs.getD (l - ((l - vs.length + p - 1) / p) * p - 1) 0 + (((l - vs.length + p - 1) / p : Nat) : Int) * g
theorem vAt_zero (vs : List Int) (p : Nat) (g : Int) : vAt vs p g 0 = 0 := if_pos rfl
theorem vAt_low {vs : List Int} {p : Nat} {g : Int} {l : Nat} (h0 : 1 ≤ l) (h : l ≤ vs.length) : vAt vs p g l = vs.getD (l - 1) 0 := by
  unfold vAt
  rw [if_neg (by omega), if_pos h]
theorem vAt_high {vs : List Int} {p : Nat} {g : Int} {l : Nat} (h : vs.length < l) :
    vAt vs p g l = vs.getD (l - ((l - vs.length + p - 1) / p) * p - 1) 0 + (((l - vs.length + p - 1) / p : Nat) : Int) * g := by
  unfold vAt
  rw [if_neg (by omega), if_neg (by omega)]
/-- from N on each value is the one p before and g -/
def PerF (f : Nat → Int) (N p : Nat) (g : Int) : Prop := ∀ l, N < l → f l = f (l - p) + g
theorem PerF.mono {f : Nat → Int} {N M p : Nat} {g : Int} (h : PerF f N p g) (hm : N ≤ M) : PerF f M p g := fun l hl => h l (by omega)
theorem vAt_per {vs : List Int} {p : Nat} {g : Int} (h1 : 1 ≤ p) (hp : p ≤ vs.length) : PerF (vAt vs p g) vs.length p g := by
  intro l hl
  rw [vAt_high hl]
  by_cases h : l - p ≤ vs.length
  · have e : (l - vs.length + p - 1) / p = 1 := by
      have e1 : l - vs.length + p - 1 = (l - vs.length - 1) + p := by omega
      rw [e1, Nat.add_div_right _ h1, Nat.div_eq_of_lt (by omega)]
    rw [e, vAt_low (by omega) h, Nat.one_mul]
    simp
  · rw [vAt_high (l := l - p) (by omega)]
    have e : (l - vs.length + p - 1) / p = (l - p - vs.length + p - 1) / p + 1 := by
      have e1 : l - vs.length + p - 1 = (l - p - vs.length + p - 1) + p := by omega
      rw [e1, Nat.add_div_right _ h1]
    have e2 : l - ((l - p - vs.length + p - 1) / p + 1) * p - 1 = l - p - (l - p - vs.length + p - 1) / p * p - 1 := by
      rw [Nat.succ_mul]
      omega
    rw [e, e2]
    rw [show (((l - p - vs.length + p - 1) / p + 1 : Nat) : Int) = (((l - p - vs.length + p - 1) / p : Nat) : Int) + 1 from by omega, Int.add_mul]
    omega
/-- where the list ends the index stays within it -/
theorem vAt_ix {n p l : Nat} (h1 : 1 ≤ p) (hp : p ≤ n) (h : n < l) : ((l - n + p - 1) / p) * p + 1 ≤ l ∧ l - ((l - n + p - 1) / p) * p - 1 < n := by
  have a := Nat.div_add_mod (l - n + p - 1) p
  have b := Nat.mod_lt (l - n + p - 1) h1
  rw [Nat.mul_comm] at a
  omega
theorem per_ext {f f' : Nat → Int} {N q : Nat} {G : Int} (h : ∀ l, l ≤ N → f l = f' l) (hq : 1 ≤ q) (P : PerF f N q G) (P' : PerF f' N q G) : ∀ l, f l = f' l := by
  intro l
  induction l using Nat.strongRecOn with
  | ind l ih =>
    by_cases hl : l ≤ N
    · exact h l hl
    · rw [P l (by omega), P' l (by omega), ih (l - q) (by omega)]
/-- the twelve-fold step -/
theorem per_many {f : Nat → Int} {N p : Nat} {g : Int} (P : PerF f N p g) : ∀ (k l : Nat), N + k * p < l + p → f l = f (l - k * p) + (k : Int) * g
  | 0, l, _ => by simp
  | k + 1, l, h => by
    have e : (k + 1) * p = k * p + p := Nat.succ_mul k p
    rw [per_many P k l (by omega)]
    by_cases hp : p = 0
    · subst hp
      have := P (l - k * 0) (by simp; simp at h; omega)
      simp at this ⊢
      rw [show ((k : Int) + 1) * g = (k : Int) * g + g from by rw [Int.add_mul]; omega]
      omega
    · rw [P (l - k * p) (by omega)]
      rw [show l - k * p - p = l - (k + 1) * p from by omega]
      rw [show ((k + 1 : Nat) : Int) * g = (k : Int) * g + g from by rw [Int.natCast_add, Int.add_mul]; simp]
      omega
/-- another period: seen at twelve lengths, it holds at all -/
theorem per_other {f : Nat → Int} {n p q : Nat} {g G : Int} (P : PerF f n p g) (h1 : 1 ≤ p) (hp : p ∣ 12) (h : ∀ i, i < 12 → f (n + 1 + i + q) - f (n + 1 + i) = G) : ∀ l, n + 1 ≤ l → f (l + q) = f l + G := by
  obtain ⟨k, hk⟩ := hp
  have e12 : k * p = 12 := by rw [Nat.mul_comm]; omega
  intro l
  induction l using Nat.strongRecOn with
  | ind l ih =>
    intro hl
    by_cases hs : l < n + 13
    · have := h (l - (n + 1)) (by omega)
      rw [show n + 1 + (l - (n + 1)) = l from by omega] at this
      omega
    · have a := per_many P k l (by rw [e12]; omega)
      have b := per_many P k (l + q) (by rw [e12]; omega)
      rw [e12] at a b
      have c := ih (l - 12) (by omega) (by omega)
      rw [show l - 12 + q = l + q - 12 from by omega] at c
      omega
/-- the values 1, .., m of f, written -/
def valsTo (f : Nat → Int) (m : Nat) : List Int := (List.range m).map fun i => f (i + 1)
theorem valsTo_length (f : Nat → Int) (m : Nat) : (valsTo f m).length = m := by simp [valsTo]
theorem valsTo_get (f : Nat → Int) {m i : Nat} (h : i < m) : (valsTo f m)[i]? = some (f (i + 1)) := by
  simp [valsTo, h]
theorem valsTo_getD (f : Nat → Int) {m i : Nat} (h : i < m) : (valsTo f m).getD i 0 = f (i + 1) := by
  rw [List.getD_eq_getElem?_getD, valsTo_get f h]
  rfl
/-- found, written with q and G, is f -/
def Writes (f : Nat → Int) (fv : List Int) (q : Nat) (G : Int) : Prop := ∀ l, vAt fv q G l = f l
theorem writes_full {f : Nat → Int} {n q : Nat} {G : Int} (h0 : f 0 = 0) (hq : 1 ≤ q) (h12 : q ≤ 12) (h : ∀ l, n + 1 ≤ l → f (l + q) = f l + G) : Writes f (valsTo f (n + 12)) q G := by
  have P : PerF (vAt (valsTo f (n + 12)) q G) (n + 12) q G := by
    have := vAt_per (vs := valsTo f (n + 12)) (p := q) (g := G) hq (by rw [valsTo_length]; omega)
    rwa [valsTo_length] at this
  refine per_ext (N := n + 12) (fun l hl => ?_) hq P fun l hl => ?_
  · by_cases z : l = 0
    · subst z
      rw [vAt_zero, h0]
    · rw [vAt_low (by omega) (by rw [valsTo_length]; exact hl), valsTo_getD f (by omega)]
      rw [show l - 1 + 1 = l from by omega]
  · have := h (l - q) (by omega)
    rw [show l - q + q = l from by omega] at this
    exact this
theorem writes_pop {f : Nat → Int} {fv : List Int} {x : Int} {q : Nat} {G : Int} (hq : 1 ≤ q) (hl : q ≤ fv.length) (W : Writes f (fv ++ [x]) q G) (hx : x = fv.getD (fv.length - q) 0 + G) : Writes f fv q G := by
  have P := vAt_per (vs := fv) (p := q) (g := G) hq hl
  have P' := vAt_per (vs := fv ++ [x]) (p := q) (g := G) hq (by simp; omega)
  have key : ∀ l, vAt fv q G l = vAt (fv ++ [x]) q G l := by
    refine per_ext (N := fv.length + 1) (fun l h => ?_) hq (P.mono (by omega)) (P'.mono (by simp))
    by_cases z : l = 0
    · subst z
      rw [vAt_zero, vAt_zero]
    · by_cases e : l ≤ fv.length
      · rw [vAt_low (by omega) e, vAt_low (by omega) (by simp; omega)]
        rw [List.getD_eq_getElem?_getD, List.getD_eq_getElem?_getD, List.getElem?_append_left (by omega)]
      · have e : l = fv.length + 1 := by omega
        subst e
        rw [P (fv.length + 1) (by omega), vAt_low (l := fv.length + 1 - q) (by omega) (by omega), vAt_low (vs := fv ++ [x]) (by omega) (by simp)]
        rw [show fv.length + 1 - q - 1 = fv.length - q from by omega, ← hx, List.getD_eq_getElem?_getD]
        simp
  intro l
  rw [key l]
  exact W l
/-! ### good rows -/
def Sub (f : Nat → Int) : Prop := ∀ s t, f (s + t) ≤ f s + f t
def Mono (f : Nat → Int) : Prop := ∀ l, f l ≤ f (l + 1)
theorem mono_le {f : Nat → Int} (h : Mono f) : ∀ {a b : Nat}, a ≤ b → f a ≤ f b := by
  intro a b hab
  induction b with
  | zero =>
    rw [show a = 0 from by omega]
    exact Int.le_refl _
  | succ b ih =>
    by_cases e : a = b + 1
    · rw [e]
      exact Int.le_refl _
    · exact Int.le_trans (ih (by omega)) (h b)
theorem mono_nn {f : Nat → Int} (h : Mono f) (h0 : f 0 = 0) (l : Nat) : 0 ≤ f l := by
  have := mono_le h (Nat.zero_le l)
  omega
theorem sub_of {f : Nat → Int} {n p N : Nat} {g : Int} (h0 : f 0 = 0) (P : PerF f n p g) (h1 : 1 ≤ p) (hp : p ≤ n) (hN : n ≤ N) (h : ∀ a b, 1 ≤ b → b ≤ a → a ≤ N → f (a + b) ≤ f a + f b) : Sub f := by
  have key : ∀ m s t, s + t = m → f (s + t) ≤ f s + f t := by
    intro m
    induction m using Nat.strongRecOn with
    | ind m ih =>
      intro s t e
      by_cases hs : N < s
      · have a := P s (by omega)
        have b := P (s + t) (by omega)
        have c := ih (s - p + t) (by omega) (s - p) t rfl
        rw [show s + t - p = s - p + t from by omega] at b
        omega
      · by_cases ht : N < t
        · have a := P t (by omega)
          have b := P (s + t) (by omega)
          have c := ih (s + (t - p)) (by omega) s (t - p) rfl
          rw [show s + t - p = s + (t - p) from by omega] at b
          omega
        · by_cases z : s = 0
          · subst z
            rw [Nat.zero_add, h0]
            omega
          · by_cases z' : t = 0
            · subst z'
              rw [Nat.add_zero, h0]
              omega
            · by_cases o : t ≤ s
              · exact h s t (by omega) o (by omega)
              · have := h t s (by omega) (by omega) (by omega)
                rw [Nat.add_comm t s] at this
                omega
  exact fun s t => key _ s t rfl
/-- what a row of the law is, good or not -/
structure RowB (vs : List Int) (p : Nat) (g : Int) : Prop where
  p1 : 1 ≤ p
  pn : p ≤ vs.length
  p12 : p = 1 ∨ p = 2 ∨ p = 3 ∨ p = 4 ∨ p = 6 ∨ p = 12
  n24 : vs.length ≤ 24
  lo : ∀ i, i < vs.length → 0 ≤ vs.getD i 0 ∧ vs.getD i 0 ≤ 2000
  up : ∀ i, i + 1 < vs.length → vs.getD i 0 ≤ vs.getD (i + 1) 0
  g0 : 0 ≤ g ∧ g ≤ 2000
  end_ : vs.getD (vs.length - 1) 0 ≤ vAt vs p g (vs.length + 1)
namespace RowB
variable {vs : List Int} {p : Nat} {g : Int}
theorem per (R : RowB vs p g) : PerF (vAt vs p g) vs.length p g := vAt_per R.p1 R.pn
theorem dvd (R : RowB vs p g) : p ∣ 12 := by
  rcases R.p12 with h | h | h | h | h | h <;> subst h <;> decide
theorem le12 (R : RowB vs p g) : p ≤ 12 := by
  rcases R.p12 with h | h | h | h | h | h <;> omega
theorem mono (R : RowB vs p g) : Mono (vAt vs p g) := by
  intro l
  induction l using Nat.strongRecOn with
  | ind l ih =>
    have hp1 := R.p1
    have hpn := R.pn
    by_cases z : l = 0
    · subst z
      rw [vAt_zero, vAt_low (by omega) (by omega)]
      exact (R.lo _ (by omega)).1
    · by_cases h : l + 1 ≤ vs.length
      · rw [vAt_low (by omega) (by omega), vAt_low (by omega) h]
        have := R.up (l - 1) (by omega)
        rw [show l - 1 + 1 = l + 1 - 1 from by omega] at this
        exact this
      · by_cases e : l = vs.length
        · rw [vAt_low (l := l) (by omega) (by omega), e]
          exact R.end_
        · rw [R.per l (by omega), R.per (l + 1) (by omega)]
          have := ih (l - p) (by omega)
          rw [show l - p + 1 = l + 1 - p from by omega] at this
          omega
theorem nn (R : RowB vs p g) (l : Nat) : 0 ≤ vAt vs p g l := mono_nn R.mono (vAt_zero _ _ _) l
theorem bound (R : RowB vs p g) (l : Nat) : vAt vs p g l ≤ 2000 * ((l : Int) + 1) := by
  induction l using Nat.strongRecOn with
  | ind l ih =>
    have hp1 := R.p1
    have hpn := R.pn
    have hg := R.g0
    by_cases z : l = 0
    · subst z
      rw [vAt_zero]
      omega
    · by_cases h : l ≤ vs.length
      · rw [vAt_low (by omega) h]
        have := (R.lo (l - 1) (by omega)).2
        omega
      · rw [R.per l (by omega)]
        have := ih (l - p) (by omega)
        omega
end RowB
/-! ### records -/
/-- how many units entered in the first i ticks -/
def pre (xs : List Int) (i : Nat) : Int := (xs.take i).sum
theorem pre_zero (xs : List Int) : pre xs 0 = 0 := by simp [pre]
theorem pre_all (xs : List Int) : pre xs xs.length = xs.sum := by simp [pre]
theorem pre_succ {xs : List Int} {i : Nat} {z : Int} (h : xs[i]? = some z) : pre xs (i + 1) = pre xs i + z := by
  unfold pre
  rw [List.take_add_one, h]
  simp
theorem pre_app_le {xs ys : List Int} {i : Nat} (h : i ≤ xs.length) : pre (xs ++ ys) i = pre xs i := by
  unfold pre
  rw [List.take_append_of_le_length h]
theorem pre_app_one (xs : List Int) (x : Int) : pre (xs ++ [x]) (xs.length + 1) = xs.sum + x := by
  unfold pre
  rw [List.take_of_length_le (by simp)]
  simp
theorem drop_sum (xs : List Int) (i : Nat) : (xs.drop i).sum = xs.sum - pre xs i := by
  have h : (xs.take i ++ xs.drop i).sum = xs.sum := by rw [List.take_append_drop]
  rw [List.sum_append] at h
  unfold pre
  omega
def Keeps (f : Nat → Int) (xs : List Int) : Prop := ∀ i j, i ≤ j → j ≤ xs.length → pre xs j - pre xs i ≤ f (j - i)
theorem keeps_nil {f : Nat → Int} (h0 : f 0 = 0) : Keeps f [] := by
  intro i j hij hj
  have : j = 0 := by simpa using hj
  subst this
  have : i = 0 := by omega
  subst this
  rw [Nat.sub_self, h0]
  omega
theorem keeps_more {f : Nat → Int} {xs : List Int} {x : Int} (h0 : f 0 = 0) (h : Keeps f xs) (hx : ∀ i, i ≤ xs.length → xs.sum - pre xs (xs.length - i) + x ≤ f (i + 1)) : Keeps f (xs ++ [x]) := by
  intro i j hij hj
  have hj' : j ≤ xs.length + 1 := by simpa using hj
  by_cases e : j = xs.length + 1
  · subst e
    rw [pre_app_one]
    by_cases e2 : i = xs.length + 1
    · subst e2
      rw [pre_app_one, Nat.sub_self, h0]
      omega
    · rw [pre_app_le (by omega)]
      have := hx (xs.length - i) (by omega)
      rw [show xs.length - (xs.length - i) = i from by omega, show xs.length - i + 1 = xs.length + 1 - i from by omega] at this
      omega
  · rw [pre_app_le (by omega), pre_app_le (by omega)]
    exact h i j hij (by omega)
/-- the least of what the windows that end with the next tick leave, of the n + 1 shortest ones -/
def least (f : Nat → Int) (xs : List Int) : Nat → Int
  | 0 => f 1
  | n + 1 => min (least f xs n) (f (n + 2) - (xs.sum - pre xs (xs.length - (n + 1))))
theorem least_le {f : Nat → Int} {xs : List Int} : ∀ {n i : Nat}, i ≤ n → least f xs n ≤ f (i + 1) - (xs.sum - pre xs (xs.length - i))
  | 0, i, h => by
    have : i = 0 := by omega
    subst this
    have e : xs.sum - pre xs xs.length = 0 := by rw [pre_all]; omega
    show f 1 ≤ f 1 - (xs.sum - pre xs xs.length)
    omega
  | n + 1, i, h => by
    show min (least f xs n) (f (n + 2) - (xs.sum - pre xs (xs.length - (n + 1)))) ≤ _
    by_cases e : i = n + 1
    · subst e
      exact Int.min_le_right _ _
    · exact Int.le_trans (Int.min_le_left _ _) (least_le (by omega))
theorem le_least {f : Nat → Int} {xs : List Int} {c : Int} : ∀ {n : Nat}, (∀ i, i ≤ n → c ≤ f (i + 1) - (xs.sum - pre xs (xs.length - i))) → c ≤ least f xs n
  | 0, h => by
    have := h 0 (Nat.le_refl _)
    have e : xs.sum - pre xs xs.length = 0 := by rw [pre_all]; omega
    have this : c ≤ f 1 - (xs.sum - pre xs xs.length) := this
    show c ≤ f 1
    omega
  | n + 1, h => by
    show c ≤ min (least f xs n) (f (n + 2) - (xs.sum - pre xs (xs.length - (n + 1))))
    exact Int.le_min.mpr ⟨le_least fun i hi => h i (by omega), h (n + 1) (Nat.le_refl _)⟩
def mayEnter (f : Nat → Int) (xs : List Int) : Int := max 0 (least f xs xs.length)
theorem mayEnter_nn (f : Nat → Int) (xs : List Int) : 0 ≤ mayEnter f xs := Int.le_max_left _ _
/-- where a record keeps, what may enter leaves it keeping -/
theorem room_ok {f : Nat → Int} {xs : List Int} (hm : Mono f) (h : Keeps f xs) : 0 ≤ least f xs xs.length := by
  refine le_least fun i hi => ?_
  have a := h (xs.length - i) xs.length (by omega) (Nat.le_refl _)
  rw [pre_all, show xs.length - (xs.length - i) = i from by omega] at a
  have := hm i
  omega
theorem keeps_room {f : Nat → Int} {xs : List Int} {x : Int} (h0 : f 0 = 0) (hm : Mono f) (h : Keeps f xs) (hx : x ≤ mayEnter f xs) : Keeps f (xs ++ [x]) := by
  refine keeps_more h0 h fun i hi => ?_
  have a := room_ok hm h
  have b := least_le (f := f) (xs := xs) hi
  unfold mayEnter at hx
  rw [Int.max_eq_right a] at hx
  omega
theorem room_bound {f : Nat → Int} {xs : List Int} (h0 : 0 ≤ f 1) : mayEnter f xs ≤ f 1 := by
  have b := least_le (f := f) (xs := xs) (Nat.zero_le xs.length)
  have e : xs.sum - pre xs xs.length = 0 := by rw [pre_all]; omega
  have b' : least f xs xs.length ≤ f 1 - (xs.sum - pre xs xs.length) := b
  exact Int.max_le.mpr ⟨h0, by omega⟩
/-! ### the greedy record -/
def due (f : Nat → Int) (k : Nat) : List Int := (List.range k).map fun t => f (t + 1) - f t
theorem due_length (f : Nat → Int) (k : Nat) : (due f k).length = k := by simp [due]
theorem due_succ (f : Nat → Int) (k : Nat) : due f (k + 1) = due f k ++ [f (k + 1) - f k] := by
  unfold due
  rw [List.range_succ, List.map_append]
  rfl
theorem due_get (f : Nat → Int) {k i : Nat} (h : i < k) : (due f k)[i]? = some (f (i + 1) - f i) := by
  simp [due, h]
theorem due_pre {f : Nat → Int} (h0 : f 0 = 0) : ∀ {k i : Nat}, i ≤ k → pre (due f k) i = f i
  | k, 0, _ => by rw [pre_zero, h0]
  | k, i + 1, h => by
    rw [pre_succ (due_get f (by omega)), due_pre h0 (by omega)]
    omega
theorem due_sum {f : Nat → Int} (h0 : f 0 = 0) (k : Nat) : (due f k).sum = f k := by
  have := due_pre h0 (Nat.le_refl k)
  rw [← this, ← pre_all, due_length]
theorem due_keeps {f : Nat → Int} (h0 : f 0 = 0) (hs : Sub f) (k : Nat) : Keeps f (due f k) := by
  intro i j hij hj
  rw [due_length] at hj
  rw [due_pre h0 hj, due_pre h0 (by omega)]
  have := hs (j - i) i
  rw [show j - i + i = j from by omega] at this
  omega
theorem due_nn {f : Nat → Int} (hm : Mono f) {k : Nat} : ∀ x ∈ due f k, 0 ≤ x := by
  intro x hx
  unfold due at hx
  obtain ⟨t, _, rfl⟩ := List.mem_map.mp hx
  have := hm t
  omega
theorem due_ahead {f : Nat → Int} (h0 : f 0 = 0) {xs : List Int} (h : Keeps f xs) {k : Nat} (hk : k ≤ xs.length) : pre xs k ≤ pre (due f xs.length) k := by
  rw [due_pre h0 hk]
  have := h 0 k (Nat.zero_le _) hk
  rw [pre_zero] at this
  simpa using this
theorem due_may {f : Nat → Int} (h0 : f 0 = 0) (hm : Mono f) (hs : Sub f) (t : Nat) : mayEnter f (due f t) = f (t + 1) - f t := by
  have e : least f (due f t) (due f t).length = f (t + 1) - f t := by
    rw [due_length]
    refine Int.le_antisymm ?_ (le_least fun i hi => ?_)
    · have := least_le (f := f) (xs := due f t) (Nat.le_refl t)
      rw [due_length, due_sum h0, Nat.sub_self, pre_zero] at this
      omega
    · rw [due_length, due_sum h0, due_pre h0 (by omega)]
      have := hs (i + 1) (t - i)
      rw [show i + 1 + (t - i) = t + 1 from by omega] at this
      omega
  unfold mayEnter
  rw [e]
  have := hm t
  exact Int.max_eq_right (by omega)
/-! ### breaches -/
/-- the first window (by length, then by start) with too many -/
def Brk (f : Nat → Int) (xs : List Int) (L s : Nat) (e : Int) : Prop :=
  1 ≤ L ∧ s + L ≤ xs.length ∧ e = pre xs (s + L) - pre xs s - f L ∧ 0 < e ∧
  (∀ l u, 1 ≤ l → l < L → u + l ≤ xs.length → pre xs (u + l) - pre xs u ≤ f l) ∧ ∀ u, u < s → pre xs (u + L) - pre xs u ≤ f L
theorem Brk.one {f : Nat → Int} {xs : List Int} {L s L' s' : Nat} {e e' : Int} (a : Brk f xs L s e) (b : Brk f xs L' s' e') : L = L' ∧ s = s' ∧ e = e' := by
  obtain ⟨a1, a2, a3, a4, a5, a6⟩ := a
  obtain ⟨b1, b2, b3, b4, b5, b6⟩ := b
  have hL : L = L' := by
    rcases Nat.lt_trichotomy L L' with h | h | h
    · have := b5 L s a1 h a2
      omega
    · exact h
    · have := a5 L' s' b1 h b2
      omega
  subst hL
  have hs : s = s' := by
    rcases Nat.lt_trichotomy s s' with h | h | h
    · have := b6 s h
      omega
    · exact h
    · have := a6 s' h
      omega
  subst hs
  exact ⟨rfl, rfl, by omega⟩
theorem Brk.not {f : Nat → Int} {xs : List Int} {L s : Nat} {e : Int} (a : Brk f xs L s e) : ¬ Keeps f xs := by
  obtain ⟨a1, a2, a3, a4, _⟩ := a
  intro h
  have := h s (s + L) (by omega) a2
  rw [show s + L - s = L from by omega] at this
  omega
theorem keeps_of {f : Nat → Int} {xs : List Int} (h0 : f 0 = 0) (h : ∀ l u, 1 ≤ l → u + l ≤ xs.length → pre xs (u + l) - pre xs u ≤ f l) : Keeps f xs := by
  intro i j hij hj
  by_cases e : i = j
  · subst e
    rw [Nat.sub_self, h0]
    omega
  · have := h (j - i) i (by omega) (by omega)
    rw [show i + (j - i) = j from by omega] at this
    exact this
/-- the greedy record of k + 1 ticks, with a unit more in the last one -/
def dueOne (f : Nat → Int) (k : Nat) : List Int := due f k ++ [f (k + 1) - f k + 1]
theorem dueOne_length (f : Nat → Int) (k : Nat) : (dueOne f k).length = k + 1 := by simp [dueOne, due_length]
theorem dueOne_lo {f : Nat → Int} (h0 : f 0 = 0) {k i : Nat} (h : i ≤ k) : pre (dueOne f k) i = f i := by
  unfold dueOne
  rw [pre_app_le (by rw [due_length]; exact h), due_pre h0 h]
theorem dueOne_hi {f : Nat → Int} (h0 : f 0 = 0) (k : Nat) : pre (dueOne f k) (k + 1) = f (k + 1) + 1 := by
  have := pre_app_one (due f k) (f (k + 1) - f k + 1)
  rw [due_length] at this
  unfold dueOne
  rw [this, due_sum h0]
  omega
theorem dueOne_brk {f : Nat → Int} (h0 : f 0 = 0) (hs : Sub f) {k L : Nat} (h1 : 1 ≤ L) (hk : L ≤ k + 1) (hL : f (k + 1) - f (k + 1 - L) + 1 > f L)
    (hmin : ∀ l, 1 ≤ l → l < L → f (k + 1) - f (k + 1 - l) + 1 ≤ f l) : Brk f (dueOne f k) L (k + 1 - L) 1 := by
  have hsL := hs L (k + 1 - L)
  rw [show L + (k + 1 - L) = k + 1 from by omega] at hsL
  refine ⟨h1, by rw [dueOne_length]; omega, ?_, by omega, fun l u hl hlL hu => ?_, fun u hu => ?_⟩
  · rw [show k + 1 - L + L = k + 1 from by omega, dueOne_hi h0, dueOne_lo h0 (by omega)]
    omega
  · rw [dueOne_length] at hu
    by_cases e : u + l = k + 1
    · rw [e, dueOne_hi h0, dueOne_lo h0 (by omega)]
      have := hmin l hl hlL
      rw [show k + 1 - l = u from by omega] at this
      omega
    · rw [dueOne_lo h0 (by omega), dueOne_lo h0 (by omega)]
      have := hs l u
      rw [Nat.add_comm l u] at this
      omega
  · rw [dueOne_lo h0 (by omega), dueOne_lo h0 (by omega)]
    have := hs L u
    rw [Nat.add_comm L u] at this
    omega
/-! ### the break of a curve -/
/-- the first pair (by both lengths together, then by the lesser one) that breaks, among those that a form of m values is asked at -/
def FBr (f : Nat → Int) (m b o : Nat) : Prop :=
  (2 ≤ b ∧ b ≤ 2 * m ∧ max 1 (b - m) ≤ o ∧ o ≤ b / 2 ∧ f b > f o + f (b - o)) ∧
  (∀ b' o', 2 ≤ b' → b' < b → max 1 (b' - m) ≤ o' → o' ≤ b' / 2 → f b' ≤ f o' + f (b' - o')) ∧ ∀ o', max 1 (b - m) ≤ o' → o' < o → f b ≤ f o' + f (b - o')
theorem FBr.good {f : Nat → Int} {m b o : Nat} (h : FBr f m b o) : ¬ Sub f := by
  intro hs
  obtain ⟨⟨h1, _, _, h4, h5⟩, _, _⟩ := h
  have := hs o (b - o)
  rw [show o + (b - o) = b from by omega] at this
  omega
/-- k times a, then c -/
def badV (a c : Int) (k : Nat) : List Int := List.replicate k a ++ [c]
theorem badV_length (a c : Int) (k : Nat) : (badV a c k).length = k + 1 := by simp [badV]
theorem badV_lo {a c : Int} {k i : Nat} (h : i < k) : (badV a c k).getD i 0 = a := by
  unfold badV
  rw [List.getD_eq_getElem?_getD, List.getElem?_append_left (by simpa using h), List.getElem?_replicate, if_pos h]
  rfl
theorem badV_hi {a c : Int} {k : Nat} : (badV a c k).getD k 0 = c := by
  unfold badV
  rw [List.getD_eq_getElem?_getD, List.getElem?_append_right (by simp)]
  simp
theorem bad_at_lo {a c : Int} {k l : Nat} (h1 : 1 ≤ l) (h : l ≤ k) : vAt (badV a c k) 1 0 l = a := by
  rw [vAt_low h1 (by rw [badV_length]; omega), badV_lo (by omega)]
theorem bad_at_hi {a c : Int} {k : Nat} : ∀ {l : Nat}, k + 1 ≤ l → vAt (badV a c k) 1 0 l = c := by
  intro l
  induction l with
  | zero => intro h; omega
  | succ l ih =>
    intro h
    by_cases e : l = k
    · subst e
      rw [vAt_low (by omega) (by rw [badV_length]; omega)]
      exact badV_hi
    · rw [vAt_per (vs := badV a c k) (p := 1) (g := 0) (by omega) (by rw [badV_length]; omega) (l + 1) (by rw [badV_length]; omega), Nat.add_sub_cancel, ih (by omega)]
      omega
theorem bad_row {a c : Int} {k : Nat} (ha : 0 ≤ a) (hac : a ≤ c) (hc : c ≤ 2000) (hk : 1 ≤ k) (hk3 : k ≤ 3) : RowB (badV a c k) 1 0 where
  p1 := Nat.le_refl _
  pn := by rw [badV_length]; omega
  p12 := .inl rfl
  n24 := by rw [badV_length]; omega
  lo := fun i hi => by
    rw [badV_length] at hi
    by_cases e : i < k
    · rw [badV_lo e]
      omega
    · rw [show i = k from by omega, badV_hi]
      omega
  up := fun i hi => by
    rw [badV_length] at hi
    rw [badV_lo (by omega)]
    by_cases e : i + 1 < k
    · rw [badV_lo e]
      omega
    · rw [show i + 1 = k from by omega, badV_hi]
      omega
  g0 := by omega
  end_ := by
    rw [badV_length, show k + 1 - 1 = k from by omega, badV_hi, bad_at_hi (by omega)]
    omega
/-- a form of a bad row is not shorter than the row -/
theorem bad_form {a c : Int} {k q : Nat} {fv : List Int} {G : Int} (ha : 0 < a) (hac : a < c) (hq : 1 ≤ q) (hl : q ≤ fv.length) (W : Writes (vAt (badV a c k) 1 0) fv q G) : k + 1 ≤ fv.length := by
  have P := vAt_per (vs := fv) (p := q) (g := G) hq hl
  refine Nat.le_of_not_lt fun hn => ?_
  have e1 := P (k + 1 + fv.length + q) (by omega)
  rw [W, W, bad_at_hi (by omega), bad_at_hi (by omega)] at e1
  have e2 := P (k + 1) (by omega)
  rw [W, W, bad_at_hi (by omega)] at e2
  rw [bad_at_lo (l := k + 1 - q) (by omega) (by omega)] at e2
  omega
theorem bad_break {a c : Int} {k m b o : Nat} (ha : 0 < a) (hc : 2 * a < c) (hk : 1 ≤ k) (hm : k + 1 ≤ m) (h : FBr (vAt (badV a c k) 1 0) m b o) : b = k + 1 ∧ o = 1 := by
  obtain ⟨⟨h1, h2, h3, h4, h5⟩, h6, h7⟩ := h
  have hb : ¬ k + 1 < b := fun z => by
    have := h6 (k + 1) 1 (by omega) z (by omega) (by omega)
    rw [bad_at_hi (by omega), bad_at_lo (l := 1) (by omega) hk, bad_at_lo (l := k + 1 - 1) (by omega) (by omega)] at this
    omega
  have hb2 : ¬ b < k + 1 := fun z => by
    rw [bad_at_lo (l := b) (by omega) (by omega), bad_at_lo (l := o) (by omega) (by omega), bad_at_lo (l := b - o) (by omega) (by omega)] at h5
    omega
  have e : b = k + 1 := by omega
  subst e
  refine ⟨rfl, ?_⟩
  refine Nat.le_antisymm (Nat.le_of_not_lt fun z => ?_) (by omega)
  have := h7 1 (by omega) z
  rw [bad_at_hi (by omega), bad_at_lo (l := 1) (by omega) hk, bad_at_lo (l := k + 1 - 1) (by omega) (by omega)] at this
  omega
theorem bad_not {a c : Int} {k : Nat} (hc : 2 * a < c) (hk : 1 ≤ k) : ¬ Sub (vAt (badV a c k) 1 0) := by
  intro h
  have := h 1 k
  rw [bad_at_hi (by omega), bad_at_lo (l := 1) (by omega) hk, bad_at_lo hk (Nat.le_refl _)] at this
  omega
end K23

/-! ## KHead -/
set_option maxHeartbeats 0
namespace K23
open PySem PySem.Spec PyProof.Rows L2
/-! ### the text by places -/
def topS (i : Nat) : Stmt := PySem.Challenge.pw_dueways_k23_whole_greedy_is_ahead.main.body.getD i (.Pass ⟨0, 0, 0, 0⟩)
abbrev s_is_integer : Stmt := topS 13
abbrev s_is_count : Stmt := topS 14
abbrev s_value_at : Stmt := topS 16
abbrev s_grows_by : Stmt := topS 17
abbrev s_form_of : Stmt := topS 18
abbrev s_check_values : Stmt := topS 19
abbrev s_check_growth : Stmt := topS 20
abbrev s_require_good : Stmt := topS 23
abbrev s_check_record : Stmt := topS 26
abbrev s_sums_of : Stmt := topS 27
abbrev s_breach : Stmt := topS 28
abbrev s_keeps : Stmt := topS 29
abbrev s_greedy : Stmt := topS 30
abbrev s_allowance : Stmt := topS 31
abbrev s_shaped : Stmt := topS 32
abbrev s_law_rng : Stmt := topS 37
abbrev s_law_draw : Stmt := topS 38
abbrev s_law_choice : Stmt := topS 39
abbrev s_law_at : Stmt := topS 40
abbrev s_law_is_good : Stmt := topS 41
abbrev s_law_rows : Stmt := topS 42
abbrev s_law_row : Stmt := topS 43
abbrev s_law_room : Stmt := topS 44
abbrev s_law_kept : Stmt := topS 45
abbrev s_law_sums : Stmt := topS 46
abbrev s_law_bad : Stmt := topS 47
abbrev s_law_refused : Stmt := topS 48
abbrev s_law_policed : Stmt := topS 49
abbrev s_law_long_right : Stmt := topS 50
abbrev s_law_right : Stmt := topS 51
abbrev s_law : Stmt := topS 52
abbrev s_Curve_init : Stmt := inClass (topS 21) 0
abbrev s_Curve_at : Stmt := inClass (topS 21) 6
abbrev s_Curve_find_break : Stmt := inClass (topS 21) 7
abbrev s_Police_init : Stmt := inClass (topS 35) 0
abbrev s_Police_step : Stmt := inClass (topS 35) 4
abbrev s_Police_record : Stmt := inClass (topS 35) 5
abbrev s_NotGood_init : Stmt := inClass (topS 7) 0
/-! ### the defs -/
def d_is_integer : He.DefD := ⟨("is_integer", none), "is_integer", "is_integer", defArgs s_is_integer, defBody s_is_integer, defScope s_is_integer, [], []⟩
def d_is_count : He.DefD := ⟨("is_count", none), "is_count", "is_count", defArgs s_is_count, defBody s_is_count, defScope s_is_count, [.non], []⟩
def d_value_at : He.DefD := ⟨("value_at", none), "value_at", "value_at", defArgs s_value_at, defBody s_value_at, defScope s_value_at, [], []⟩
def d_grows_by : He.DefD := ⟨("grows_by", none), "grows_by", "grows_by", defArgs s_grows_by, defBody s_grows_by, defScope s_grows_by, [], []⟩
def d_form_of : He.DefD := ⟨("form_of", none), "form_of", "form_of", defArgs s_form_of, defBody s_form_of, defScope s_form_of, [], []⟩
def d_check_values : He.DefD := ⟨("check_values", none), "check_values", "check_values", defArgs s_check_values, defBody s_check_values, defScope s_check_values, [], []⟩
def d_check_growth : He.DefD := ⟨("check_growth", none), "check_growth", "check_growth", defArgs s_check_growth, defBody s_check_growth, defScope s_check_growth, [], []⟩
def d_require_good : He.DefD := ⟨("require_good", none), "require_good", "require_good", defArgs s_require_good, defBody s_require_good, defScope s_require_good, [], []⟩
def d_check_record : He.DefD := ⟨("check_record", none), "check_record", "check_record", defArgs s_check_record, defBody s_check_record, defScope s_check_record, [], []⟩
def d_sums_of : He.DefD := ⟨("sums_of", none), "sums_of", "sums_of", defArgs s_sums_of, defBody s_sums_of, defScope s_sums_of, [], []⟩
def d_breach : He.DefD := ⟨("breach", none), "breach", "breach", defArgs s_breach, defBody s_breach, defScope s_breach, [], []⟩
def d_keeps : He.DefD := ⟨("keeps", none), "keeps", "keeps", defArgs s_keeps, defBody s_keeps, defScope s_keeps, [], []⟩
def d_greedy : He.DefD := ⟨("greedy", none), "greedy", "greedy", defArgs s_greedy, defBody s_greedy, defScope s_greedy, [], []⟩
def d_allowance : He.DefD := ⟨("allowance", none), "allowance", "allowance", defArgs s_allowance, defBody s_allowance, defScope s_allowance, [], []⟩
def d_shaped : He.DefD := ⟨("shaped", none), "shaped", "shaped", defArgs s_shaped, defBody s_shaped, defScope s_shaped, [], []⟩
def d_law_rng : He.DefD := ⟨("_law_rng", none), "_law_rng", "_law_rng", defArgs s_law_rng, defBody s_law_rng, defScope s_law_rng, [], []⟩
def d_law_draw : He.DefD := ⟨("_law_draw", none), "_law_draw", "_law_draw", defArgs s_law_draw, defBody s_law_draw, defScope s_law_draw, [], []⟩
def d_law_choice : He.DefD := ⟨("_law_choice", none), "_law_choice", "_law_choice", defArgs s_law_choice, defBody s_law_choice, defScope s_law_choice, [], []⟩
def d_law_at : He.DefD := ⟨("_law_at", none), "_law_at", "_law_at", defArgs s_law_at, defBody s_law_at, defScope s_law_at, [], []⟩
def d_law_is_good : He.DefD := ⟨("_law_is_good", none), "_law_is_good", "_law_is_good", defArgs s_law_is_good, defBody s_law_is_good, defScope s_law_is_good, [], []⟩
def d_law_rows : He.DefD := ⟨("_law_rows", none), "_law_rows", "_law_rows", defArgs s_law_rows, defBody s_law_rows, defScope s_law_rows, [], []⟩
def d_law_row : He.DefD := ⟨("_law_row", none), "_law_row", "_law_row", defArgs s_law_row, defBody s_law_row, defScope s_law_row, [], []⟩
def d_law_room : He.DefD := ⟨("_law_room", none), "_law_room", "_law_room", defArgs s_law_room, defBody s_law_room, defScope s_law_room, [], []⟩
def d_law_kept : He.DefD := ⟨("_law_kept", none), "_law_kept", "_law_kept", defArgs s_law_kept, defBody s_law_kept, defScope s_law_kept, [], []⟩
def d_law_sums : He.DefD := ⟨("_law_sums", none), "_law_sums", "_law_sums", defArgs s_law_sums, defBody s_law_sums, defScope s_law_sums, [], []⟩
def d_law_bad : He.DefD := ⟨("_law_bad", none), "_law_bad", "_law_bad", defArgs s_law_bad, defBody s_law_bad, defScope s_law_bad, [], []⟩
def d_law_refused : He.DefD := ⟨("_law_refused", none), "_law_refused", "_law_refused", defArgs s_law_refused, defBody s_law_refused, defScope s_law_refused, [], []⟩
def d_law_policed : He.DefD := ⟨("_law_policed", none), "_law_policed", "_law_policed", defArgs s_law_policed, defBody s_law_policed, defScope s_law_policed, [], []⟩
def d_law_long_right : He.DefD := ⟨("_law_long_right", none), "_law_long_right", "_law_long_right", defArgs s_law_long_right, defBody s_law_long_right, defScope s_law_long_right, [], []⟩
def d_law_right : He.DefD := ⟨("_law_right", none), "_law_right", "_law_right", defArgs s_law_right, defBody s_law_right, defScope s_law_right, [], []⟩
def d_law : He.DefD := ⟨("law", none), "law", "law", defArgs s_law, defBody s_law, defScope s_law, [], []⟩
def d_Curve_init : He.DefD := ⟨("Curve", some "__init__"), "__init__", "Curve.__init__", defArgs s_Curve_init, defBody s_Curve_init, defScope s_Curve_init, [], [("period", .int 1), ("gain", .int 0)]⟩
def d_Curve_at : He.DefD := ⟨("Curve", some "at"), "at", "Curve.at", defArgs s_Curve_at, defBody s_Curve_at, defScope s_Curve_at, [], []⟩
def d_Curve_find_break : He.DefD := ⟨("Curve", some "find_break"), "find_break", "Curve.find_break", defArgs s_Curve_find_break, defBody s_Curve_find_break, defScope s_Curve_find_break, [], []⟩
def d_Police_init : He.DefD := ⟨("Police", some "__init__"), "__init__", "Police.__init__", defArgs s_Police_init, defBody s_Police_init, defScope s_Police_init, [], [("queue", .int 60)]⟩
def d_Police_step : He.DefD := ⟨("Police", some "step"), "step", "Police.step", defArgs s_Police_step, defBody s_Police_step, defScope s_Police_step, [], [("leak", .int 0), ("closed", .bl false)]⟩
def d_Police_record : He.DefD := ⟨("Police", some "record"), "record", "Police.record", defArgs s_Police_record, defBody s_Police_record, defScope s_Police_record, [], []⟩
def d_NotGood_init : He.DefD := ⟨("NotGood", some "__init__"), "__init__", "NotGood.__init__", defArgs s_NotGood_init, defBody s_NotGood_init, defScope s_NotGood_init, [], []⟩
def fnA : List He.DefD := [d_is_integer, d_is_count, d_value_at, d_grows_by, d_form_of, d_check_values, d_check_growth, d_require_good, d_check_record, d_sums_of, d_breach, d_keeps, d_greedy, d_allowance, d_shaped, d_law_rng, d_law_draw, d_law_choice, d_law_at, d_law_is_good, d_law_rows, d_law_row, d_law_room, d_law_kept, d_law_sums, d_law_bad, d_law_refused, d_law_policed, d_law_long_right, d_law_right, d_law]
def fnB : List He.DefD := [d_Curve_init, d_Curve_at, d_Curve_find_break, d_Police_init, d_Police_step, d_Police_record, d_NotGood_init]
def fnL : List He.DefD := fnA ++ fnB
def faA : List He.Fa := [.glo "is_integer", .glo "is_count", .glo "value_at", .glo "grows_by", .glo "form_of", .glo "check_values", .glo "check_growth", .glo "require_good", .glo "check_record", .glo "sums_of", .glo "breach", .glo "keeps", .glo "greedy", .glo "allowance", .glo "shaped", .glo "_law_rng", .glo "_law_draw", .glo "_law_choice", .glo "_law_at", .glo "_law_is_good", .glo "_law_rows", .glo "_law_row", .glo "_law_room", .glo "_law_kept", .glo "_law_sums", .glo "_law_bad", .glo "_law_refused", .glo "_law_policed", .glo "_law_long_right", .glo "_law_right", .glo "law", .glo "Curve", .glo "Police", .glo "NotGood", .glo "DueError", .glo "InvalidCount", .glo "InvalidRecord", .glo "PERIODS"]
def faB : List He.Fa := [.free "isinstance", .free "int", .free "bool", .free "list", .free "len", .free "range", .free "min", .free "max", .free "sum", .free "abs", .free "enumerate", .free "reversed", .free "repr", .free "all", .free "zip", .free "divmod", .free "RuntimeError"]
def faC : List He.Fa := [.int "MAX_VALUES" 24, .int "COMMON" 12, .int "MAX_VALUE" 2000, .int "MOST_TICKS" 400, .cls "Curve", .cls "Police", .noat "Curve" "value_list", .noat "Curve" "own_period", .noat "Curve" "own_gain", .noat "Police" "own_curve", .noat "Police" "own_queue", .noat "Police" "own_held", .noat "Police" "own_returned", .noat "Police" "own_entered", .noat "Police" "was_open", .meth "Curve" "at", .meth "Curve" "find_break", .meth "Police" "step", .meth "Police" "record", .mkr "Curve", .mkr "Police"]
def faL : List He.Fa := faA ++ (faB ++ faC)
/-! ### what is told of the classes of errors -/
def ngC (K : PySem.W.Frag) : Addr := He.ga K "NotGood"
/-- NotGood's class object: RuntimeError's chain behind it, made by RuntimeError's own maker -/
def reB (K : PySem.W.Frag) (C : Addr) : Bool := match K.lookup C with
  | some ⟨.type "type", _, .cls cd, sl⟩ => (match cd.mro, sl.toList with
    | [.ref D, .type a, .type b, .type c, .type d], [_, _, _, _, some (.builtin n), _] => decide (D = C) && (decide (n = "RuntimeError.__new__") && (!cd.hasDel && (cd.hasDict && (decide (a = "RuntimeError") && (decide (b = "Exception") && (decide (c = "BaseException") && decide (d = "object")))))))
    | _, _ => false)
  | _ => false
def exL (K : PySem.W.Frag) : List Bool := [
  reB K (ngC K),
  He.eqO (PySem.W.findIn K (.ref (ngC K)) "__setattr__") (some (some (.builtin "object.__setattr__"))),
  decide (PySem.W.subIn K (.ref (ngC K)) (.type "BaseException") = some true),
  decide (PySem.W.typeIn K (.ref (ngC K)) = some (.type "type")),
  PySem.W.keepIn K (.ref (ngC K)),
  He.eqO (PySem.W.findIn K (.ref (ngC K)) "first") (some none),
  He.eqO (PySem.W.findIn K (.ref (ngC K)) "second") (some none),
  He.eqO (PySem.W.findIn K (.ref (ngC K)) "__init__") (some (some (.ref (He.ma K (ngC K) "__init__")))),
  decide (PySem.W.typeIn K (.ref (He.ma K (ngC K) "__init__")) = some (.type "function")),
  xfB K (ngC K),
  He.eqO (PySem.W.findIn K (.ref (ngC K)) "__class__") (some (some (.builtin "object.__class__"))),
  He.eqO (PySem.W.specialIn K (.builtin "object.__class__") "__get__") (some (some (.builtin "getset_descriptor.__get__"))),
  decide (PySem.W.takesIn K (.builtin "object.__class__") = some true),
  decide (PySem.W.mroIn K (ngC K) (.type "object") = some true),
  decide (PySem.W.exmOne K (.ref (ngC K)) (.ref (ngC K)) = some true),
  decide (PySem.W.kitOne K (.ref (ngC K)) (.type "RuntimeError") = some true),
  decide (PySem.W.kitAny K (.ref (ngC K)) [.ref (He.ga K "DueError"), .ref (He.ga K "InvalidCount"), .ref (He.ga K "InvalidRecord")] = some false),
  He.tupB K "PERIODS" [.int 1, .int 2, .int 3, .int 4, .int 6, .int 12],
  decide (PySem.W.kitOne K (.type "int") (.type "int") = some true),
  decide (PySem.W.kitOne K (.type "int") (.type "bool") = some false),
  decide (PySem.W.kitOne K (.type "list") (.type "list") = some true)]
def exB (K : PySem.W.Frag) : Bool := (exL K).all id
/-! ### the run -/
abbrev R : PySem.W.OpenRow := PySem.W.OpenLaw.row PySem.Challenge.rw_dueways_k23_whole_greedy_is_ahead
abbrev hk : PySem.W.Hook := He.hookX 5 faL fnL [] [] exB
def ob (s : PySem.W.SharedT) : He.AlX := He.obsX 5 faL fnL [] [] exB (HandSHeadRun.getT s)
theorem ob_eq (s : PySem.W.SharedT) : ob s = hk.obs s.abs := He.obsX_eq (HandSHeadRun.getT_eq s)
def looseA : List Str := ["_wall", "DueError", "InvalidCurve", "InvalidLength", "InvalidCount", "InvalidRecord", "NotGood", "MAX_VALUES", "PERIODS", "COMMON", "MAX_VALUE", "is_integer", "is_count", "divisor", "value_at", "grows_by", "form_of", "check_values", "check_growth", "Curve", "MadeCurve", "require_good", "MOST_TICKS", "check_record", "sums_of", "breach", "keeps", "greedy", "allowance", "shaped", "MOST_WAITING", "Police"]
def looseB : List Str := ["_law_rng", "_law_draw", "_law_choice", "_law_at", "_law_is_good", "_law_rows", "_law_row", "_law_room", "_law_kept", "_law_sums", "_law_bad", "_law_refused", "_law_policed", "_law_long_right", "_law_right"]
def looseL : List Str := looseA ++ looseB
theorem run (w : World) : HandSHeadRun.RunEq R (PySem.W.view R.prog [52]) hk ob 60000 looseL w := by
  intro os
  kernel_rfl
end K23

set_option maxHeartbeats 4000000

/-! ## KTxt -/
namespace K23
open PySem PySem.Spec PyProof.Rows L2
abbrev cvA (K : PySem.W.Frag) : Addr := He.ga K "Curve"
abbrev poA (K : PySem.W.Frag) : Addr := He.ga K "Police"
abbrev Fn (K : PySem.W.Frag) (x q : Str) (st : Stmt) (dvs : List V) (kws : List (Str × V)) (f : Addr) (fd : FuncData) : Prop := FunD K x q (defArgs st) (defBody st) (defScope st) dvs kws f fd
/-- what the walk asks of the top -/
structure Txt (K : PySem.W.Frag) (mg : Str → Option Value) : Prop where
  g_is_integer : mg "is_integer" = some (.ref (He.ga K "is_integer"))
  g_is_count : mg "is_count" = some (.ref (He.ga K "is_count"))
  g_value_at : mg "value_at" = some (.ref (He.ga K "value_at"))
  g_grows_by : mg "grows_by" = some (.ref (He.ga K "grows_by"))
  g_form_of : mg "form_of" = some (.ref (He.ga K "form_of"))
  g_check_values : mg "check_values" = some (.ref (He.ga K "check_values"))
  g_check_growth : mg "check_growth" = some (.ref (He.ga K "check_growth"))
  g_require_good : mg "require_good" = some (.ref (He.ga K "require_good"))
  g_check_record : mg "check_record" = some (.ref (He.ga K "check_record"))
  g_sums_of : mg "sums_of" = some (.ref (He.ga K "sums_of"))
  g_breach : mg "breach" = some (.ref (He.ga K "breach"))
  g_keeps : mg "keeps" = some (.ref (He.ga K "keeps"))
  g_greedy : mg "greedy" = some (.ref (He.ga K "greedy"))
  g_allowance : mg "allowance" = some (.ref (He.ga K "allowance"))
  g_shaped : mg "shaped" = some (.ref (He.ga K "shaped"))
  g_law_rng : mg "_law_rng" = some (.ref (He.ga K "_law_rng"))
  g_law_draw : mg "_law_draw" = some (.ref (He.ga K "_law_draw"))
  g_law_choice : mg "_law_choice" = some (.ref (He.ga K "_law_choice"))
  g_law_at : mg "_law_at" = some (.ref (He.ga K "_law_at"))
  g_law_is_good : mg "_law_is_good" = some (.ref (He.ga K "_law_is_good"))
  g_law_rows : mg "_law_rows" = some (.ref (He.ga K "_law_rows"))
  g_law_row : mg "_law_row" = some (.ref (He.ga K "_law_row"))
  g_law_room : mg "_law_room" = some (.ref (He.ga K "_law_room"))
  g_law_kept : mg "_law_kept" = some (.ref (He.ga K "_law_kept"))
  g_law_sums : mg "_law_sums" = some (.ref (He.ga K "_law_sums"))
  g_law_bad : mg "_law_bad" = some (.ref (He.ga K "_law_bad"))
  g_law_refused : mg "_law_refused" = some (.ref (He.ga K "_law_refused"))
  g_law_policed : mg "_law_policed" = some (.ref (He.ga K "_law_policed"))
  g_law_long_right : mg "_law_long_right" = some (.ref (He.ga K "_law_long_right"))
  g_law_right : mg "_law_right" = some (.ref (He.ga K "_law_right"))
  g_law : mg "law" = some (.ref (He.ga K "law"))
  g_Curve : mg "Curve" = some (.ref (He.ga K "Curve"))
  g_Police : mg "Police" = some (.ref (He.ga K "Police"))
  g_NotGood : mg "NotGood" = some (.ref (He.ga K "NotGood"))
  g_DueError : mg "DueError" = some (.ref (He.ga K "DueError"))
  g_InvalidCount : mg "InvalidCount" = some (.ref (He.ga K "InvalidCount"))
  g_InvalidRecord : mg "InvalidRecord" = some (.ref (He.ga K "InvalidRecord"))
  g_PERIODS : mg "PERIODS" = some (.ref (He.ga K "PERIODS"))
  f_isinstance : mg "isinstance" = none
  f_int : mg "int" = none
  f_bool : mg "bool" = none
  f_list : mg "list" = none
  f_len : mg "len" = none
  f_range : mg "range" = none
  f_min : mg "min" = none
  f_max : mg "max" = none
  f_sum : mg "sum" = none
  f_abs : mg "abs" = none
  f_enumerate : mg "enumerate" = none
  f_reversed : mg "reversed" = none
  f_repr : mg "repr" = none
  f_all : mg "all" = none
  f_zip : mg "zip" = none
  f_divmod : mg "divmod" = none
  f_RuntimeError : mg "RuntimeError" = none
  i_MAX_VALUES : ∃ t, mg "MAX_VALUES" = some (.int 24 t)
  i_COMMON : ∃ t, mg "COMMON" = some (.int 12 t)
  i_MAX_VALUE : ∃ t, mg "MAX_VALUE" = some (.int 2000 t)
  i_MOST_TICKS : ∃ t, mg "MOST_TICKS" = some (.int 400 t)
  clC : Cls K (cvA K)
  clP : Cls K (poA K)
  n_value_list : NoAttr K (He.ga K "Curve") "value_list"
  n_own_period : NoAttr K (He.ga K "Curve") "own_period"
  n_own_gain : NoAttr K (He.ga K "Curve") "own_gain"
  n_own_curve : NoAttr K (He.ga K "Police") "own_curve"
  n_own_queue : NoAttr K (He.ga K "Police") "own_queue"
  n_own_held : NoAttr K (He.ga K "Police") "own_held"
  n_own_returned : NoAttr K (He.ga K "Police") "own_returned"
  n_own_entered : NoAttr K (He.ga K "Police") "own_entered"
  n_was_open : NoAttr K (He.ga K "Police") "was_open"
  m_at : Meth K (He.ga K "Curve") "at" (He.ma K (He.ga K "Curve") "at")
  m_find_break : Meth K (He.ga K "Curve") "find_break" (He.ma K (He.ga K "Curve") "find_break")
  m_step : Meth K (He.ga K "Police") "step" (He.ma K (He.ga K "Police") "step")
  m_record : Meth K (He.ga K "Police") "record" (He.ma K (He.ga K "Police") "record")
  mkC : Mk K (cvA K) (He.ma K (cvA K) "__init__")
  mkP : Mk K (poA K) (He.ma K (poA K) "__init__")
  ex : exB K = true
  d_is_integer : ∃ fd, Fn K "is_integer" "is_integer" s_is_integer [] [] (He.ga K "is_integer") fd
  d_is_count : ∃ fd, Fn K "is_count" "is_count" s_is_count [V.non] [] (He.ga K "is_count") fd
  d_value_at : ∃ fd, Fn K "value_at" "value_at" s_value_at [] [] (He.ga K "value_at") fd
  d_grows_by : ∃ fd, Fn K "grows_by" "grows_by" s_grows_by [] [] (He.ga K "grows_by") fd
  d_form_of : ∃ fd, Fn K "form_of" "form_of" s_form_of [] [] (He.ga K "form_of") fd
  d_check_values : ∃ fd, Fn K "check_values" "check_values" s_check_values [] [] (He.ga K "check_values") fd
  d_check_growth : ∃ fd, Fn K "check_growth" "check_growth" s_check_growth [] [] (He.ga K "check_growth") fd
  d_require_good : ∃ fd, Fn K "require_good" "require_good" s_require_good [] [] (He.ga K "require_good") fd
  d_check_record : ∃ fd, Fn K "check_record" "check_record" s_check_record [] [] (He.ga K "check_record") fd
  d_sums_of : ∃ fd, Fn K "sums_of" "sums_of" s_sums_of [] [] (He.ga K "sums_of") fd
  d_breach : ∃ fd, Fn K "breach" "breach" s_breach [] [] (He.ga K "breach") fd
  d_keeps : ∃ fd, Fn K "keeps" "keeps" s_keeps [] [] (He.ga K "keeps") fd
  d_greedy : ∃ fd, Fn K "greedy" "greedy" s_greedy [] [] (He.ga K "greedy") fd
  d_allowance : ∃ fd, Fn K "allowance" "allowance" s_allowance [] [] (He.ga K "allowance") fd
  d_shaped : ∃ fd, Fn K "shaped" "shaped" s_shaped [] [] (He.ga K "shaped") fd
  d_law_rng : ∃ fd, Fn K "_law_rng" "_law_rng" s_law_rng [] [] (He.ga K "_law_rng") fd
  d_law_draw : ∃ fd, Fn K "_law_draw" "_law_draw" s_law_draw [] [] (He.ga K "_law_draw") fd
  d_law_choice : ∃ fd, Fn K "_law_choice" "_law_choice" s_law_choice [] [] (He.ga K "_law_choice") fd
  d_law_at : ∃ fd, Fn K "_law_at" "_law_at" s_law_at [] [] (He.ga K "_law_at") fd
  d_law_is_good : ∃ fd, Fn K "_law_is_good" "_law_is_good" s_law_is_good [] [] (He.ga K "_law_is_good") fd
  d_law_rows : ∃ fd, Fn K "_law_rows" "_law_rows" s_law_rows [] [] (He.ga K "_law_rows") fd
  d_law_row : ∃ fd, Fn K "_law_row" "_law_row" s_law_row [] [] (He.ga K "_law_row") fd
  d_law_room : ∃ fd, Fn K "_law_room" "_law_room" s_law_room [] [] (He.ga K "_law_room") fd
  d_law_kept : ∃ fd, Fn K "_law_kept" "_law_kept" s_law_kept [] [] (He.ga K "_law_kept") fd
  d_law_sums : ∃ fd, Fn K "_law_sums" "_law_sums" s_law_sums [] [] (He.ga K "_law_sums") fd
  d_law_bad : ∃ fd, Fn K "_law_bad" "_law_bad" s_law_bad [] [] (He.ga K "_law_bad") fd
  d_law_refused : ∃ fd, Fn K "_law_refused" "_law_refused" s_law_refused [] [] (He.ga K "_law_refused") fd
  d_law_policed : ∃ fd, Fn K "_law_policed" "_law_policed" s_law_policed [] [] (He.ga K "_law_policed") fd
  d_law_long_right : ∃ fd, Fn K "_law_long_right" "_law_long_right" s_law_long_right [] [] (He.ga K "_law_long_right") fd
  d_law_right : ∃ fd, Fn K "_law_right" "_law_right" s_law_right [] [] (He.ga K "_law_right") fd
  d_law : ∃ fd, Fn K "law" "law" s_law [] [] (He.ga K "law") fd
  d_Curve_init : ∃ fd, Fn K "__init__" "Curve.__init__" s_Curve_init [] [("period", V.int 1), ("gain", V.int 0)] (He.ma K (He.ga K "Curve") "__init__") fd
  d_Curve_at : ∃ fd, Fn K "at" "Curve.at" s_Curve_at [] [] (He.ma K (He.ga K "Curve") "at") fd
  d_Curve_find_break : ∃ fd, Fn K "find_break" "Curve.find_break" s_Curve_find_break [] [] (He.ma K (He.ga K "Curve") "find_break") fd
  d_Police_init : ∃ fd, Fn K "__init__" "Police.__init__" s_Police_init [] [("queue", V.int 60)] (He.ma K (He.ga K "Police") "__init__") fd
  d_Police_step : ∃ fd, Fn K "step" "Police.step" s_Police_step [] [("leak", V.int 0), ("closed", V.bl false)] (He.ma K (He.ga K "Police") "step") fd
  d_Police_record : ∃ fd, Fn K "record" "Police.record" s_Police_record [] [] (He.ma K (He.ga K "Police") "record") fd
  d_NotGood_init : ∃ fd, Fn K "__init__" "NotGood.__init__" s_NotGood_init [] [] (He.ma K (He.ga K "NotGood") "__init__") fd
theorem txt_of {w : World} {h : Heap} {K : PySem.W.Frag} {mg : Str → Option Value} (X : K.In h) (G : h.Ns mainGlobals mg) (c : He.SaysX faL fnL [] [] exB w h K) : Txt K mg := by
  have S := c.t.d
  have fA : ∀ (i : Nat) (f : He.Fa), faA[i]? = some f → f.ok K = true := fun i f e => S.facts (List.mem_append_left _ (List.mem_of_getElem? e))
  have fB : ∀ (i : Nat) (f : He.Fa), faB[i]? = some f → f.ok K = true := fun i f e => S.facts (List.mem_append_right _ (List.mem_append_left _ (List.mem_of_getElem? e)))
  have fC : ∀ (i : Nat) (f : He.Fa), faC[i]? = some f → f.ok K = true := fun i f e => S.facts (List.mem_append_right _ (List.mem_append_right _ (List.mem_of_getElem? e)))
  have dA : ∀ (i : Nat) (d : He.DefD), fnA[i]? = some d → ∃ fd, FunD K d.name d.qual d.params d.body d.scope (d.dvs K) (d.kws K) (He.fAd K d.at_) fd := fun i d e => S.defs (List.mem_append_left _ (List.mem_of_getElem? e))
  have dB : ∀ (i : Nat) (d : He.DefD), fnB[i]? = some d → ∃ fd, FunD K d.name d.qual d.params d.body d.scope (d.dvs K) (d.kws K) (He.fAd K d.at_) fd := fun i d e => S.defs (List.mem_append_right _ (List.mem_of_getElem? e))
  exact {
    g_is_integer := He.glo_ok X G (fA 0 (.glo "is_integer") rfl)
    g_is_count := He.glo_ok X G (fA 1 (.glo "is_count") rfl)
    g_value_at := He.glo_ok X G (fA 2 (.glo "value_at") rfl)
    g_grows_by := He.glo_ok X G (fA 3 (.glo "grows_by") rfl)
    g_form_of := He.glo_ok X G (fA 4 (.glo "form_of") rfl)
    g_check_values := He.glo_ok X G (fA 5 (.glo "check_values") rfl)
    g_check_growth := He.glo_ok X G (fA 6 (.glo "check_growth") rfl)
    g_require_good := He.glo_ok X G (fA 7 (.glo "require_good") rfl)
    g_check_record := He.glo_ok X G (fA 8 (.glo "check_record") rfl)
    g_sums_of := He.glo_ok X G (fA 9 (.glo "sums_of") rfl)
    g_breach := He.glo_ok X G (fA 10 (.glo "breach") rfl)
    g_keeps := He.glo_ok X G (fA 11 (.glo "keeps") rfl)
    g_greedy := He.glo_ok X G (fA 12 (.glo "greedy") rfl)
    g_allowance := He.glo_ok X G (fA 13 (.glo "allowance") rfl)
    g_shaped := He.glo_ok X G (fA 14 (.glo "shaped") rfl)
    g_law_rng := He.glo_ok X G (fA 15 (.glo "_law_rng") rfl)
    g_law_draw := He.glo_ok X G (fA 16 (.glo "_law_draw") rfl)
    g_law_choice := He.glo_ok X G (fA 17 (.glo "_law_choice") rfl)
    g_law_at := He.glo_ok X G (fA 18 (.glo "_law_at") rfl)
    g_law_is_good := He.glo_ok X G (fA 19 (.glo "_law_is_good") rfl)
    g_law_rows := He.glo_ok X G (fA 20 (.glo "_law_rows") rfl)
    g_law_row := He.glo_ok X G (fA 21 (.glo "_law_row") rfl)
    g_law_room := He.glo_ok X G (fA 22 (.glo "_law_room") rfl)
    g_law_kept := He.glo_ok X G (fA 23 (.glo "_law_kept") rfl)
    g_law_sums := He.glo_ok X G (fA 24 (.glo "_law_sums") rfl)
    g_law_bad := He.glo_ok X G (fA 25 (.glo "_law_bad") rfl)
    g_law_refused := He.glo_ok X G (fA 26 (.glo "_law_refused") rfl)
    g_law_policed := He.glo_ok X G (fA 27 (.glo "_law_policed") rfl)
    g_law_long_right := He.glo_ok X G (fA 28 (.glo "_law_long_right") rfl)
    g_law_right := He.glo_ok X G (fA 29 (.glo "_law_right") rfl)
    g_law := He.glo_ok X G (fA 30 (.glo "law") rfl)
    g_Curve := He.glo_ok X G (fA 31 (.glo "Curve") rfl)
    g_Police := He.glo_ok X G (fA 32 (.glo "Police") rfl)
    g_NotGood := He.glo_ok X G (fA 33 (.glo "NotGood") rfl)
    g_DueError := He.glo_ok X G (fA 34 (.glo "DueError") rfl)
    g_InvalidCount := He.glo_ok X G (fA 35 (.glo "InvalidCount") rfl)
    g_InvalidRecord := He.glo_ok X G (fA 36 (.glo "InvalidRecord") rfl)
    g_PERIODS := He.glo_ok X G (fA 37 (.glo "PERIODS") rfl)
    f_isinstance := He.free_ok X G (fB 0 (.free "isinstance") rfl)
    f_int := He.free_ok X G (fB 1 (.free "int") rfl)
    f_bool := He.free_ok X G (fB 2 (.free "bool") rfl)
    f_list := He.free_ok X G (fB 3 (.free "list") rfl)
    f_len := He.free_ok X G (fB 4 (.free "len") rfl)
    f_range := He.free_ok X G (fB 5 (.free "range") rfl)
    f_min := He.free_ok X G (fB 6 (.free "min") rfl)
    f_max := He.free_ok X G (fB 7 (.free "max") rfl)
    f_sum := He.free_ok X G (fB 8 (.free "sum") rfl)
    f_abs := He.free_ok X G (fB 9 (.free "abs") rfl)
    f_enumerate := He.free_ok X G (fB 10 (.free "enumerate") rfl)
    f_reversed := He.free_ok X G (fB 11 (.free "reversed") rfl)
    f_repr := He.free_ok X G (fB 12 (.free "repr") rfl)
    f_all := He.free_ok X G (fB 13 (.free "all") rfl)
    f_zip := He.free_ok X G (fB 14 (.free "zip") rfl)
    f_divmod := He.free_ok X G (fB 15 (.free "divmod") rfl)
    f_RuntimeError := He.free_ok X G (fB 16 (.free "RuntimeError") rfl)
    i_MAX_VALUES := He.int_ok X G (fC 0 (.int "MAX_VALUES" 24) rfl)
    i_COMMON := He.int_ok X G (fC 1 (.int "COMMON" 12) rfl)
    i_MAX_VALUE := He.int_ok X G (fC 2 (.int "MAX_VALUE" 2000) rfl)
    i_MOST_TICKS := He.int_ok X G (fC 3 (.int "MOST_TICKS" 400) rfl)
    clC := He.cls_ok (fC 4 (.cls "Curve") rfl)
    clP := He.cls_ok (fC 5 (.cls "Police") rfl)
    n_value_list := He.noat_ok (fC 6 (.noat "Curve" "value_list") rfl)
    n_own_period := He.noat_ok (fC 7 (.noat "Curve" "own_period") rfl)
    n_own_gain := He.noat_ok (fC 8 (.noat "Curve" "own_gain") rfl)
    n_own_curve := He.noat_ok (fC 9 (.noat "Police" "own_curve") rfl)
    n_own_queue := He.noat_ok (fC 10 (.noat "Police" "own_queue") rfl)
    n_own_held := He.noat_ok (fC 11 (.noat "Police" "own_held") rfl)
    n_own_returned := He.noat_ok (fC 12 (.noat "Police" "own_returned") rfl)
    n_own_entered := He.noat_ok (fC 13 (.noat "Police" "own_entered") rfl)
    n_was_open := He.noat_ok (fC 14 (.noat "Police" "was_open") rfl)
    m_at := He.meth_ok (fC 15 (.meth "Curve" "at") rfl)
    m_find_break := He.meth_ok (fC 16 (.meth "Curve" "find_break") rfl)
    m_step := He.meth_ok (fC 17 (.meth "Police" "step") rfl)
    m_record := He.meth_ok (fC 18 (.meth "Police" "record") rfl)
    mkC := He.mkr_ok (fC 19 (.mkr "Curve") rfl)
    mkP := He.mkr_ok (fC 20 (.mkr "Police") rfl)
    ex := c.more
    d_is_integer := dA 0 d_is_integer rfl
    d_is_count := dA 1 d_is_count rfl
    d_value_at := dA 2 d_value_at rfl
    d_grows_by := dA 3 d_grows_by rfl
    d_form_of := dA 4 d_form_of rfl
    d_check_values := dA 5 d_check_values rfl
    d_check_growth := dA 6 d_check_growth rfl
    d_require_good := dA 7 d_require_good rfl
    d_check_record := dA 8 d_check_record rfl
    d_sums_of := dA 9 d_sums_of rfl
    d_breach := dA 10 d_breach rfl
    d_keeps := dA 11 d_keeps rfl
    d_greedy := dA 12 d_greedy rfl
    d_allowance := dA 13 d_allowance rfl
    d_shaped := dA 14 d_shaped rfl
    d_law_rng := dA 15 d_law_rng rfl
    d_law_draw := dA 16 d_law_draw rfl
    d_law_choice := dA 17 d_law_choice rfl
    d_law_at := dA 18 d_law_at rfl
    d_law_is_good := dA 19 d_law_is_good rfl
    d_law_rows := dA 20 d_law_rows rfl
    d_law_row := dA 21 d_law_row rfl
    d_law_room := dA 22 d_law_room rfl
    d_law_kept := dA 23 d_law_kept rfl
    d_law_sums := dA 24 d_law_sums rfl
    d_law_bad := dA 25 d_law_bad rfl
    d_law_refused := dA 26 d_law_refused rfl
    d_law_policed := dA 27 d_law_policed rfl
    d_law_long_right := dA 28 d_law_long_right rfl
    d_law_right := dA 29 d_law_right rfl
    d_law := dA 30 d_law rfl
    d_Curve_init := dB 0 d_Curve_init rfl
    d_Curve_at := dB 1 d_Curve_at rfl
    d_Curve_find_break := dB 2 d_Curve_find_break rfl
    d_Police_init := dB 3 d_Police_init rfl
    d_Police_step := dB 4 d_Police_step rfl
    d_Police_record := dB 5 d_Police_record rfl
    d_NotGood_init := dB 6 d_NotGood_init rfl
  }
end K23

/-! ## RIter -/
/-! enumerate(reversed(l), start=2): the iterator of the list from its end, drawn by enumerate -/
namespace K23
open PySem PySem.Spec PyProof.Rows L2
section
variable {prog : Program} {w : World} {A : Around} {E : Value → Shared → Prop} {s : Shared}
theorem rev_next {it l : Addr} {i : Nat} {items : Array Value} {x : Value} {Q : Value → Shared → Prop} (hit : s.heap.IsRevIter it l (i : Int)) (hl : s.heap.IsList l items) (hx : items[i]? = some x)
    (hQ : ∀ h', h'.IsRevIter it l ((i : Int) - 1) → Heap.SameBut it s.heap h' → Q x { s with heap := h' }) : wpAny (model prog w) A (Builtin.SmallTypes.nextOf (.ref it)) Q E s := by
  obtain ⟨o, o1, o2, o3⟩ := id hit
  obtain ⟨k, k1, _, k2, k3⟩ := hl
  unfold Builtin.SmallTypes.nextOf
  refine wpAny_bind (wpAny_callSpecial?_slot (name := Str.ofString "__next__") hit.typeIs F.slot_lri_next (wpAny_call_entry F.slot_lri_next hit.typeIs F.entry_lri_next ?_ (F.args_lri_next_1 _)))
  unfold Builtin.«list_reverseiterator.__next__»
  refine wpAny_bind (wpAny_of_eq (a := (Value.ref it, [])) rfl ?_)
  try dsimp only
  refine wpAny_bind (wpAny_field o1 o3 (x := rawInt (i : Int)) rfl ?_)
  have n0 : ¬ ((i : Int) < 0) := by omega
  show wpAny _ _ (if (i : Int) < 0 then _ else _) _ _ s
  rw [if_neg n0]
  refine wpAny_bind (wpAny_field o1 o3 (x := .ref l) rfl ?_)
  refine wpAny_bind (wpAny_seqItems k1 k3 ?_)
  simp only [Int.toNat_natCast, hx]
  refine wpAny_bind (wpAny_setField o1 o3 (by simp) ?_)
  have fin : ∀ h' : Heap, h' = s.heap.update it (Obj.mapFields (·.setIfInBounds 1 (rawInt ((i : Int) - 1)))) → h'.IsRevIter it l ((i : Int) - 1) ∧ Heap.SameBut it s.heap h' := fun h' e => by
    subst e
    exact ⟨⟨_, Heap.get?_update_self _ o1 (Obj.isFreed_of_fields (Obj.data_mapFields o3 _)), (Obj.cls_mapFields ..).trans o2, by rw [Obj.data_mapFields o3]; simp⟩, Heap.SameBut.update ..⟩
  obtain ⟨f1, f2⟩ := fin _ rfl
  first
    | exact wpAny_pure ⟨x, rfl, wpAny_pure (hQ _ f1 f2)⟩
    | exact wpAny_bind (wpAny_pure (wpAny_pure ⟨x, rfl, wpAny_pure (hQ _ f1 f2)⟩))
theorem rev_ends {it l : Addr} (hh : A.handled = none) (hit : s.heap.IsRevIter it l (-1))
    (hE : ∀ h' e, Heap.ExtBut it s.heap h' → (∃ o, h'.get? e = some o ∧ o.cls = .type "StopIteration") → E (.ref e) { s with heap := h' }) {Q : Value → Shared → Prop} : wpAny (model prog w) A (Builtin.SmallTypes.nextOf (.ref it)) Q E s := by
  obtain ⟨o, o1, o2, o3⟩ := id hit
  unfold Builtin.SmallTypes.nextOf
  refine wpAny_bind (wpAny_callSpecial?_slot (name := Str.ofString "__next__") hit.typeIs F.slot_lri_next (wpAny_call_entry F.slot_lri_next hit.typeIs F.entry_lri_next ?_ (F.args_lri_next_1 _)))
  unfold Builtin.«list_reverseiterator.__next__»
  refine wpAny_bind (wpAny_of_eq (a := (Value.ref it, [])) rfl ?_)
  try dsimp only
  refine wpAny_bind (wpAny_field o1 o3 (x := rawInt (-1)) rfl ?_)
  have m1 : (-1 : Int) < 0 := by decide
  show wpAny _ _ (if (-1 : Int) < 0 then _ else _) _ _ s
  rw [if_pos m1]
  refine wpAny_bind (wpAny_rule ?_)
  have stop : ∀ (B : Around) {α : Type} {k : Value → Sem α} {R : α → Shared → Prop}, B.handled = none → wpAny (model prog w) B (newExc (.type "StopIteration") [] >>= fun e => raiseNew e >>= k) R E s := fun B α k R hb => by
    refine wpAny_bind ?_
    simp only [newExc, newTuple]
    refine wpAny_bind (wpAny_newObj_type ?_ (by size_fits))
    refine wpAny_bind (m := firstArgMember _ _) (wpAny_of_eq (a := Value.none) (by first | rfl | (simp only [firstArgMember]; rfl)) ?_)
    refine wpAny_newObj_type ?_ (by size_fits)
    refine wpAny_bind ?_
    simp only [raiseNew]
    refine wpAny_bind (wpAny_handled ?_)
    rw [hb]
    refine wpAny_bind (wpAny_pure (wpAny_throw ?_))
    exact hE _ _ (((Heap.ExtBut.refl _ _).push _).push _) ⟨_, Heap.get?_push_size _ rfl, rfl⟩
  first
    | show wpAny _ _ (newExc (.type "StopIteration") [] >>= _) _ _ _
    | (refine wpAny_bind ?_; show wpAny _ _ (newExc (.type "StopIteration") [] >>= _) _ _ _)
  refine wpAny_bind ?_
  simp only [newExc, newTuple]
  refine wpAny_bind (wpAny_newObj_type ?_ (by size_fits))
  refine wpAny_bind (m := firstArgMember _ _) (wpAny_of_eq (a := Value.none) (by first | rfl | (simp only [firstArgMember]; rfl)) ?_)
  refine wpAny_newObj_type ?_ (by size_fits)
  simp only [raiseNew]
  refine wpAny_bind (wpAny_handled ?_)
  first | rw [show A.in1.handled = none from hh] | rw [hh]
  refine wpAny_bind (wpAny_pure (wpAny_throw ?_))
  exact hE _ _ (((Heap.ExtBut.refl _ _).push _).push _) ⟨_, Heap.get?_push_size _ rfl, rfl⟩
end
/-- what the list's iterator from the end draws -/
theorem draws_rev {prog : Program} {w : World} {A : Around} (hh : A.handled = none) (it l : Addr) (hne : l ≠ it) (items : Array Value) :
    Draws prog w A it [it, l] items.size (fun i v => items[items.size - 1 - i]? = some v) (fun i h => i ≤ items.size ∧ h.IsRevIter it l ((items.size : Int) - 1 - (i : Int)) ∧ h.IsList l items) where
  live := fun i h st => let ⟨_, ⟨o, e, _⟩, _⟩ := st; ⟨o, e⟩
  frame := fun i h h' st hk => ⟨st.1, st.2.1.at fun o e => hk it (by simp) o e, st.2.2.at fun o e => hk l (by simp) o e⟩
  item := fun i s Q E hi st hQ => by
    have e : (items.size : Int) - 1 - (i : Int) = ((items.size - 1 - i : Nat) : Int) := by omega
    have hit := st.2.1
    rw [e] at hit
    have hx : items[items.size - 1 - i]? = some (items[items.size - 1 - i]'(by omega)) := Array.getElem?_eq_getElem (by omega)
    refine rev_next hit st.2.2 hx fun h' hit' sb => ?_
    have e2 : ((items.size - 1 - i : Nat) : Int) - 1 = (items.size : Int) - 1 - ((i + 1 : Nat) : Int) := by omega
    rw [e2] at hit'
    exact hQ _ h' s.toks hx ⟨hi, hit', st.2.2.at fun o eo => (sb.2 l hne).trans eo⟩ sb
  done := fun s Q E st hE => by
    have e : (items.size : Int) - 1 - (items.size : Int) = -1 := by omega
    have hit := st.2.1
    rw [e] at hit
    exact rev_ends hh hit hE
/-- enumerate.__new__ over an iterator that stands: start given by its name -/
theorem enum_new_it {it l : Addr} {i : Int} (k : Int) (t : Tok) (hfit : Builtin.SmallTypes.fitsIndex k = true) :
    Meets (Builtin.«enumerate.__new__» ⟨[.type "enumerate", .ref it], [(Str.ofString "start", .int k t)]⟩) (fun _ R s => s.heap.IsRevIter it l i ∧
      R (.ok (.ret (.ref s.heap.objs.size))) { s with heap := s.heap.push { cls := .type "enumerate", data := .fields #[.none, .bool false, .ref it, rawInt k, .none, .none] } }) :=
  .of_wp fun prog w A R s h => by
    obtain ⟨hp, g, d, tk, os⟩ := s
    obtain ⟨h1, h⟩ := h
    have hsub := sub_enumerate
    have hnf : (!Builtin.SmallTypes.fitsIndex k) = false := by rw [hfit]; rfl
    have q1 : ∀ {A' : Around} {E : Value → Shared → Prop} {Q : Value → Shared → Prop}, Q (.ref it) ⟨hp, g, d, tk, os⟩ → wpAny (model prog w) A' (pyIter (.ref it)) Q E ⟨hp, g, d, tk, os⟩ := fun q => wpAny_pyIter_revIter (s := ⟨hp, g, d, tk, os⟩) h1 q
    have e1 : (Str.ofString "start" == ("start" : Str)) = true := by decide +kernel
    have e2 : (Str.ofString "start" != ("start" : Str)) = false := by decide +kernel
    have e3 : (Str.ofString "start" != ("iterable" : Str)) = true := by decide +kernel
    have e4 : (("start" : Str) == Str.ofString "start") = true := by decide +kernel
    have e5 : (("iterable" : Str) == Str.ofString "start") = false := by decide +kernel
    wp_walk using q1
    refine wpAny_stack_any fun st => wpAny_pure ?_
    split
    · rename_i c _ _ _ _ _
      cases (c == Value.type "enumerate")
      all_goals
        wp_walk using q1
        exact ⟨_, rfl, h⟩
    · wp_walk using q1
      exact ⟨_, rfl, h⟩
section
variable {prog : Program} {w : World} {A : Around} {E : Value → Shared → Prop} {s : Shared}
/-- enumerate(it, start=k): one new cell -/
theorem enum_it {it l : Addr} {i k : Int} {t : Tok} {Q : Value → Shared → Prop} (h1 : s.heap.IsRevIter it l i) (hk0 : -(2 ^ 63) ≤ k) (hk1 : k < 2 ^ 63)
    (h : ∀ h', IsEnum h' s.heap.objs.size it k .none → h'.objs.size = s.heap.objs.size + 1 → (∀ b o, s.heap.get? b = some o → h'.get? b = some o) → Q (.ref s.heap.objs.size) { s with heap := h' }) :
    wpAny (model prog w) A (call (.type "enumerate") [.ref it] [(Str.ofString "start", .int k t)]) Q E s := by
  refine callType_newKw F.called_enumerate (by decide) (F.typeCall_enumerate_start _ _) (F.newCall_enumerate_start _ _) (fun obj => F.args_object_init_start obj _ _) F.entry_enumerate_new
    (enum_new_it (it := it) (l := l) (i := i) k t (fits_start hk0 hk1)) ⟨h1, ?_⟩
  have he : IsEnum (s.heap.push { cls := .type "enumerate", data := .fields #[.none, .bool false, .ref it, rawInt k, .none, .none] }) s.heap.objs.size it k .none := Heap.get?_push_size s.heap rfl
  exact ⟨⟨_, he, rfl⟩, h _ he (Heap.size_push ..) fun b o x => Heap.get?_push_of_some _ x⟩
/-- f(e, .., k = v), f a built-in class -/
theorem callWith_tyKw {env : Env} {pos : Pos} {T : String} {e : Expr} {rest : List Expr} {kws : List Keyword} {Q : Value → Shared → Prop}
    (h : wpAny (model prog w) A (spliced (backTo pos (starEach (e :: rest) env))) (fun vs s1 => wpAny (model prog w) A (evalAll ((backToKw pos (keywordEach kws env)).map (·.2)))
      (fun ks s2 => wpAny (model prog w) A (call (.type T) vs (((backToKw pos (keywordEach kws env)).filterMap (·.1)).zip ks)) Q E s2) E s1) E s)
    (hall : (backToKw pos (keywordEach kws env)).all (·.1.isSome) = true) (hnone : (backToKw pos (keywordEach kws env)).any (·.1.isNone) = false) (hpl : (backTo pos (starEach (e :: rest) env)).any (·.1) = false)
    (he : starEach (e :: rest) env = (false, eval e env) :: starEach rest env) : wpAny (model prog w) A (callWith pos (.type T) [] (backTo pos (starEach (e :: rest) env)) (backToKw pos (keywordEach kws env))) Q E s := by
  have q : wpAny (model prog w) A (evalArgs (.type T) true (backTo pos (starEach (e :: rest) env)) (backToKw pos (keywordEach kws env))) (fun a s1 => wpAny (model prog w) A (call (.type T) ([] ++ a.pos) a.kw) Q E s1) E s := evalArgs_kw2 hall h he
  unfold callWith
  refine wpAny_bind (wpAny_holding (thn q fun a s1 z => wpAny_bind (wpAny_standAt ?_)))
  simp only [hpl, hnone, Bool.or_false]
  refine wpAny_bind (wpAny_pure ?_)
  exact wpAny_bind (thn z fun r s2 hr => wpAny_bind (wpAny_holding (wpAny_point (wpAny_pure hr))))
end
end K23
namespace L2
open PySem PySem.Spec PyProof.Rows
/-- the list at a, of n items, from its end, each item in a new pair with 2, 3, .. -/
def ItER (K : PySem.W.Frag) (a : Addr) (n : Nat) : It :=
  ⟨fun i H => i < n ∧ ∃ xs : List V, SqL K H a xs ∧ xs.length = n,
    fun i H v H' => ∃ T x, v = .ref T ∧ H T = none ∧ H' = upd H T (.tup [.int (2 + (i : Nat)), x]) ∧ ∀ xs, SqL K H a xs → xs[n - 1 - i]? = some x,
    fun i H => i = n ∧ ∃ xs : List V, SqL K H a xs ∧ xs.length = n⟩
theorem turn_er {P : Program} {w : World} {K : PySem.W.Frag} {elts : List Expr} {kk : Nat} {tpos : Pos} (a e it : Addr) (n : Nat) :
    Turn P w K (.Tuple elts kk tpos) (ItER K a n) [e, it] e (fun i h => (∃ old, IsEnum h e it (2 + (i : Int)) old) ∧ h.IsRevIter it a ((n : Int) - 1 - (i : Int)) ∧ e ≠ it ∧ a ≠ it ∧ a ≠ e) where
  mem := by simp
  obj := fun i h st b hb => by
    obtain ⟨⟨old, he⟩, ⟨o, ho, hc, hd⟩, _⟩ := st
    rcases List.mem_cons.mp hb with z | z
    · rw [z]
      exact ⟨_, he, fun v q => nomatch q⟩
    · rw [List.mem_singleton.mp z]
      exact ⟨o, ho, fun v q => by rw [hd] at q; cases q⟩
  keep := fun i h h' st k => let ⟨⟨old, he⟩, hi, hne⟩ := st; ⟨⟨old, k e (by simp) _ he⟩, hi.at fun o q => k it (by simp) o q, hne⟩
  item := by
    intro X hP hw hK hc i pins s σ H E I hf st hg
    subst hP hw hK
    obtain ⟨⟨old, he⟩, hit, hne, hai, hae⟩ := st
    obtain ⟨hin, xs, hq, hxl⟩ := hg
    obtain ⟨its, rv, p, hz⟩ := I.list hq
    have hl : its.toArray.size = n := by
      have := rv.length
      simp
      omega
    have D := K23.draws_rev (prog := X.prog) (w := X.w) (A := X.A.in1) (I.ok.hd hc) it a hai its.toArray
    have hel : e < s.heap.objs.size := Heap.lt_size he
    have hil : it < s.heap.objs.size := by obtain ⟨_, q, _⟩ := hit; exact Heap.lt_size q
    have hst : i ≤ its.toArray.size ∧ s.heap.IsRevIter it a ((its.toArray.size : Int) - 1 - (i : Int)) ∧ s.heap.IsList a its.toArray := ⟨by rw [hl]; omega, by rw [hl]; exact hit, p.isList⟩
    refine wpAny_pyNext_enum_itemC D he hst (by rw [hl]; exact hin) hne (by simp [Ne.symm hae, hne]) fun u h' tk hu ho hs' hT hsz hk => ?_
    rw [hl] at hu
    obtain ⟨x, hx, ru⟩ : ∃ x, xs[n - 1 - i]? = some x ∧ RelV x u := by
      have hlt : n - 1 - i < xs.length := by omega
      obtain ⟨u', hu', r'⟩ := rv.get (List.getElem?_eq_getElem hlt)
      have e1 : its.toArray[n - 1 - i]? = some u' := by simpa using hu'
      rw [hu] at e1
      cases e1
      exact ⟨_, List.getElem?_eq_getElem hlt, r'⟩
    refine ⟨_, rfl, wpAny_letOwnedTupleGo_enum (s := { s with heap := h', toks := tk + 1 }) ho fun h'' he' sb => ?_⟩
    have hT2 : h''.get? s.heap.objs.size = some { cls := .type "tuple", data := .seq #[.int (2 + (i : Int)) tk, u] } := (sb.2 _ (Nat.ne_of_gt hel)).trans hT
    have new : ObjOk X.prog X.w (upd H s.heap.objs.size (.tup [.int (2 + (i : Nat)), x])) h'' s.heap.objs.size (.tup [.int (2 + (i : Nat)), x]) :=
      ⟨by show 2 ≤ sizeLine; decide, [.int (2 + (i : Int)) tk, u], .cons ⟨_, rfl⟩ (.cons ru .nil), ⟨_, hT2, rfl, _, rfl⟩⟩
    have I1 : Inv X pins σ (upd H s.heap.objs.size (.tup [.int (2 + (i : Nat)), x])) { s with heap := h'', toks := tk + 1 } :=
      I.turnedNew (ch := [e, it]) (fun b ob hb q => (sb.2 b (fun z => hb (by simp [z]))).trans (hk b ob (fun z => hb (by simp [z])) (fun z => hb (by simp [z])) q)) hf (Nat.le_refl _) new
    have e1 : (2 : Int) + ((i + 1 : Nat) : Int) = 2 + (i : Int) + 1 := by omega
    have hit' := hs'.2.1
    rw [hl] at hit'
    refine ⟨.ref s.heap.objs.size, _, I1, rfl, ⟨_, x, rfl, I.hok.fresh (Nat.le_refl _), rfl, fun ys hy => by rw [I.list_inj hy hq]; exact hx⟩, ⟨⟨u, by rw [e1]; exact he'⟩, hit'.at fun o q => (sb.2 it (Ne.symm hne)).trans q, hne, hai, hae⟩, fun b hb => ?_⟩
    have hb' : b < s.heap.objs.size := by
      rcases List.mem_cons.mp hb with z | z
      · rw [z]
        exact hel
      · rw [List.mem_singleton.mp z]
        exact hil
    rw [upd_ne (Nat.ne_of_lt hb')]
    exact (hf b hb).1
  done := by
    intro X hP hw hK hc i pins s σ H E I hf st hg
    subst hP hw hK
    obtain ⟨⟨old, he⟩, hit, hne, hai, hae⟩ := st
    obtain ⟨hin, xs, hq, hxl⟩ := hg
    obtain ⟨its, rv, p, hz⟩ := I.list hq
    have hl : its.toArray.size = n := by
      have := rv.length
      simp
      omega
    have D := K23.draws_rev (prog := X.prog) (w := X.w) (A := X.A.in1) (I.ok.hd hc) it a hai its.toArray
    have hst : its.toArray.size ≤ its.toArray.size ∧ s.heap.IsRevIter it a ((its.toArray.size : Int) - 1 - (its.toArray.size : Int)) ∧ s.heap.IsList a its.toArray := ⟨Nat.le_refl _, by rw [hl, ← hin]; rw [hin] at hit ⊢; exact hit, p.isList⟩
    obtain ⟨f0, f1, f2, f3, f4, f5⟩ := hf it (by simp)
    exact wpAny_pyNext_enum_endD D he hst fun h' eb => ⟨rfl, I.turned (t' := s.toks) (fun b o hb q => eb b o hb q) f0 f1 f3 f4 f5⟩
  self := fun A i s Q E st h => let ⟨⟨_, he⟩, _⟩ := st; wpAny_pyIter_enum he h
def iER (K : PySem.W.Frag) (ta : TA) : TI := fun σ H R => ta σ H fun vs H1 => ∃ a xs, vs = [.ref a] ∧ SqL K H1 a xs ∧ R (ItER K a xs.length) H1
/-- for i, x in enumerate(reversed(e), start=2) -/
theorem pi_enumRev {X : Cx} {e : Expr} {ta : TA} {p p2 q pk pos kp tpos : Pos} {elts : List Expr} {kk j : Nat} (hc : X.calm = true) (hgE : Gl X "enumerate") (hmE : X.mg "enumerate" = none) (hgR : Gl X "reversed") (hmR : X.mg "reversed" = none) (ha : PA X [e] ta)
    (hs : starEach [e] X.env = [(false, eval e X.env)] := by rfl) (hs2 : starEach [.Call (.Name "reversed" p2) [e] [] q] X.env = [(false, eval (.Call (.Name "reversed" p2) [e] [] q) X.env)] := by rfl) :
    PI X (.Tuple elts kk tpos) (.Call (.Name "enumerate" p) [.Call (.Name "reversed" p2) [e] [] q] [⟨some "start", .Constant (.int 2) j pk, kp⟩] pos) (iER X.K ta) := by
  refine ⟨fun pins s σ H R I h => ?_⟩
  refine wpAny_Call_Name_kw (ld_blt I hgE hmE boot_enumerate ?_ (by decide) (by decide))
  refine K23.callWith_tyKw ?_ rfl rfl rfl hs2
  rw [hs2]
  refine Calls.spliced_cons (Call_ (ld_blt I hgR hmR (by decide +kernel : bootBuiltins "reversed" = some (.type "reversed")) (PyProof.Rows.callWith_type1 (thn (ha.run q pins s σ H _ I h) fun us s1 ⟨vs, H1, I1, r1, q1⟩ => ?_) hs rfl)))
  obtain ⟨a, xs, ex, hq, qq⟩ := q1
  subst ex
  cases r1 with
  | cons r rr =>
    cases rr
    cases r
    obtain ⟨its, rv, p', hz⟩ := I1.list hq
    have hl : its.toArray.size = xs.length := by
      have := rv.length
      simp
      omega
    refine call_reversed_list p'.isList ?_
    refine Calls.spliced_nil ?_
    have halt : a < s1.heap.objs.size := by
      obtain ⟨o, e, _⟩ := p'.isList
      exact Heap.lt_size e
    have hit : (s1.heap.push (revObj a ((its.toArray.size : Int) - 1))).IsRevIter s1.heap.objs.size a ((its.toArray.size : Int) - 1) := ⟨_, Heap.get?_push_size _ rfl, rfl, rfl⟩
    have hz1 : (s1.heap.push (revObj a ((its.toArray.size : Int) - 1))).objs.size = s1.heap.objs.size + 1 := Heap.size_push ..
    refine PyProof.Rows.kws_cons ?_
    refine wpAny_Constant_int (PyProof.Rows.kws_nil ?_)
    show wpAny _ _ (call (.type "enumerate") [.ref s1.heap.objs.size] [(Str.ofString "start", .int 2 _)]) _ _ _
    refine K23.enum_it hit (by decide) (by decide) fun h' he' hsz hk => ?_
    refine wpAny_pyIter_enum he' ?_
    have kk : ∀ b o, s1.heap.get? b = some o → h'.get? b = some o := fun b o e => hk b o (Heap.get?_push_of_some _ e)
    have I2 := I1.kept (t' := s1.toks + 1) kk
    have e2 : s1.heap.objs.size ≤ (s1.heap.push (revObj a ((its.toArray.size : Int) - 1))).objs.size := by rw [hz1]; omega
    refine ⟨(s1.heap.push (revObj a ((its.toArray.size : Int) - 1))).objs.size, [(s1.heap.push (revObj a ((its.toArray.size : Int) - 1))).objs.size, s1.heap.objs.size], _, _, H1, rfl, I2, turn_er a _ s1.heap.objs.size xs.length, ⟨⟨.none, he'⟩, ?_, ?_, ?_, ?_⟩, fun b hb => ?_, qq⟩
    · refine Heap.IsRevIter.at (h := s1.heap.push (revObj a ((its.toArray.size : Int) - 1))) ?_ fun o e => hk _ o e
      rw [← hl]
      simpa using hit
    · rw [hz1]
      exact Nat.succ_ne_self _
    · exact Nat.ne_of_lt halt
    · rw [hz1]
      exact Nat.ne_of_lt (Nat.lt_succ_of_lt halt)
    · have hle : s1.heap.objs.size ≤ b := by
        rcases List.mem_cons.mp hb with z | z
        · rw [z]
          exact e2
        · rw [List.mem_singleton.mp z]
          exact Nat.le_refl _
      exact I1.fpOk hle (I1.hok.fresh hle)
end L2

/-! ## RCall -/
/-! defs whose promise leans on it that no repr is under way (FnG); repr of data; calls by keywords alone; o.f as one of several targets -/
namespace L2
open PySem PySem.Spec PyProof.Rows
/-! ### promises where no guard stands -/
/-- as FnOk, where no guard (a repr under way) stands around the call -/
structure FnG (P : Program) (w : World) (K : PySem.W.Frag) (mg : Str → Option Value) (base : Heap) (CX : CXT) (k : Nat) (f : Addr) (fd : FuncData) (ps : List Str) (sp : Sp) : Prop where
  len : ∀ vs H Q E, sp vs H Q E → vs.length = ps.length
  run : ∀ (A : Around) (outer : List Env) (s : Shared) (H : Hp) (args : Args) (us : List Value) (vs : List V) (Q : VK) (E : XK), A.guards = some [] → Room k A → Env0 P w K mg base A outer s H → BindsTo s fd args (ps.zip us) → Vals vs us → sp vs H Q E →
    codeAny (model P w) A (.call (.ref f) args) (CR CX outer P w H s Q E) s
section
variable {P : Program} {w : World} {K : PySem.W.Frag} {mg : Str → Option Value} {base : Heap} {x qual : Str} {params : Arguments} {body : List Stmt} {scope : Scope} {dvs : List V} {kws : List (Str × V)} {f : Addr} {fd : FuncData}
/-- the rule for such a def -/
theorem FunD.okG {CX : CXT} {N ps : List Str} {k : Nat} {sp : Sp} (F : FunD K x qual params body scope dvs kws f fd) (S : FnScope N ps scope) (len : ∀ vs H Q E, sp vs H Q E → vs.length = ps.length)
    (hbody : ∀ (cdv : Value) (A : Around) (outer : List Env) (s : Shared) (H : Hp) (vs : List V) (Q : VK) (E : XK), A.guards = some [] → Room k (A.deeper (envOfC qual scope s.heap.objs.size f cdv)) → sp vs H Q E →
      ∃ t, PSs (cxOf CX P w K mg base N qual scope f cdv A outer s H E) body t ∧ t { nx := fun _ H' => Q .non H', rt := Q } (start N vs) H) : FnG P w K mg base CX (k + 1) f fd ps sp := by
  obtain ⟨oc, od, dV, kV, doc, pm, an, cdv, ct, osl, rfl, lk, hcd, _, _⟩ := F.ex
  refine ⟨len, fun A outer s H args us vs Q E hgu hr e0 hb r hsp => ?_⟩
  have keep : ∀ b o, base.get? b = some o → s.heap.get? b = some o := fun b o e => (e0.bs b o e).1
  have KX : K.In s.heap := e0.mod.kin.keeps keep
  have lim : s.heap.NoLimit := e0.mod.nolimit.keeps keep
  have hkind : ∀ y ∈ ps.zip us, scope.names.lookup y.1 = some .local ∨ (scope.names.lookup y.1 = some .cell ∧ ((cellsFrom (s.heap.objs.size + 1) scope.names []).lookup y.1).isSome = true) := by
    rintro ⟨n, v⟩ hy
    rcases S.par n (List.of_mem_zip hy).1 with q | q
    · exact .inl q
    · exact .inr ⟨q, PySem.W.cellsFrom_some _ _ _ (.inl q)⟩
  refine codeAny_call_function hr.depth (KX _ _ lk) rfl S.co S.gen rfl (PySem.W.codeRec_of KX hcd) (hb _ _ _ _ ?_)
  refine wpAny_newFunctionEnv_cells S.kind hkind fun env he s1 z => ?_
  subst he
  refine ⟨lim.keeps z.toInCall.keep, codeAny_func ?_⟩
  obtain ⟨t, ht, hq⟩ := hbody cdv A outer s H vs Q E hgu (hr.deeper _) hsp
  have I : Inv (cxOf CX P w K mg base N qual scope f cdv A outer s H E) [] (start N vs) H s1 := inv_start S hr.hd e0 (len _ _ _ _ hsp) r z
  refine wpAny_mono (ht.run [] s1 (start N vs) H _ I hq) (fun fl s' hs => ?_) fun e s' hs => hs
  cases fl with
  | ret u =>
    obtain ⟨v, σ', H', J, rv, q⟩ := hs
    exact ⟨v, H', J.os, J.bare, J.base, J.hok, rv, q⟩
  | next =>
    obtain ⟨σ', H', J, q⟩ := hs
    exact ⟨V.non, H', J.os, J.bare, J.base, J.hok, (rfl : Value.none = Value.none), q⟩
  | brk =>
    obtain ⟨_, _, _, q⟩ := hs
    exact q.elim
  | cont =>
    obtain ⟨_, _, _, q⟩ := hs
    exact q.elim
end
section
variable {X : Cx} {CX : CXT} {k : Nat} {f : Addr} {fd : FuncData} {ps : List Str} {sp : Sp} {dvs : List V} {ds : List Value} {E : XK} {x : Str} {p pos : Pos} {e : Expr} {es : List Expr} {t : TA}
theorem run_fnG {pins : List (Addr × Obj)} {σ : St} {H : Hp} {s : Shared} {Q : VK} {us : List Value} {vs : List V} (F : FnG X.prog X.w X.K X.mg X.base CX k f fd ps sp) (hgu : X.A.guards = some []) (hr : Room k X.A) (hb : Binds X.K fd ps ds) (hd : Vals dvs ds) (hx : Passes CX X E)
    (I : Inv X pins σ H s) (r : Vals vs us) (h : sp (vs ++ dvs) H Q E) : wpAny (model X.prog X.w) X.A (call (.ref f) us) (EP X pins σ Q) X.xe s := by
  have r2 := r.append hd
  have hl : (us ++ ds).length = ps.length := r2.length.symm.trans (F.len _ _ _ _ h)
  refine wpAny_call (codeAny_mono (F.run X.A X.stack s H ⟨us, []⟩ (us ++ ds) (vs ++ dvs) Q E hgu hr I.env0 (hb s us I.kIn hl) r2 h) fun res s' hq => ?_)
  match res, hq with
  | .error er, hq => exact hx pins σ H s er s' I hq
  | .ok (.ret u), hq => exact I.after hq
/-- f(e, ..) of such a def -/
theorem pe_callG (F : FnG X.prog X.w X.K X.mg X.base CX k f fd ps sp) (hgu : X.A.guards = some []) (hr : Room k X.A) (hg : Gl X x) (hm : X.mg x = some (.ref f)) (hk : PySem.W.keepIn X.K (.ref f) = true) (hb : Binds X.K fd ps ds) (hd : Vals dvs ds) (hx : Passes CX X E)
    (ha : PA X (e :: es) t) (hdb : (x == ("__debug__" : Str)) = false := by decide) (he : starEach (e :: es) X.env = (false, eval e X.env) :: starEach es X.env := by rfl) (hpl : (backTo pos (starEach es X.env)).any (·.1) = false := by rfl) :
    PE X (.Call (.Name x p) (e :: es) [] pos) (tCall sp dvs E t) :=
  ⟨fun pins s σ H Q I h => wpAny_Call_Name_kw (ld_glob I hg hm (PySem.W.callWith_K (h₀ := X.base) I.ok.mod.kin hk (thn (ha.run pos pins s σ H _ I h) fun _ _ ⟨_, _, I1, r, q⟩ => ⟨I1.kIn, run_fnG F hgu hr hb hd hx I1 r q⟩) he hpl) hdb)⟩
end
/-! ### repr of data -/
section
variable {X : Cx}
/-- repr(x): data of ints, lists, tuples at an address -/
def rRepr (K : PySem.W.Frag) : List V → Hp → VK → Prop := fun xs H Q => ∃ (a : Addr) (d : PyData), xs = [.ref a] ∧ Dp K H (.ref a) d ∧ d.showable = true ∧ d.hasDict = false ∧ d.depth ≤ 30 ∧ d.shown.length ≤ sizeLine ∧ Q (.str d.shown) H
theorem call_reprD {k : Nat} (hgu : X.A.guards = some []) (hr : Room k X.A) : CallR X (.builtin "repr") (rRepr X.K) := by
  intro pins s σ H xs us Q I r h
  obtain ⟨a, d, rfl, hd, hs, hn, hz, hl, q⟩ := h
  cases r with
  | cons r rr =>
    cases rr
    obtain ⟨as, rd⟩ := Dp.reads I d _ _ hd r
    cases r
    have hu := hr.units
    exact repr_of_reads' rd hs (PyData.noDict_hsm hn) hgu (by omega) (fun _ _ e => e) (fun h' u tk hk => ⟨.str d.shown, H, I.kept hk, ⟨u, rfl⟩, q⟩) hl
end
/-! ### f(k = v, ..) -/
section
variable {X : Cx} {CX : CXT} {k : Nat} {f : Addr} {fd : FuncData} {ps ks : List Str} {sp : Sp} {E : XK} {x : Str} {p pos : Pos} {kws : List Keyword} {tk : TA} {g : List Value → List Value → List Value} {gV : List V → List V → List V}
theorem pe_callN0 (F : FnOk X.prog X.w X.K X.mg X.base CX k f fd ps sp) (hr : Room k X.A) (hg : Gl X x) (hm : X.mg x = some (.ref f)) (hk : PySem.W.keepIn X.K (.ref f) = true) (hb : KBn X.K fd ps 0 ks g gV) (hx : Passes CX X E) (hkw : PK X kws tk)
    (hall : (backToKw pos (keywordEach kws X.env)).all (·.1.isSome) = true := by rfl) (hks : (backToKw pos (keywordEach kws X.env)).filterMap (·.1) = ks := by rfl) (hdb : (x == ("__debug__" : Str)) = false := by decide)
    (hpl : ((backTo pos (starEach [] X.env)).any (·.1) || (backToKw pos (keywordEach kws X.env)).any (·.1.isNone)) = false := by rfl) :
    PE X (.Call (.Name x p) [] kws pos) (tCallN 0 ks.length sp gV E tNil tk) := by
  refine ⟨fun pins s σ H Q I h => wpAny_Call_Name_kw (ld_glob I hg hm (PySem.W.callWith_KW0 (h₀ := X.base) I.ok.mod.kin hk hall ?_ hpl) hdb)⟩
  refine thn (hkw.run pos pins s σ H _ I h) fun ws s2 ⟨zs, H2, I2, rz, l1, l2, q2⟩ => ⟨I2.kIn, ?_⟩
  rw [hks]
  exact run_fnN (us := []) (vs := []) F hr hb hx I2 .nil rz l1 l2 q2
end
/-! ### o.f as a target among others -/
def gFld (K : PySem.W.Frag) (to : TE) (f : Str) : TG := fun v σ H Q => to σ H fun x H1 => ∃ a C dx fs, x = .ref a ∧ H1 a = some (.ins C dx fs) ∧ Cls K C ∧ NoAttr K C f ∧ fs.length < 1000 ∧ Q σ (upd H1 a (.ins C dx (putF f v fs)))
theorem pg_fld {X : Cx} {o : Expr} {to : TE} {f : Str} {pos : Pos} (ho : PE X o to) : PG X (.Attribute o f pos) (gFld X.K to f) := by
  refine ⟨fun pins s σ H v u Q I r h => ?_⟩
  rw [assign_Attribute]
  refine wpAny_bind (wpAny_holding (thn (ho.run pins s σ H _ I h) fun ov s1 ⟨x, H1, I1, r1, a, C, dx, fs, ex, ea, c, n, l, q⟩ => ?_))
  subst ex
  obtain rfl : ov = Value.ref a := r1
  refine wpAny_bind (wpAny_standAt (wpAny_bind (wpAny_holding (setattr_ok I1 ea c n l r fun s2 I2 => ?_))))
  exact wpAny_release ⟨σ, _, I2, q⟩
/-! ### the law's call where its def wants no guard around -/
theorem law_callG {P : Program} {w : World} {K : PySem.W.Frag} {mg mb : Str → Option Value} {CX : CXT} {k : Nat} {fa a : Addr} {fd : FuncData} {x : Str} {sp : Sp} {s1 : Shared} {vs : List Value} {ns : List Int}
    (KX : K.In s1.heap) (hns : s1.heap.Ns mainGlobals mg) (hb : s1.heap.Ns builtinsNs mb) (hbb : ∀ x : Str, x ≠ "__name__" → mb x = bootBuiltins x) (hlim : s1.heap.NoLimit) (hg : s1.gens = #[])
    (ha : s1.heap.get? a = some { cls := .type "list", data := .seq vs.toArray }) (hi : IntsAre vs ns) (hl : ns.length ≤ sizeLine) (hr : Room k callerA)
    (F : ∀ base : Heap, K.In base → base.Ns mainGlobals mg → FnG P w K mg base CX k fa fd [x] sp) (hbind : ∀ (s : Shared) (u : Value), BindsTo s fd ⟨[u], []⟩ [(x, u)])
    (hsp : ∀ H : Hp, Only H → SqL K H a (ns.map V.int) → sp [.ref a] H (fun v _ => v = .bl true) fun _ _ _ => False)
    (hCX : ∀ H e s', CX [] H s1 (fun _ _ _ => False) e s' → False) :
    codeAny (model P w) callerA (.call (.ref fa) ⟨[.ref a], []⟩) (fun r s' => r = .ok (.ret (.bool true)) ∧ OldK s1.heap s'.heap ∧ s'.os = s1.os ∧ AllBare s'.gens) s1 := by
  have rv := vals_ints hi
  have lenV := hi.length
  have core : ∀ H : Hp, Only H → SqL K H a (ns.map V.int) → HOk P w H s1.heap → (∀ b, H b ≠ none → b = a) → (H a ≠ none → K.lookup a = none) →
      codeAny (model P w) callerA (.call (.ref fa) ⟨[.ref a], []⟩) (fun r s' => r = .ok (.ret (.bool true)) ∧ OldK s1.heap s'.heap ∧ s'.os = s1.os ∧ AllBare s'.gens) s1 := by
    intro H hO hS hok hA hK
    have old : ∀ {b : Addr} {o : Obj}, s1.heap.get? b = some o → H b = none → (hidT s1.heap H).get? b = some o := fun e n => hidT_get e n
    have atA : ∀ {b : Addr} {u : HO}, H b = some u → b = a := fun {b u} q => hA b (by rw [q]; exact Option.some_ne_none _)
    have noD : ∀ {b : Addr} {o : Obj} {es : Array DictEntry} {ep : Nat}, s1.heap.get? b = some o → o.data = .dict es ep → H b = none := by
      intro b o es ep e d
      match q : H b with
      | none => rfl
      | some u =>
        have e' := atA q
        subst e'
        rw [ha] at e
        cases e
        have d' : Data.seq vs.toArray _ = Data.dict es ep := d
        cases d'
    have nsK : ∀ {b : Addr} {m : Str → Option Value}, s1.heap.Ns b m → (hidT s1.heap H).Ns b m := fun ⟨o, es, ep, e, d, r⟩ => ⟨o, es, ep, old e (noD e d), d, r⟩
    have hKb : K.In (hidT s1.heap H) := by
      intro b o e
      refine old (KX b o e) ?_
      match q : H b with
      | none => rfl
      | some u =>
        have e' := atA q
        subst e'
        rw [hK (by rw [q]; exact Option.some_ne_none _)] at e
        cases e
    have hlim' : (hidT s1.heap H).NoLimit := let ⟨mc, h1, h2⟩ := hlim; ⟨mc, nsK h1, h2⟩
    have e0 : Env0 P w K mg (hidT s1.heap H) callerA [] s1 H :=
      { frames := rfl, mod := ⟨hKb, nsK hns, ⟨mb, nsK hb, hbb⟩, hlim'⟩, bs := fun b o e => of_hidT e, bsz := Nat.le_of_eq (hidT_size _ _), funs := trivial, frf := fun b hb => (List.not_mem_nil hb).elim, hok := hok, bare := .of_eq hg }
    refine codeAny_mono ((F _ hKb (nsK hns)).run callerA [] s1 H ⟨[.ref a], []⟩ [.ref a] [.ref a] _ _ rfl hr e0 (hbind s1 (.ref a)) (.cons rfl .nil) (hsp H hO hS)) fun r s' h => ?_
    match r, h with
    | .error e, h => exact (hCX H e s' h).elim
    | .ok (.ret u), h =>
      obtain ⟨v, H', os, bare, un, hok', r', q⟩ := h
      obtain rfl : v = .bl true := q
      obtain rfl : u = Value.bool true := r'
      refine ⟨rfl, OldK.of_keep fun b o e => ?_, os, bare⟩
      match q : H b with
      | none => exact un.keep b o e q (fun z => (List.not_mem_nil z).elim) List.not_mem_nil
      | some u =>
        rcases hO b with z | ⟨ob, xs, z⟩
        · rw [q] at z
          cases z
        · obtain ⟨e1, _⟩ := hok b _ z
          obtain ⟨e2, _⟩ := hok' b _ (un.frzs b ob _ z)
          rw [e] at e1
          cases e1
          exact e2
  match hk : K.lookup a with
  | some o =>
    have e := KX a o hk
    rw [ha] at e
    cases e
    exact core (fun _ => none) (fun _ => .inl rfl) (.inr ⟨_, vs.toArray, _, hk, rfl, rfl, rfl, by rw [List.size_toArray, lenV]; exact hl, by simpa using rv⟩) (fun b u (z : (none : Option HO) = some u) => nomatch z) (fun b z => absurd rfl z) fun z => absurd rfl z
  | none =>
    let H0 : Hp := fun b => if b = a then some (.frz { cls := .type "list", data := .seq vs.toArray } (.lst (ns.map V.int))) else none
    have h0a : H0 a = some (.frz { cls := .type "list", data := .seq vs.toArray } (.lst (ns.map V.int))) := if_pos rfl
    have h0n : ∀ b, b ≠ a → H0 b = none := fun b hb => if_neg hb
    refine core H0 (fun b => ?_) (.inl (.inr ⟨_, h0a⟩)) (fun b u z => ?_) (fun b z => ?_) fun _ => hk
    · by_cases hb : b = a
      · exact .inr ⟨_, _, by rw [hb]; exact h0a⟩
      · exact .inl (h0n b hb)
    · by_cases hb : b = a
      · subst hb
        rw [h0a] at z
        cases z
        exact ⟨ha, by rw [List.length_map]; exact hl, vs, _, rv, ha⟩
      · rw [h0n b hb] at z
        cases z
    · by_cases hb : b = a
      · exact hb
      · exact absurd (h0n b hb) z
theorem walk_ofG {l : PySem.W.OpenLaw} {n k : Nat} {q : Program} {loose : List Str} {XP : (Str → Option Value) → Heap → Prop} {YP : World → Heap → Prop} {d : DefRec} {CX : CXT} {x : Str}
    (hn : l.most = some n) (hn2 : n ≤ sizeLine) (hdf : d.params.defaults = []) (hr : Room k callerA)
    (F : ∀ (w : World) (mg : Str → Option Value) (fa : Addr) (h : Heap), YP w h → h.Ns mainGlobals mg → mg d.name = some (.ref fa) →
      ∃ (K : PySem.W.Frag) (fd : FuncData) (sp : Sp), K.In h ∧ (∀ (s : Shared) (u : Value), BindsTo s fd ⟨[u], []⟩ [(x, u)]) ∧
        (∀ (H : Hp) (a : Addr) (ns : List Int), ns.length ≤ n → Only H → SqL K H a (ns.map V.int) → sp [.ref a] H (fun v _ => v = .bl true) fun _ _ _ => False) ∧
        ∀ base : Heap, K.In base → base.Ns mainGlobals mg → FnG l.prog w K mg base CX k fa fd [x] sp)
    (hCX : ∀ (H : Hp) (s : Shared) (e : Value) (s' : Shared), CX [] H s (fun _ _ _ => False) e s' → False) :
    PySem.W.WalkO q loose XP YP l.row.toRowW d [] (fun f vs => PySem.call f vs) := by
  refine Att.attach_call hn hdf fun w s0 s1 mg mb fa o pm cd doc a vs ns G Y ho hd hcd hmg hobj hints hlen hg => ?_
  obtain ⟨K, fd, sp, KX, hb, hsp, hF⟩ := F w mg fa _ Y G.T.g hmg
  exact law_callG KX G.T.g G.T.b G.T.builtins G.T.nolimit hg hobj hints (Nat.le_trans hlen hn2) hr hF hb (fun H hO hS => hsp H a ns hlen hO hS) fun H e s' => hCX H s1 e s'
end L2

/-! ## RExc -/
/-! an own exception class straight over RuntimeError, whose __init__ calls RuntimeError's by its name and stores fields: its making walked as a def -/
namespace K23
open PySem PySem.Spec PyProof.Rows L2 PySem.HandSPX
open Builtin Builtin.ObjectAttr
abbrev reTail : List Value := [.type "RuntimeError", .type "Exception", .type "BaseException", .type "object"]
theorem re_pass (self : Value) (C : Addr) : refuseLoop self "__setattr__" (.ref C :: reTail) = pure () := by
  rw [refuseLoop_ref]
  exact F.store_RuntimeError.passes self
/-- what the written part says of the class at C -/
structure ReC (K : PySem.W.Frag) (C : Addr) : Prop where
  cls : ∃ nm q N bs sn sub ab col dd k0 k1 k2 k3 k5, K.lookup C = some (excClassObj nm q C N bs reTail true sn sub ab col dd k0 k1 k2 k3 k5 "RuntimeError.__new__")
  sa : PySem.W.findIn K (.ref C) "__setattr__" = some (some (.builtin "object.__setattr__"))
  exC : PySem.W.subIn K (.ref C) (.type "BaseException") = some true
  tyC : PySem.W.typeIn K (.ref C) = some (.type "type")
  kC : PySem.W.keepIn K (.ref C) = true
theorem ReC.cd {K : PySem.W.Frag} {C : Addr} (T : ReC K C) : ∃ nm bs ns q sn sub ab col, PySem.W.clsIn K C = some { name := nm, bases := bs, mro := .ref C :: reTail, ns := ns, qualname := q, hasDict := true, slotNames := sn, subclasses := sub, abstract := ab, collection := col, hasDel := false } := by
  obtain ⟨nm, q, N, bs, sn, sub, ab, col, dd, k0, k1, k2, k3, k5, hC⟩ := T.cls
  refine ⟨nm, bs, N, q, sn, sub, ab, col, ?_⟩
  unfold PySem.W.clsIn
  rw [hC]
  all_goals rfl
theorem re_obj (C : Addr) : (Value.ref C :: reTail).contains (.type "object") = true := by
  rw [List.contains_cons]
  have : reTail.contains (.type "object") = true := by decide +kernel
  rw [this, Bool.or_true]
section
variable {prog : Program} {w : World} {A : Around} {E : Value → Shared → Prop} {R : Result → Shared → Prop} {hp : Heap} {g : Array GenState} {d : Drawn} {t : Nat} {os : OsState}
/-- the first field of an exception that has no dict yet -/
theorem re_first {K : PySem.W.Frag} {name : Str} {tk : Tok} {v : Value} {x C : Addr} {fv : Array Value} (T : ReC K C) (X : K.In hp) (hx : hp.get? x = some { cls := .ref C, data := .fields fv }) (hno : PySem.W.findIn K (.ref C) name = some none)
    (hq : ∀ h' tk' dx, (∀ b o, b ≠ x → hp.get? b = some o → h'.get? b = some o) → hp.objs.size ≤ dx → dx ≠ x → h'.get? x = some { cls := .ref C, dict := some dx, data := .fields fv } → h'.Ns1 dx (fun y => if y = name then some v else none) → R (.ok (.ret .none)) ⟨h', g, d, tk', os⟩) :
    codeAny (model prog w) A (.call (.builtin "object.__setattr__") ⟨[.ref x, .str name tk, v], []⟩) R ⟨hp, g, d, t, os⟩ := by
  obtain ⟨nm, bs, ns, qn, sn, sb, ab, col, hcd⟩ := T.cd
  have I : PySem.W.InstAt hp x { cls := .ref C, data := .fields fv } C none := ⟨hx, rfl, rfl, trivial⟩
  have SF := F.store_object
  have hxs : x ≠ hp.objs.size := Nat.ne_of_lt (Heap.lt_size hx)
  have mro : PySem.W.mroIn K C (.type "object") = some true := by
    unfold PySem.W.mroIn
    rw [hcd, Option.bind_some, if_neg (by simp), re_obj]
  have sub : PySem.W.Looks (model prog w) hp (isInstance (.ref x) (.type "object")) true := I.type.andThen (PySem.W.looks_mroIn X mro)
  refine codeAny_call_builtin SF.slot.plain SF.entry (@PySem.W.check_slot (model prog w) _ _ ⟨hp, g, d, t, os⟩ "object.__setattr__" "object" "__setattr__" (.ref x) [.str name tk, v] [] _ SF.kind SF.split sub (SF.args (.ref x) (.str name tk) v) ?_)
  have hmr : PySem.W.Looks (model prog w) hp (mroOf (.ref C)) (.ref C :: reTail) := (PySem.W.looks_clsIn X hcd).andThen .now
  have L3 : PySem.W.Looks (model prog w) hp (storeTaker? none) none := .now
  have hcls := PySem.W.looks_clsIn (M := model prog w) X hcd
  rw [PySem.W.osa_eq, refuse_eq]
  refine wpAny_bind (wpAny_bind (I.type.at (wpAny_bind (hmr.at ?_))))
  rw [re_pass]
  refine wpAny_pure (wpAny_bind (I.type.at (wpAny_bind ((PySem.W.looks_findIn X hno).at (wpAny_bind (L3.at ?_))))))
  show wpAny _ _ (storeInOwnDict (.ref x) (.ref C) (.str name tk) name v false) _ _ _
  unfold storeInOwnDict ownDictForStores
  repeat (first | with_reducible refine store_in_new ?_ ?_ | with_reducible refine wpAny_loadPart_at hx ?_ | with_reducible refine hcls.at ?_ | wp_step)
  · exact ⟨_, #[], _, (Heap.get?_update_ne _ _ _ _ hxs.symm).trans (Heap.get?_push_at rfl rfl), rfl, fun e he => absurd he (by simp), fun _ => rfl⟩
  · intro h' tk' hn' hs
    have hx1 : (hp.push { cls := .type "dict", data := .dict #[] }).get? x = some { cls := .ref C, data := .fields fv } := Heap.get?_push_of_some _ hx
    exact hq h' tk' hp.objs.size (fun b o hb ho => (hs.2 b (Nat.ne_of_lt (Heap.lt_size ho))).trans ((Heap.get?_update_ne _ _ _ _ hb).trans (Heap.get?_push_of_some _ ho))) (Nat.le_refl _) hxs.symm
      ((hs.2 x hxs).trans (Heap.get?_update_self _ hx1 rfl)) hn'
/-- a further field -/
theorem re_more {K : PySem.W.Frag} {name : Str} {tk : Tok} {v : Value} {x C dx : Addr} {fv : Array Value} {m0 : Str → Option Value} {nl : List Str} (T : ReC K C) (X : K.In hp) (hx : hp.get? x = some { cls := .ref C, dict := some dx, data := .fields fv })
    (hns : hp.Ns1 dx m0) (hw : Within m0 nl) (hz : nl.length ≤ 1000) (hno : PySem.W.findIn K (.ref C) name = some none)
    (hq : ∀ h' tk', (∀ b o, b ≠ dx → hp.get? b = some o → h'.get? b = some o) → h'.Ns1 dx (fun y => if y = name then some v else m0 y) → R (.ok (.ret .none)) ⟨h', g, d, tk', os⟩) :
    codeAny (model prog w) A (.call (.builtin "object.__setattr__") ⟨[.ref x, .str name tk, v], []⟩) R ⟨hp, g, d, t, os⟩ := by
  obtain ⟨nm, bs, ns, qn, sn, sb, ab, col, hcd⟩ := T.cd
  obtain ⟨oD, esD, epD, hoD, hdD, _⟩ := hns.count hw
  have I : PySem.W.InstAt hp x { cls := .ref C, dict := some dx, data := .fields fv } C (some oD) := ⟨hx, rfl, rfl, hoD⟩
  have SF := F.store_object
  have mro : PySem.W.mroIn K C (.type "object") = some true := by
    unfold PySem.W.mroIn
    rw [hcd, Option.bind_some, if_neg (by simp), re_obj]
  have sub : PySem.W.Looks (model prog w) hp (isInstance (.ref x) (.type "object")) true := I.type.andThen (PySem.W.looks_mroIn X mro)
  refine codeAny_call_builtin SF.slot.plain SF.entry (@PySem.W.check_slot (model prog w) _ _ ⟨hp, g, d, t, os⟩ "object.__setattr__" "object" "__setattr__" (.ref x) [.str name tk, v] [] _ SF.kind SF.split sub (SF.args (.ref x) (.str name tk) v) ?_)
  have hmr : PySem.W.Looks (model prog w) hp (mroOf (.ref C)) (.ref C :: reTail) := (PySem.W.looks_clsIn X hcd).andThen .now
  have L3 : PySem.W.Looks (model prog w) hp (storeTaker? none) none := .now
  have hcls := PySem.W.looks_clsIn (M := model prog w) X hcd
  rw [PySem.W.osa_eq, refuse_eq]
  refine wpAny_bind (wpAny_bind (I.type.at (wpAny_bind (hmr.at ?_))))
  rw [re_pass]
  refine wpAny_pure (wpAny_bind (I.type.at (wpAny_bind ((PySem.W.looks_findIn X hno).at (wpAny_bind (L3.at ?_))))))
  show wpAny _ _ (storeInOwnDict (.ref x) (.ref C) (.str name tk) name v false) _ _ _
  unfold storeInOwnDict ownDictForStores
  repeat (first | with_reducible refine PySem.OEX.store_in_old hns hw hz ?_ | with_reducible refine wpAny_loadPart_at hx ?_ | with_reducible refine hcls.at ?_ | wp_step)
  intro h' tk' hn' hs
  exact hq h' tk' (fun b o hb ho => (hs.2 b hb).trans ho) hn'
end
theorem typ_RE : typeOf (.type "RuntimeError") = pure (.type "type") := by kernel_rfl
end K23
namespace L2
open PySem PySem.Spec PyProof.Rows K23
section
variable {X : Cx} {pins : List (Addr × Obj)} {σ : St} {H : Hp} {s : Shared} {a C dx : Addr} {f : Str} {y : V} {u : Value} {fs : List (Str × V)} {Q : Unit → Shared → Prop} {E : Value → Shared → Prop} {A : Around}
theorem rst_new (T : ReC X.K C) (I : Inv X pins σ H s) (e : H a = some (exo a C none)) (hno : PySem.W.findIn X.K (.ref C) f = some none) (ry : RelV y u)
    (h : ∀ dx s', H dx = none → dx ≠ a → Inv X pins σ (upd (upd H dx (exd dx [(f, y)])) a (exo a C (some dx))) s' → Q () s') : wpAny (model X.prog X.w) A (setAttr (.ref a) f u) Q E s := by
  obtain ⟨t1, ho⟩ := exo_at I.hok e
  obtain ⟨hp, g, d, t, os⟩ := s
  refine PySem.W.set_plain I.kIn (ox := { cls := .ref C, dict := none, data := .fields #[.ref t1, .none, .none, .none, .bool false, .none] }) (od := none) ⟨ho, rfl, rfl, trivial⟩ T.sa ?_
  refine re_first T I.kIn ho hno (fun h' tk' dx k dn dne hx hn => ?_)
  have hnd : H dx = none := I.hok.fresh dn
  have nd : ∀ {b : Addr} {o : Obj}, hp.get? b = some o → b ≠ dx := fun q => Nat.ne_of_lt (Nat.lt_of_lt_of_le (Heap.lt_size q) dn)
  have na : ∀ {b : Addr}, H b = none → b ≠ a := fun n z => by
    rw [z, e] at n
    cases n
  have away : ∀ {b : Addr} {o : HO}, H b = some o → exo a C none ≠ o → upd (upd H dx (exd dx [(f, y)])) a (exo a C (some dx)) b = some o := fun {b o} q n => by
    rw [upd_ne (at_ne e q n), upd_ne (ne_of_none q hnd)]
    exact q
  have U : Un X.fs [] H (upd (upd H dx (exd dx [(f, y)])) a (exo a C (some dx))) hp h' := {
    keep := fun b o q n _ _ => k b o (na n) q
    slot := fun b o q n _ _ => ⟨o.slots, k b o (na n) q⟩
    free := fun b o q n _ => by rw [upd_ne (na n), upd_ne (nd q)]; exact n
    there := fun b o q _ => by
      by_cases hb : b = a
      · exact ⟨_, by rw [hb]; exact hx⟩
      · exact ⟨o, k b o hb q⟩
    tups := fun b xs q => away q exo_tup
    frzs := fun b o v q => away q exo_frz
    tbls := fun b ps q => ⟨#[], by rw [away q exo_tbl]; simp⟩ }
  refine h dx _ hnd dne (I.un (t' := tk') U fun b o q => ?_)
  by_cases hb : b = a
  · subst hb
    rw [upd_same] at q
    cases q
    exact exo_ok hx
  · rw [upd_ne hb] at q
    by_cases hd : b = dx
    · subst hd
      rw [upd_same] at q
      cases q
      exact exd_ok hn (relO_put (fs := []) ry fun g => True.intro)
    · rw [upd_ne hd] at q
      refine (I.hok b o q).stay (fun c v hc z => k c v ?_ z) (fun c hc => away hc exo_own) fun c xs hc => away hc exo_tup
      rcases hc with hc | hc
      · rw [hc]
        exact hb
      · exact at_ne e hc exo_own
theorem rst_old (T : ReC X.K C) (I : Inv X pins σ H s) (e : H a = some (exo a C (some dx))) (ed : H dx = some (exd dx fs)) (hl : fs.length ≤ 900) (hno : PySem.W.findIn X.K (.ref C) f = some none) (ry : RelV y u)
    (h : ∀ s', Inv X pins σ (upd H dx (exd dx ((f, y) :: fs))) s' → Q () s') : wpAny (model X.prog X.w) A (setAttr (.ref a) f u) Q E s := by
  obtain ⟨t1, ho⟩ := exo_at I.hok e
  obtain ⟨mA, hns, rel⟩ := exd_at I.hok ed
  have hw := within_of rel
  obtain ⟨hp, g, d, t, os⟩ := s
  obtain ⟨oD, _, _, hoD, _, _⟩ := hns.count hw
  refine PySem.W.set_plain I.kIn (ox := { cls := .ref C, dict := some dx, data := .fields #[.ref t1, .none, .none, .none, .bool false, .none] }) (od := some oD) ⟨ho, rfl, rfl, hoD⟩ T.sa ?_
  refine re_more T I.kIn ho hns hw (by rw [List.length_map]; omega) hno (fun h' tk' k hn => ?_)
  have hd : ∃ o, h'.get? dx = some o := let ⟨o, _, _, e', _⟩ := hn; ⟨o, e'⟩
  exact h _ (I.write (t' := tk') (x := dx) (e := dx) (o := exd dx ((f, y) :: fs)) (by rw [ed]; exact True.intro) (.inl rfl) k hd (exd_ok hn (relO_put ry rel)))
/-- RuntimeError.__init__(self, ..): nothing of it is told -/
theorem rinit_ok {us : List Value} {Q : Value → Shared → Prop} (T : ReC X.K C) (I : Inv X pins σ H s) (e : H a = some (exo a C none)) (hl : us.length ≤ sizeLine) (h : ∀ s', Inv X pins σ H s' → Q .none s') :
    wpAny (model X.prog X.w) A (call (.builtin "RuntimeError.__init__") (.ref a :: us)) Q E s := by
  obtain ⟨nm, q, N, bs, sn, sub, ab, col, dd, k0, k1, k2, k3, k5, hC⟩ := T.cls
  obtain ⟨t1, ho⟩ := exo_at I.hok e
  obtain ⟨hp, g, d, t, os⟩ := s
  refine wpAny_call (PySem.HandSPX.init_base F.excBase_RuntimeError (fun _ => rfl) (I.kIn _ _ hC) ho hl fun h' t2 k hx => ?_)
  have J := I.write (t' := t) (x := a) (e := a) (o := exo a C none) (by rw [e]; exact True.intro) (.inl rfl) k ⟨_, hx⟩ (exo_ok hx)
  have eu : upd H a (exo a C none) = H := funext fun b => by
    by_cases hb : b = a
    · rw [hb, upd_same, e]
    · rw [upd_ne hb]
  rw [eu] at J
  exact h _ J
end
/-! ### readings and rules -/
def tReI (K : PySem.W.Frag) (ta : TA) : TE := fun σ H Q => ta σ H fun vs H1 => ∃ (a C : Addr) (ws : List V), vs = .ref a :: ws ∧ ws.length ≤ 1000 ∧ ReC K C ∧ H1 a = some (exo a C none) ∧ Q .non H1
def tRst (K : PySem.W.Frag) (f : Str) (to te : TE) : TS := fun D σ H => te σ H fun y H1 => to σ H1 fun x H2 => ∃ a C : Addr, x = .ref a ∧ ReC K C ∧ PySem.W.findIn K (.ref C) f = some none ∧
  ((H2 a = some (exo a C none) ∧ ∀ dx, H2 dx = none → dx ≠ a → D.nx σ (upd (upd H2 dx (exd dx [(f, y)])) a (exo a C (some dx)))) ∨
    ∃ (dx : Addr) (fs : List (Str × V)), H2 a = some (exo a C (some dx)) ∧ H2 dx = some (exd dx fs) ∧ fs.length ≤ 900 ∧ D.nx σ (upd H2 dx (exd dx ((f, y) :: fs))))
section
variable {X : Cx} {o e : Expr} {es : List Expr} {to te : TE} {ta : TA} {f : Str} {p p' p1 p2 pos : Pos}
theorem pe_reinit {pl : Sem Bool} (hg : Gl X "RuntimeError") (hm : X.mg "RuntimeError" = none) (vV : PySem.W.findCls X.K (.type "RuntimeError") (.type "type") "__init__" = some (.val (.builtin "RuntimeError.__init__"))) (ha : PA X (e :: es) ta)
    (hc : eval (.Call (.Attribute (.Name "RuntimeError" p1) "__init__" p2) (e :: es) [] pos) X.env = (do
      let ov ← eval (.Name "RuntimeError" p1) X.env
      standAt p2.atName
      let (f, first) ← holding [ov] (getMethod ov "__init__" pl)
      callWith pos f first (backTo pos (starEach (e :: es) X.env)) (backToKw pos (keywordEach [] X.env))) := by rfl)
    (he : starEach (e :: es) X.env = (false, eval e X.env) :: starEach es X.env := by rfl) (hpl : (backTo pos (starEach es X.env)).any (·.1) = false := by rfl) :
    PE X (.Call (.Attribute (.Name "RuntimeError" p1) "__init__" p2) (e :: es) [] pos) (tReI X.K ta) := by
  refine ⟨fun pins s σ H Q I h => PySem.W.methodCall_KW (ld_blt I hg hm PyProof.Rows.Boot.«RuntimeError» ?_ (by decide) (by decide)) hc⟩
  obtain ⟨m, fr⟩ := I.fr
  refine PySem.W.method_type fr I.ok.mod.kin typ_RE (by decide +kernel) vV (by decide +kernel) ?_
  show wpAny _ _ (callWith pos (Value.builtin "RuntimeError.__init__") [] (backTo pos (starEach (e :: es) X.env)) []) _ _ _
  refine PyProof.Rows.callWith_method1 (thn (ha.run pos pins _ σ H _ (I.tok _) h) fun us s1 ⟨vs, H1, I1, r1, a, C, ws, ev, hl, T, ea, q⟩ => ?_) he hpl
  subst ev
  cases r1 with
  | @cons _ u0 _ ur ra rw' =>
    obtain rfl : u0 = Value.ref a := ra
    have hlen : ur.length ≤ sizeLine := by
      rw [← Paired.length rw', sizeLine_eq]
      omega
    exact rinit_ok T I1 ea hlen fun s' J => ⟨.non, H1, J, rfl, q⟩
theorem ps_rst (ho : PE X o to) (he : PE X e te) (hs : swapsWith e (some (.Attribute o f p')) pos.line X.env = pure false := by rfl) : PS X (.Assign [.Attribute o f p'] e pos) (tRst X.K f to te) := by
  refine ⟨fun pins s σ H D I h => plainObj_wpAny_Assign_Attribute (thn (he.run pins s σ H _ I h) fun v s1 ⟨y, H1, I1, r1, q1⟩ => thn (ho.run pins s1 σ H1 _ I1 q1) fun u s2 ⟨x, H2, I2, r2, a, C, ex, T, hno, q⟩ => ?_) hs⟩
  subst ex
  obtain rfl : u = Value.ref a := r2
  rcases q with ⟨ea, q⟩ | ⟨dx, fs, ea, ed, hl, q⟩
  · exact rst_new T I2 ea hno r1 fun dx s' n ne J => ⟨σ, _, J, q dx n ne⟩
  · exact rst_old T I2 ea ed hl hno r1 fun s' J => ⟨σ, _, J, q⟩
/-- C(e, ..) as an exception that is made -/
theorem pmk_re {CX : CXT} {x : Str} {C fI : Addr} {k : Nat} {fd : FuncData} {ps : List Str} {sp : Sp} (T : ReC X.K C) (iC : PySem.W.findIn X.K (.ref C) "__init__" = some (some (.ref fI))) (tI : PySem.W.typeIn X.K (.ref fI) = some (.type "function"))
    (F1 : FnOk X.prog X.w X.K X.mg X.base CX k fI fd ps sp) (hr : Room (k + 1) X.A) (hb : Binds X.K fd ps []) (hx : Passes CX X (fun _ _ _ => False)) (hg : Gl X x) (hm : X.mg x = some (.ref C)) (ha : PA X (e :: es) ta)
    (hdb : (x == ("__debug__" : Str)) = false := by decide) (he : starEach (e :: es) X.env = (false, eval e X.env) :: starEach es X.env := by rfl) (hpl : (backTo pos (starEach es X.env)).any (·.1) = false := by rfl) :
    PMk X (.Call (.Name x p) (e :: es) [] pos) (tMkO C sp [] ta) := by
  intro pins s σ H Q I h
  obtain ⟨nm, q, N, bs, sn, sub, ab, col, dd, k0, k1, k2, k3, k5, hC⟩ := T.cls
  refine wpAny_Call_Name_kw (ld_glob I hg hm (PySem.W.callWith_K (h₀ := X.base) I.ok.mod.kin T.kC (thn (ha.run pos pins s σ H _ I h) fun us s1 ⟨vs, H1, I1, r1, hz, q1⟩ => ⟨I1.kIn, ?_⟩) he hpl) hdb)
  show wpAny _ _ (call (.ref C) us) _ _ _
  obtain ⟨hp, g, dr, tk, os⟩ := s1
  have hsz : hp.objs.size ≤ hp.objs.size + 1 := Nat.le_succ _
  have hq := q1 (hp.objs.size + 1) (I1.hok.fresh hsz)
  have kk : ∀ b o, hp.get? b = some o → ((hp.push (PySem.W.kdv_tup us)).push (PySem.HandSPX.excO C hp.objs.size)).get? b = some o := fun b o e => Heap.get?_push_of_some _ (Heap.get?_push_of_some _ e)
  have hget : ((hp.push (PySem.W.kdv_tup us)).push (PySem.HandSPX.excO C hp.objs.size)).get? (hp.objs.size + 1) = some (PySem.HandSPX.excO C hp.objs.size) := by heap_get
  have I2 : Inv X pins σ (upd H1 (hp.objs.size + 1) (exo (hp.objs.size + 1) C none)) ⟨(hp.push (PySem.W.kdv_tup us)).push (PySem.HandSPX.excO C hp.objs.size), g, dr, tk, os⟩ := I1.laid (t' := tk) kk hsz (exo_ok hget)
  have r2 : Vals (V.ref (hp.objs.size + 1) :: (vs ++ [])) (Value.ref (hp.objs.size + 1) :: (us ++ [])) := .cons rfl (r1.append .nil)
  have hl : (Value.ref (hp.objs.size + 1) :: us ++ []).length = ps.length := by
    have e := r2.length
    rw [F1.len _ _ _ _ hq] at e
    exact e.symm
  have hus : us.length ≤ sizeLine := by
    rw [← Paired.length r1, sizeLine_eq]
    omega
  have hbt : BindsTo ⟨(hp.push (PySem.W.kdv_tup us)).push (PySem.HandSPX.excO C hp.objs.size), g, dr, tk, os⟩ fd ⟨Value.ref (hp.objs.size + 1) :: us, []⟩ (ps.zip (Value.ref (hp.objs.size + 1) :: (us ++ []))) := hb _ (Value.ref (hp.objs.size + 1) :: us) I2.kIn hl
  refine wpAny_call (PySem.HandSPX.call_own F.excBase_RuntimeError (fun _ => rfl) (I1.kIn _ _ hC) (PySem.W.looks_findIn I1.kIn iC) (fun self => PySem.W.bind_fn I1.kIn self tI) hus
    (codeAny_mono (F1.run _ X.stack _ _ ⟨Value.ref (hp.objs.size + 1) :: us, []⟩ (Value.ref (hp.objs.size + 1) :: (us ++ [])) _ _ (fun _ _ _ => False) (hr.make C us []) (I2.env0.make C us []) hbt r2 hq) fun r s' hq' => ?_))
  match r, hq' with
  | .error er, hq' => exact hx pins σ _ _ er s' I2 hq'
  | .ok (.ret u), hq' =>
    obtain ⟨v, H2, os2, bare2, un2, hok2, rv, ev, d, fs, ea, ed, hd1, q2⟩ := hq'
    subst ev
    obtain ⟨h2, g2, d2, t2, os'⟩ := s'
    exact ⟨rv, mk_end (raises_own T.exC T.tyC) I1 hsz kk un2 hok2 os2 bare2 ea ed hd1 q2⟩
end
/-! ### isinstance of the error that the suite holds -/
/-- isinstance(e, c), isinstance(e, (c, ..)): e the exception in hand, of the class at D, with a dict of its own -/
def rIsET (K : PySem.W.Frag) (D a : Addr) (d : Option Addr) : List V → Hp → VK → Prop := fun xs H Q => ∃ (dd : Addr) (fs : List (Str × V)) (b : Bool) (x : V), xs = [.ref a, x] ∧ d = some dd ∧ H dd = some (.xd fs) ∧
  ((∃ cv, (∀ u, RelV x u → u = cv) ∧ PySem.W.kitOne K (.ref D) cv = some b) ∨ ∃ (tp : Addr) (cs : List V) (us : List Value), x = .ref tp ∧ H tp = some (.tup cs) ∧ Paired ClsV cs us ∧ PySem.W.kitAny K (.ref D) us = some b) ∧ Q (.bl b) H
theorem call_isET {X : Cx} {a D : Addr} {d : Option Addr} {oe : Obj} {pn : List (Addr × Obj)} (hcl : (PySem.W.clsIn X.K D).isSome = true) (C : ExcC X.K D) (hz : Zc (.ref D) d oe) (hf : ∃ vs, oe.data = .fields vs) : CallR (X.suite a ((a, oe) :: pn)) (.builtin "isinstance") (rIsET X.K D a d) := by
  intro pins s σ H xs us Q I r h
  obtain ⟨dd, fs, b, x, rfl, ed, hdd, hx, q⟩ := h
  subst ed
  cases r with
  | cons rx rr =>
    cases rr with
    | cons rt rr =>
      cases rr
      cases rx
      obtain ⟨hget, _⟩ := I.pin (a, oe) (List.mem_append_left _ List.mem_cons_self)
      obtain ⟨vs, hv⟩ := hf
      have hok : ObjOk X.prog X.w H s.heap dd (.xd fs) := I.hok dd _ hdd
      obtain ⟨mA, hns, _⟩ := hok
      obtain ⟨od, ho, _⟩ := lookIn_ns hns
      have J : PySem.W.InstAt s.heap a oe D (some od) := ⟨hget, hz.1, by unfold PySem.W.notCls; rw [hv] <;> rfl, by rw [hz.2]; exact ho⟩
      have Z : PySem.W.KitX X.K (.ref a) (.ref D) (fun h => PySem.W.InstAt h a oe D (some od)) := PySem.W.kitx_exc hcl C.hg C.hk C.hs C.ha C.hn C.ht C.hm
      rcases hx with ⟨cv, hcv, e⟩ | ⟨tp, cs, ws, ex, hT, hp, e⟩
      · have ec := hcv _ rt
        subst ec
        exact PySem.W.kia_one Z I.kIn J e (fun z => nomatch z) fun tk => ⟨.bl b, H, I.tok tk, rfl, q⟩
      · subst ex
        cases rt
        obtain ⟨_, its, rv, o, h1, h2, n, h3⟩ := (show ObjOk X.prog X.w H s.heap tp (.tup cs) from I.hok tp _ hT)
        have e3 := ClsV.all hp rv
        subst e3
        obtain ⟨oc, od', dt, sl⟩ := o
        simp only at h2 h3
        subst h2 h3
        exact PySem.W.kia_tup Z I.kIn J h1 e (fun z => nomatch z) fun tk => ⟨.bl b, H, I.tok tk, rfl, q⟩
end L2

/-! ## W1 -/
namespace K23
open PySem PySem.Spec PyProof.Rows L2
open C8 (Cal Met Mak pe_c pe_mk pe_mt pe_mt0)
/-- an if whose test is known -/
theorem ifT {c : Bool} {A B : Prop} (hc : c = true) (h : A) : if c = true then A else B := by rw [if_pos hc]; exact h
theorem ifF {c : Bool} {A B : Prop} (hc : c = false) (h : B) : if c = true then A else B := by rw [hc, if_neg Bool.false_ne_true]; exact h
theorem neT {x y : Int} (h : x ≠ y) : (!decide (V.int x = V.int y)) = true := by simp [h]
theorem neF {x y : Int} (h : x = y) : (!decide (V.int x = V.int y)) = false := by simp [h]
theorem eqT {x y : Int} (h : x = y) : decide (V.int x = V.int y) = true := by simp [h]
theorem eqF {x y : Int} (h : x ≠ y) : decide (V.int x = V.int y) = false := by simp [h]
/-! ### numbers and values -/
section
variable {P : Program} {w : World} {K : PySem.W.Frag} {mg : Str → Option Value} {base : Heap}
theorem ex_at {K : PySem.W.Frag} {b : Bool} (h : exB K = true) (i : Nat) (e : (exL K)[i]? = some b) : b = true := by
  have := List.all_eq_true.mp h b (List.mem_of_getElem? e)
  exact this
def spInt : Sp := fun vs H Q _ => ∃ i : Int, vs = [.int i] ∧ Q (.bl true) H
theorem sc_is_integer : FnScope ["value"] ["value"] (defScope s_is_integer) := ⟨rfl, rfl, rfl, by decide +kernel, rfl, by decide +kernel, by decide +kernel⟩
theorem c_is_integer (T : Txt K mg) : Cal P w K mg base 1 "is_integer" spInt [] := by
  obtain ⟨fd, F⟩ := T.d_is_integer
  have b := FunD.bindsN (ps := ["value"]) F fun _ _ _ _ _ _ us hl => match us, hl with | [_], _ => rfl
  refine ⟨_, fd, ["value"], [], ?_, T.g_is_integer, F.kp, b, .nil⟩
  refine FunD.ok F sc_is_integer (fun vs H Q E h => ?_) (fun cdv A outer s H vs Q E hr h => ?_)
  · obtain ⟨i, rfl, _⟩ := h
    rfl
  · obtain ⟨i, rfl, q⟩ := h
    refine ⟨_, PSs.nox (pss_one (ps_ret (pe_and (pe_callB call_isi (by rfl) T.f_isinstance (by decide +kernel) (pa_cons (pv 0) (pa_cons (pe_bltn (v := .ty "int") (by rfl) T.f_int boot_int rfl) pa_nil)))
      (pe_one (pe_not (pe_callB call_isi (by rfl) T.f_isinstance (by decide +kernel) (pa_cons (pv 0) (pa_cons (pe_bltn (v := .ty "bool") (by rfl) T.f_bool (by decide +kernel) rfl) pa_nil)))))))), ?_⟩
    refine ⟨_, rfl, .int i, .ty "int", _, _, true, rfl, .ty _, .base (.int i), of_decide_eq_true (ex_at T.ex 18 rfl), true, rfl, iteT ?_⟩
    exact ⟨_, rfl, .int i, .ty "bool", _, _, false, rfl, .ty _, .base (.int i), of_decide_eq_true (ex_at T.ex 19 rfl), false, rfl, q⟩
def spCount : Sp := fun vs H Q _ => ∃ (i : Int) (m : V), vs = [.int i, m] ∧ 0 ≤ i ∧ (m = .non ∨ ∃ mx, m = .int mx ∧ i ≤ mx) ∧ Q (.bl true) H
theorem sc_is_count : FnScope ["value", "most"] ["value", "most"] (defScope s_is_count) := ⟨rfl, rfl, rfl, by decide +kernel, rfl, by decide +kernel, by decide +kernel⟩
theorem ok_is_count (T : Txt K mg) {fd : FuncData} (F : Fn K "is_count" "is_count" s_is_count [V.non] [] (He.ga K "is_count") fd) : FnOk P w K mg base CX0 2 (He.ga K "is_count") fd ["value", "most"] spCount := by
  refine FunD.ok F sc_is_count (fun vs H Q E h => ?_) (fun cdv A outer s H vs Q E hr h => ?_)
  · obtain ⟨i, m, rfl, _⟩ := h
    rfl
  · obtain ⟨i, m, rfl, h0, hm, q⟩ := h
    refine ⟨_, PSs.nox (pss_one (ps_ret (pe_and (pe_c (c_is_integer T) hr (Nat.le_refl _) (by rfl) (pa_cons (pv 0) pa_nil))
      (pe_and (pe_cmpR op_ge (pv 0) pe_int (nomark _)) (pe_one (pe_or (pe_cmp (pc_isN (pv 1)) rfl) (pe_one (pe_cmpR op_le (pv 0) (pv 1) (nomark _))))))))), ?_⟩
    refine ⟨_, rfl, i, rfl, true, rfl, iteT ?_⟩
    refine ⟨_, rfl, _, _, rfl, rfl, true, congrArg V.bl (decide_eq_true h0), iteT ?_⟩
    rcases hm with rfl | ⟨mx, rfl, hle⟩
    · exact ⟨_, rfl, true, rfl, iteT q⟩
    · refine ⟨_, rfl, false, rfl, iteF ?_⟩
      refine ⟨_, rfl, _, rfl, _, _, rfl, rfl, ?_⟩
      show Q (.bl (decide (i ≤ mx))) H
      rw [decide_eq_true hle]
      exact q
theorem c_is_count1 (T : Txt K mg) : Cal P w K mg base 2 "is_count" spCount [.non] := by
  obtain ⟨fd, F⟩ := T.d_is_count
  obtain ⟨ds, hd, b⟩ := FunD.binds1 (ps := ["value", "most"]) F 1 0 (by simp) rfl (fun T kV doc pm an cdv ct us its h1 h2 => match us, its, h1, h2 with | [_], [_], _, _ => ⟨_, rfl, rfl⟩)
  exact ⟨_, fd, _, ds, ok_is_count T F, T.g_is_count, F.kp, b, hd⟩
theorem c_is_count2 (T : Txt K mg) : Cal P w K mg base 2 "is_count" spCount [] := by
  obtain ⟨fd, F⟩ := T.d_is_count
  obtain ⟨ds, hd, b⟩ := FunD.binds1 (ps := ["value", "most"]) F 2 1 (by simp) rfl (fun T kV doc pm an cdv ct us its h1 h2 => match us, its, h1, h2 with | [_, _], [_], _, _ => ⟨_, rfl, rfl⟩)
  exact ⟨_, fd, _, ds, ok_is_count T F, T.g_is_count, F.kp, b, hd⟩
/-! ### value_at -/
def spVal (K : PySem.W.Frag) : Sp := fun vs H Q _ => ∃ (a : Addr) (fv : List Int) (p l : Nat) (g : Int), vs = [.ref a, .int p, .int g, .int l] ∧ SqL K H a (fv.map V.int) ∧ 1 ≤ p ∧ p ≤ fv.length ∧ p < 1000 ∧ l < 1000000 ∧ Q (.int (vAt fv p g l)) H
theorem at_int {fv : List Int} {i : Nat} {z : Int} (e : z = (i : Int)) (h : i < fv.length) : atI (fv.map V.int) z = some (.int (fv.getD i 0)) := by
  refine at_of e ?_
  rw [List.getElem?_map, List.getD_eq_getElem?_getD, List.getElem?_eq_getElem h]
  rfl
theorem times_eq {n p l : Nat} (h1 : 1 ≤ p) (h : n < l) : ((l : Int) - n + p - 1).fdiv (p : Int) = (((l - n + p - 1) / p : Nat) : Int) := by
  rw [show (l : Int) - n + p - 1 = ((l - n + p - 1 : Nat) : Int) from by omega]
  rw [Int.fdiv_eq_ediv_of_nonneg _ (by omega)]
  exact (Int.natCast_ediv _ _).symm
theorem sc_value_at : FnScope ["values", "period", "gain", "length", "times"] ["values", "period", "gain", "length"] (defScope s_value_at) := ⟨rfl, rfl, rfl, by decide +kernel, rfl, by decide +kernel, by decide +kernel⟩
theorem c_value_at (T : Txt K mg) : Cal P w K mg base 1 "value_at" (spVal K) [] := by
  obtain ⟨fd, F⟩ := T.d_value_at
  have b := FunD.bindsN (ps := ["values", "period", "gain", "length"]) F fun _ _ _ _ _ _ us hl => match us, hl with | [_, _, _, _], _ => rfl
  refine ⟨_, fd, ["values", "period", "gain", "length"], [], ?_, T.g_value_at, F.kp, b, .nil⟩
  refine FunD.ok F sc_value_at (fun vs H Q E h => ?_) (fun cdv A outer s H vs Q E hr h => ?_)
  · obtain ⟨a, fv, p, l, g, rfl, _⟩ := h
    rfl
  · obtain ⟨a, fv, p, l, g, rfl, hS, h1, hp, hp3, hl6, q⟩ := h
    have len : ∀ {pos pos2 pos3 : Pos}, PE (cxOf CX0 P w K mg base ["values", "period", "gain", "length", "times"] "value_at" (defScope s_value_at) (He.ga K "value_at") cdv A outer s H E).nox (.Call (.Name "len" pos) [.Name "values" pos2] [] pos3) _ :=
      fun {_ _ _} => pe_callB call_len_seq (by rfl) T.f_len PySem.boot_len (pa_cons (pv 0) pa_nil)
    refine ⟨_, PSs.nox (pss_cons (ps_if (pt_cmpR op_eq (pv 3) pe_int (nomark _)) (pss_one (ps_ret pe_int)) pss_nil)
      (pss_cons (ps_if (pt_cmpR op_le (pv 3) len (nomark _)) (pss_one (ps_ret (pe_ix ix_list (pv 0) (pe_op op_sub (pv 3) pe_int) (fun _ _ => rfl)))) pss_nil)
      (pss_cons (ps_set (i := 4) sc_value_at.nd rfl (Or.inl rfl) (pe_op op_fdivN (pe_op op_sub (pe_op op_add (pe_op op_sub (pv 3) len) (pv 1)) pe_int) (pv 1)))
      (pss_one (ps_ret (pe_op op_add (pe_ix ix_list (pv 0) (pe_op op_sub (pe_op op_sub (pv 3) (pe_op op_mul (pv 4) (pv 1))) pe_int) (fun _ _ => rfl)) (pe_op op_mul (pv 4) (pv 2)))))))), ?_⟩
    refine ⟨_, rfl, rfl, _, rfl, ?_⟩
    by_cases z : l = 0
    · subst z
      refine ifT (by decide) ?_
      rw [vAt_zero] at q
      exact q
    · refine ifF (decide_eq_false fun e => z (by injection e with e; omega)) ?_
      refine ⟨_, rfl, _, rfl, a, _, rfl, .inl hS, _, _, rfl, rfl, _, rfl, ?_⟩
      rw [List.length_map]
      by_cases c : l ≤ fv.length
      · refine ifT (decide_eq_true (by omega)) ?_
        refine ⟨_, rfl, _, rfl, _, _, rfl, rfl, a, _, _, _, rfl, rfl, hS, at_int (i := l - 1) (by omega) (by omega), ?_⟩
        rw [vAt_low (by omega) c] at q
        exact q
      · refine ifF (decide_eq_false (by omega)) ?_
        obtain ⟨x1, x2⟩ := vAt_ix (l := l) h1 hp (by omega)
        have x3 : (l - fv.length + p - 1) / p ≤ l - fv.length + p - 1 := Nat.div_le_self _ _
        rw [vAt_high (by omega)] at q
        refine ⟨_, rfl, _, rfl, a, _, rfl, .inl hS, _, _, rfl, rfl, _, rfl, _, _, rfl, rfl, _, _, rfl, rfl, _, rfl, _, _, rfl, rfl, ⟨by omega, by omega⟩, ?_⟩
        rw [List.length_map]
        have te := times_eq (n := fv.length) (l := l) h1 (by omega)
        dsimp only
        rw [te]
        generalize ht : (l - fv.length + p - 1) / p = tm at *
        refine ⟨_, rfl, _, rfl, _, rfl, _, rfl, _, _, rfl, rfl, .inl ⟨by omega, by omega⟩, _, _, rfl, rfl, _, _, rfl, rfl, a, _, _, _, rfl, rfl, hS, at_int (i := l - tm * p - 1) ?_ x2, ?_⟩
        · rw [← Int.natCast_mul]
          omega
        · exact ⟨_, rfl, _, rfl, _, _, rfl, rfl, .inl ⟨by omega, by omega⟩, _, _, rfl, rfl, q⟩
end
end K23

/-! ## W2 -/
namespace K23
open PySem PySem.Spec PyProof.Rows L2
open C8 (Cal Met Mak pe_c pe_mk pe_mt pe_mt0)
section
variable {P : Program} {w : World} {K : PySem.W.Frag} {mg : Str → Option Value} {base : Heap}
/-! ### the law's own value of a row -/
def spLAt (K : PySem.W.Frag) : Sp := fun vs H Q _ => ∃ (t a : Addr) (fv : List Int) (p l : Nat) (g : Int), vs = [.ref t, .int l] ∧ SqT K H t [.ref a, .int p, .int g] ∧ SqL K H a (fv.map V.int) ∧ 1 ≤ p ∧ p ≤ fv.length ∧ p < 1000 ∧ l < 1000000 ∧ Q (.int (vAt fv p g l)) H
theorem sc_law_at : FnScope ["_law_row_here", "_law_size", "_law_steps", "_law_cycle", "_law_rise", "_law_times"] ["_law_row_here", "_law_size"] (defScope s_law_at) := ⟨rfl, rfl, rfl, by decide +kernel, rfl, by decide +kernel, by decide +kernel⟩
theorem c_law_at (T : Txt K mg) : Cal P w K mg base 1 "_law_at" (spLAt K) [] := by
  obtain ⟨fd, F⟩ := T.d_law_at
  have b := FunD.bindsN (ps := ["_law_row_here", "_law_size"]) F fun _ _ _ _ _ _ us hl => match us, hl with | [_, _], _ => rfl
  refine ⟨_, fd, ["_law_row_here", "_law_size"], [], ?_, T.g_law_at, F.kp, b, .nil⟩
  refine FunD.ok F sc_law_at (fun vs H Q E h => ?_) (fun cdv A outer s H vs Q E hr h => ?_)
  · obtain ⟨t, a, fv, p, l, g, rfl, _⟩ := h
    rfl
  · obtain ⟨t, a, fv, p, l, g, rfl, hT, hS, h1, hp, hp3, hl6, q⟩ := h
    refine ⟨_, PSs.nox (pss_cons (ps_asg (pv 0) (pg_tup (by rfl) (pgs_cons (pg_name (i := 2) sc_law_at.nd rfl (Or.inl rfl)) (pgs_cons (pg_name (i := 3) sc_law_at.nd rfl (Or.inl rfl)) (pgs_cons (pg_name (i := 4) sc_law_at.nd rfl (Or.inl rfl)) pgs_nil)))))
      (pss_cons (ps_if (pt_cmpR op_eq (pv 1) pe_int (nomark _)) (pss_one (ps_ret pe_int)) pss_nil)
      (pss_cons (ps_if (pt_cmpR op_le (pv 1) (pe_callB call_len_seq (by rfl) T.f_len PySem.boot_len (pa_cons (pv 2) pa_nil)) (nomark _)) (pss_one (ps_ret (pe_ix ix_list (pv 2) (pe_op op_sub (pv 1) pe_int) (fun _ _ => rfl)))) pss_nil)
      (pss_cons (ps_set (i := 5) sc_law_at.nd rfl (Or.inl rfl) (pe_op op_fdivN (pe_op op_sub (pe_op op_add (pe_op op_sub (pv 1) (pe_callB call_len_seq (by rfl) T.f_len PySem.boot_len (pa_cons (pv 2) pa_nil))) (pv 3)) pe_int) (pv 3)))
      (pss_one (ps_ret (pe_op op_add (pe_ix ix_list (pv 2) (pe_op op_sub (pe_op op_sub (pv 1) (pe_op op_mul (pv 5) (pv 3))) pe_int) (fun _ _ => rfl)) (pe_op op_mul (pv 5) (pv 4))))))))), ?_⟩
    refine ⟨_, rfl, t, _, rfl, hT, rfl, _, _, rfl, _, _, rfl, _, _, rfl, rfl, ?_⟩
    refine ⟨_, rfl, rfl, _, rfl, ?_⟩
    by_cases z : l = 0
    · subst z
      refine ifT (by decide) ?_
      rw [vAt_zero] at q
      exact q
    · refine ifF (decide_eq_false fun e => z (by injection e with e; omega)) ?_
      refine ⟨_, rfl, _, rfl, a, _, rfl, .inl hS, _, _, rfl, rfl, _, rfl, ?_⟩
      rw [List.length_map]
      by_cases c : l ≤ fv.length
      · refine ifT (decide_eq_true (by omega)) ?_
        refine ⟨_, rfl, _, rfl, _, _, rfl, rfl, a, _, _, _, rfl, rfl, hS, at_int (i := l - 1) (by omega) (by omega), ?_⟩
        rw [vAt_low (by omega) c] at q
        exact q
      · refine ifF (decide_eq_false (by omega)) ?_
        obtain ⟨x1, x2⟩ := vAt_ix (l := l) h1 hp (by omega)
        have x3 : (l - fv.length + p - 1) / p ≤ l - fv.length + p - 1 := Nat.div_le_self _ _
        rw [vAt_high (by omega)] at q
        refine ⟨_, rfl, _, rfl, a, _, rfl, .inl hS, _, _, rfl, rfl, _, rfl, _, _, rfl, rfl, _, _, rfl, rfl, _, rfl, _, _, rfl, rfl, ⟨by omega, by omega⟩, ?_⟩
        rw [List.length_map]
        have te := times_eq (n := fv.length) (l := l) h1 (by omega)
        dsimp only
        rw [te]
        generalize ht : (l - fv.length + p - 1) / p = tm at *
        refine ⟨_, rfl, _, rfl, _, rfl, _, rfl, _, _, rfl, rfl, .inl ⟨by omega, by omega⟩, _, _, rfl, rfl, _, _, rfl, rfl, a, _, _, _, rfl, rfl, hS, at_int (i := l - tm * p - 1) ?_ x2, ?_⟩
        · rw [← Int.natCast_mul]
          omega
        · exact ⟨_, rfl, _, rfl, _, _, rfl, rfl, .inl ⟨by omega, by omega⟩, _, _, rfl, rfl, q⟩
/-! ### grows_by -/
def spGrow (K : PySem.W.Frag) : Sp := fun vs H Q _ => ∃ (a : Addr) (fv : List Int) (p o : Nat) (g : Int), vs = [.ref a, .int p, .int g, .int o] ∧ SqL K H a (fv.map V.int) ∧ 1 ≤ p ∧ p ≤ fv.length ∧ fv.length < 500 ∧ o < 100 ∧
  ((∀ i, i < 12 → vAt fv p g (fv.length + 1 + i + o) - vAt fv p g (fv.length + 1 + i) = vAt fv p g (fv.length + 1 + o) - vAt fv p g (fv.length + 1)) → Q (.int (vAt fv p g (fv.length + 1 + o) - vAt fv p g (fv.length + 1))) H) ∧
  ((∃ i, i < 12 ∧ vAt fv p g (fv.length + 1 + i + o) - vAt fv p g (fv.length + 1 + i) ≠ vAt fv p g (fv.length + 1 + o) - vAt fv p g (fv.length + 1)) → Q .non H)
theorem sc_grows_by : FnScope ["values", "period", "gain", "other", "start", "growth", "length", "one", "next_one"] ["values", "period", "gain", "other"] (defScope s_grows_by) := ⟨rfl, rfl, rfl, by decide +kernel, rfl, by decide +kernel, by decide +kernel⟩
theorem c_grows_by (T : Txt K mg) : Cal P w K mg base 2 "grows_by" (spGrow K) [] := by
  obtain ⟨fd, F⟩ := T.d_grows_by
  have b := FunD.bindsN (ps := ["values", "period", "gain", "other"]) F fun _ _ _ _ _ _ us hl => match us, hl with | [_, _, _, _], _ => rfl
  obtain ⟨tC, mC⟩ := T.i_COMMON
  refine ⟨_, fd, ["values", "period", "gain", "other"], [], ?_, T.g_grows_by, F.kp, b, .nil⟩
  refine FunD.ok F sc_grows_by (fun vs H Q E h => ?_) (fun cdv A outer s H vs Q E hr h => ?_)
  · obtain ⟨a, fv, p, o, g, rfl, _⟩ := h
    rfl
  · obtain ⟨a, fv, p, o, g, rfl, hS, h1, hp, hn, ho, qy, qn⟩ := h
    refine ⟨_, PSs.nox (pss_cons (ps_set (i := 4) sc_grows_by.nd rfl (Or.inl rfl) (pe_op op_add (pe_callB call_len_seq (by rfl) T.f_len PySem.boot_len (pa_cons (pv 0) pa_nil)) pe_int))
      (pss_cons (ps_set (i := 5) sc_grows_by.nd rfl (Or.inl rfl) (pe_op op_sub (pe_c (c_value_at T) hr (by decide) (by rfl) (pa_cons (pv 0) (pa_cons (pv 1) (pa_cons (pv 2) (pa_cons (pe_op op_add (pv 4) (pv 3)) pa_nil)))))
        (pe_c (c_value_at T) hr (by decide) (by rfl) (pa_cons (pv 0) (pa_cons (pv 1) (pa_cons (pv 2) (pa_cons (pv 4) pa_nil)))))))
      (pss_cons (ps_for PassesOwn.never rfl (pi_range2 (by rfl) T.f_range (pa_cons (pv 4) (pa_cons (pe_op op_add (pv 4) (pe_glob (v := .int 12) (by rfl) mC ⟨_, rfl⟩)) pa_nil))) (pg_name (i := 6) sc_grows_by.nd rfl (Or.inl rfl))
        (pss_cons (ps_par (by rfl) sc_grows_by.nd (i := 7) (j := 8) rfl rfl (by decide) rfl rfl (pa_cons (pe_c (c_value_at T) hr (by decide) (by rfl) (pa_cons (pv 0) (pa_cons (pv 1) (pa_cons (pv 2) (pa_cons (pv 6) pa_nil)))))
          (pa_cons (pe_c (c_value_at T) hr (by decide) (by rfl) (pa_cons (pv 0) (pa_cons (pv 1) (pa_cons (pv 2) (pa_cons (pe_op op_add (pv 6) (pv 3)) pa_nil))))) pa_nil)) (by rfl))
        (pss_one (ps_if (pt_cmpR op_ne (pe_op op_sub (pv 8) (pv 7)) (pv 5) (nomark _)) (pss_one (ps_ret pe_non)) pss_nil))))
      (pss_one (ps_ret (pv 5)))))), ?_⟩
    refine ⟨_, rfl, a, _, rfl, .inl hS, _, _, rfl, rfl, ?_⟩
    rw [List.length_map]
    refine ⟨_, rfl, _, rfl, _, rfl, _, rfl, _, rfl, _, _, rfl, rfl, a, fv, p, fv.length + 1 + o, g, by simp [Int.natCast_add], hS, h1, hp, by omega, by omega, ?_⟩
    refine ⟨_, rfl, _, rfl, _, rfl, _, rfl, a, fv, p, fv.length + 1, g, by simp [Int.natCast_add], hS, h1, hp, by omega, by omega, _, _, rfl, rfl, ?_⟩
    obtain ⟨G, hG⟩ : ∃ G, G = vAt fv p g (fv.length + 1 + o) - vAt fv p g (fv.length + 1) := ⟨_, rfl⟩
    rw [← hG] at qy qn
    refine ⟨_, rfl, _, rfl, _, _, rfl, rfl, _, _, rfl, ⟨by omega, by omega, by omega, by omega⟩, ?_⟩
    rw [show (((fv.length : Int) + 1 + 12) - ((fv.length : Int) + 1)).toNat = 12 from by omega]
    refine for_range (lo := (fv.length : Int) + 1) (n := 12) (fun i σ H' => ∃ x6 x7 x8, σ = [some (.ref a), some (.int p), some (.int g), some (.int o), some (.int ((fv.length : Int) + 1)), some (.int G), x6, x7, x8] ∧ H' = H ∧
      ∀ j, j < i → vAt fv p g (fv.length + 1 + j + o) - vAt fv p g (fv.length + 1 + j) = G) ⟨none, none, none, by rw [hG]; rfl, rfl, fun j hj => by omega⟩ ?_ ?_
    · rintro i σ H' hi ⟨x6, x7, x8, rfl, rfl, hj⟩
      refine ⟨_, rfl, _, rfl, _, rfl, _, rfl, a, fv, p, fv.length + 1 + i, g, by simp [Int.natCast_add], hS, h1, hp, by omega, by omega, ?_⟩
      refine ⟨_, rfl, _, rfl, _, rfl, _, rfl, _, rfl, _, _, rfl, rfl, a, fv, p, fv.length + 1 + i + o, g, by simp [Int.natCast_add], hS, h1, hp, by omega, by omega, ?_⟩
      refine ⟨_, _, rfl, ?_⟩
      refine ⟨_, rfl, _, rfl, _, _, rfl, rfl, _, rfl, rfl, _, rfl, ?_⟩
      by_cases c : vAt fv p g (fv.length + 1 + i + o) - vAt fv p g (fv.length + 1 + i) = G
      · refine ifF (neF c) ?_
        refine ⟨_, _, _, rfl, rfl, fun j hj' => ?_⟩
        by_cases e : j = i
        · rw [e]
          exact c
        · exact hj j (by omega)
      · refine ifT (neT c) ?_
        exact qn ⟨i, hi, c⟩
    · rintro σ H' ⟨x6, x7, x8, rfl, rfl, hj⟩
      exact ⟨_, rfl, qy fun i hi => hj i hi⟩
end
end K23

/-! ## W3 -/
namespace K23
open PySem PySem.Spec PyProof.Rows L2
open C8 (Cal Met Mak pe_c pe_mk pe_mt pe_mt0)
theorem at_neg {fv : List Int} {z : Int} {j : Nat} (e : z = (j : Int) - fv.length) (h : j < fv.length) : atI (fv.map V.int) z = some (.int (fv.getD j 0)) := by
  have e1 : ixN (fv.map V.int).length z = some j := by
    unfold ixN
    rw [List.length_map, if_neg (by omega), if_pos (by omega)]
    congr 1
    omega
  unfold atI
  rw [e1, Option.bind_some, List.getElem?_map, List.getD_eq_getElem?_getD, List.getElem?_eq_getElem h]
  rfl
theorem map_last {fv : List Int} {x : Int} : ((fv ++ [x]).map V.int)[((fv ++ [x]).map V.int).length - 1]? = some (.int x) := by simp
theorem map_drop {fv : List Int} {x : Int} : ((fv ++ [x]).map V.int).dropLast = fv.map V.int := by simp
theorem small_len {n : Nat} (h : n ≤ 100000) : n < sizeLine := by
  rw [sizeLine_eq]
  omega
theorem same_upd {H : Hp} {D : Addr} {o : HO} (h : H D = none) : Same H (upd H D o) := fun b u e => by
  rw [upd_ne (ne_of_none e h)]
  exact e
theorem valsTo_succ (f : Nat → Int) (i : Nat) : valsTo f (i + 1) = valsTo f i ++ [f (i + 1)] := by
  unfold valsTo
  rw [List.range_succ, List.map_append]
  rfl
def pers : List Nat := [1, 2, 3, 4, 6, 12]
theorem pers_v : pers.map (fun n : Nat => V.int (n : Int)) = [V.int 1, V.int 2, V.int 3, V.int 4, V.int 6, V.int 12] := rfl
theorem pers_12 {p : Nat} (h : p ∈ pers) : 1 ≤ p ∧ p ≤ 12 := by
  simp [pers] at h
  omega
section
variable {P : Program} {w : World} {K : PySem.W.Frag} {mg : Str → Option Value} {base : Heap}
theorem periods_at (T : Txt K mg) (H : Hp) : SqT K H (He.ga K "PERIODS") (pers.map fun n : Nat => V.int (n : Int)) := He.tupB_ok (ex_at T.ex 17 rfl) H
/-- whether f grows by one number in each o from n + 1 on, as grows_by asks -/
def Grows (fv : List Int) (p : Nat) (g : Int) (o : Nat) : Prop := ∀ i, i < 12 → vAt fv p g (fv.length + 1 + i + o) - vAt fv p g (fv.length + 1 + i) = vAt fv p g (fv.length + 1 + o) - vAt fv p g (fv.length + 1)
theorem grows_own {fv : List Int} {p : Nat} {g : Int} (h1 : 1 ≤ p) (hp : p ≤ fv.length) : Grows fv p g p := by
  intro i hi
  have a := vAt_per (g := g) h1 hp (fv.length + 1 + i + p) (by omega)
  have b := vAt_per (g := g) h1 hp (fv.length + 1 + p) (by omega)
  rw [Nat.add_sub_cancel] at a b
  omega
theorem not_grows {fv : List Int} {p : Nat} {g : Int} {o : Nat} (h : ∃ i, i < 12 ∧ vAt fv p g (fv.length + 1 + i + o) - vAt fv p g (fv.length + 1 + i) ≠ vAt fv p g (fv.length + 1 + o) - vAt fv p g (fv.length + 1)) : ¬ Grows fv p g o := fun z => let ⟨i, h1, h2⟩ := h; h2 (z i h1)
/-- a form of f -/
structure FormOf (f : Nat → Int) (gv : List Int) (q : Nat) (G : Int) : Prop where
  q1 : 1 ≤ q
  q12 : q ≤ 12
  ql : q ≤ gv.length
  len : gv.length ≤ 36
  wr : Writes f gv q G
def spForm (K : PySem.W.Frag) : Sp := fun vs H Q _ => ∃ (a : Addr) (fv : List Int) (p : Nat) (g : Int), vs = [.ref a, .int p, .int g] ∧ SqL K H a (fv.map V.int) ∧ RowB fv p g ∧
  ∀ (H' : Hp) (t l : Addr) (gv : List Int) (q : Nat) (G : Int), Same H H' → H t = none → H l = none → H' t = some (.tup [.ref l, .int q, .int G]) → H' l = some (.lst (gv.map V.int)) → FormOf (vAt fv p g) gv q G → Q (.ref t) H'
theorem sc_form_of : FnScope ["values", "period", "gain", "best", "growth", "found", "other", "length"] ["values", "period", "gain"] (defScope s_form_of) := ⟨rfl, rfl, rfl, by decide +kernel, rfl, by decide +kernel, by decide +kernel⟩
theorem c_form_of (T : Txt K mg) : Cal P w K mg base 3 "form_of" (spForm K) [] := by
  obtain ⟨fd, F⟩ := T.d_form_of
  have b := FunD.bindsN (ps := ["values", "period", "gain"]) F fun _ _ _ _ _ _ us hl => match us, hl with | [_, _, _], _ => rfl
  obtain ⟨tC, mC⟩ := T.i_COMMON
  refine ⟨_, fd, ["values", "period", "gain"], [], ?_, T.g_form_of, F.kp, b, .nil⟩
  refine FunD.ok F sc_form_of (fun vs H Q E h => ?_) (fun cdv A outer s H vs Q E hr h => ?_)
  · obtain ⟨a, fv, p, g, rfl, _⟩ := h
    rfl
  · obtain ⟨a, fv, p, g, rfl, hS, R, q⟩ := h
    have hp1 := R.p1
    have hpn := R.pn
    have hn24 := R.n24
    refine ⟨_, PSs.nox (pss_cons (ps_set (i := 3) sc_form_of.nd rfl (Or.inl rfl) (pe_ix ix_list (pe_lc (own := [("other", 6)]) (g := gName 6) (by rfl) sc_form_of.nd (pi_tup (pe_glob (v := .ref (He.ga K "PERIODS")) (by rfl) T.g_PERIODS rfl))
          (blkOk_by (own := [("other", 6)]) (N := ["values", "period", "gain", "best", "growth", "found", "other", "length"]) (sc := defScope s_form_of) (by decide +kernel)) (fun _ _ _ _ _ => pg_name (i := 6) sc_form_of.nd rfl (Or.inl rfl))
          (fun _ _ _ _ _ => pts_one (pt_cmpR op_notN (pe_c (c_grows_by T) hr (by decide) (by rfl) (pa_cons (pv 0) (pa_cons (pv 1) (pa_cons (pv 2) (pa_cons (pv 6) pa_nil))))) pe_non (nomark _)))
          (fun _ _ _ _ _ => pv 6)) pe_int (fun _ _ => rfl)))
      (pss_cons (ps_set (i := 4) sc_form_of.nd rfl (Or.inl rfl) (pe_c (c_grows_by T) hr (by decide) (by rfl) (pa_cons (pv 0) (pa_cons (pv 1) (pa_cons (pv 2) (pa_cons (pv 3) pa_nil))))))
      (pss_cons (ps_setLc (i := 5) (own := [("length", 7)]) (g := gName 7) (by rfl) sc_form_of.nd rfl rfl (sw_true rfl rfl rfl (by decide +kernel))
          (pi_range2 (by rfl) T.f_range (pa_cons pe_int (pa_cons (pe_op op_add (pe_op op_add (pe_callB call_len_seq (by rfl) T.f_len PySem.boot_len (pa_cons (pv 0) pa_nil)) (pe_glob (v := .int 12) (by rfl) mC ⟨_, rfl⟩)) pe_int) pa_nil)))
          (blkOk_by (own := [("length", 7)]) (N := ["values", "period", "gain", "best", "growth", "found", "other", "length"]) (sc := defScope s_form_of) (by decide +kernel)) (fun _ _ _ _ _ => pg_name (i := 7) sc_form_of.nd rfl (Or.inl rfl))
          (fun _ _ _ _ _ => pts_nil)
          (fun _ _ _ _ _ => pe_c (c_value_at T) hr (by decide) (by rfl) (pa_cons (pv 0) (pa_cons (pv 1) (pa_cons (pv 2) (pa_cons (pv 7) pa_nil))))))
      (pss_cons (ps_while PassesOwn.never (PW.pt (pw_and (pt_cmpR op_gt (pe_callB call_len_seq (by rfl) T.f_len PySem.boot_len (pa_cons (pv 5) pa_nil)) (pv 3) (nomark _))
          (pw_and1 (pt_cmpR op_eq (pe_ix ix_list (pv 5) (pe_un un_neg pe_int) (fun _ _ => rfl)) (pe_op op_add (pe_ix ix_list (pv 5) (pe_op op_sub (pe_un un_neg pe_int) (pv 3)) (fun _ _ => rfl)) (pv 4)) (nomark _)))))
        (pss_one (ps_expr (pe_bm0 PySem.F.plainAttrs_list PySem.F.slot_list_pop PySem.F.type_list_pop mt_pop (pv 5)))))
      (pss_one (ps_ret (pe_tup (pa_cons (pv 5) (pa_cons (pv 3) (pa_cons (pv 4) pa_nil)))))))))), ?_⟩
    -- best
    have pin : p ∈ pers := by
      rcases R.p12 with h | h | h | h | h | h <;> subst h <;> decide
    refine ⟨_, rfl, ⟨_, periods_at T H⟩, fun D hD => lc_tup (K := K) (a := He.ga K "PERIODS") (xs := pers.map fun n : Nat => V.int (n : Int)) (fun i H' => ∃ os : List Nat, H' = upd H D (.lst (os.map fun n : Nat => V.int (n : Int))) ∧
      os.length ≤ i ∧ (∀ o ∈ os, o ∈ pers ∧ Grows fv p g o) ∧ ∀ j o, j < i → pers[j]? = some o → Grows fv p g o → o ∈ os) ⟨[], rfl, Nat.le_refl _, (fun o ho => absurd ho List.not_mem_nil), fun j o hj => by omega⟩ (fun i H' _ _ => periods_at T H') ?_ ?_⟩
    · rintro i x H' hx ⟨os, rfl, hol, ho1, ho2⟩
      have hi6 : i < 6 := by
        have := (List.getElem?_eq_some_iff.mp hx).1
        simpa [pers] using this
      rw [List.getElem?_map] at hx
      cases eo : pers[i]? with
      | none =>
        rw [eo] at hx
        cases hx
      | some o =>
        rw [eo] at hx
        obtain rfl : V.int (o : Int) = x := Option.some.inj hx
        have om : o ∈ pers := List.mem_of_getElem? eo
        obtain ⟨o1, o12⟩ := pers_12 om
        refine ⟨rfl, ?_⟩
        refine ⟨_, rfl, _, rfl, _, rfl, _, rfl, a, fv, p, o, g, rfl, (same_upd hD).seq hS, hp1, hpn, by omega, by omega, fun hy => ?_, fun hn => ?_⟩
        · refine ⟨rfl, true, rfl, iteT ?_⟩
          refine ⟨_, rfl, _, upd_same, small_len ?_, os ++ [o], ?_, ?_, ?_, ?_⟩
          · rw [List.length_map]
            omega
          · rw [upd_upd]
            simp
          · rw [List.length_append, List.length_singleton]
            omega
          · intro o' h'
            rcases List.mem_append.mp h' with h' | h'
            · exact ho1 o' h'
            · rw [List.mem_singleton.mp h']
              exact ⟨om, hy⟩
          · intro j o' hj e hg
            by_cases ej : j = i
            · rw [ej, eo] at e
              rw [← Option.some.inj e]
              simp
            · exact List.mem_append_left _ (ho2 j o' (by omega) e hg)
        · refine ⟨rfl, false, rfl, iteF ?_⟩
          refine ⟨os, rfl, by omega, ho1, fun j o' hj e hg => ?_⟩
          by_cases ej : j = i
          · rw [ej, eo] at e
            rw [← Option.some.inj e] at hg
            exact absurd hg (not_grows hn)
          · exact ho2 j o' (by omega) e hg
    · rintro H1 ⟨os, rfl, hol, ho1, ho2⟩
      obtain ⟨j, hj, ej⟩ := List.mem_iff_getElem.mp pin
      have hpo := ho2 j p (by simpa using hj) (by rw [List.getElem?_eq_getElem hj, ej]) (grows_own hp1 hpn)
      obtain ⟨o, os', rfl⟩ : ∃ o os', os = o :: os' := by
        cases os with
        | nil => exact absurd hpo List.not_mem_nil
        | cons o os' => exact ⟨o, os', rfl⟩
      obtain ⟨om, og⟩ := ho1 o List.mem_cons_self
      obtain ⟨o1, o12⟩ := pers_12 om
      have sm1 : Same H (upd H D (.lst ((o :: os').map fun n : Nat => V.int (n : Int)))) := same_upd hD
      generalize hH1 : upd H D (.lst ((o :: os').map fun n : Nat => V.int (n : Int))) = H1 at *
      have hD1 : H1 D = some (.lst ((o :: os').map fun n : Nat => V.int (n : Int))) := by
        rw [← hH1]
        exact upd_same
      refine ⟨D, _, _, .int o, rfl, rfl, SqL.of hD1, atI_nat (j := 0) rfl, ?_⟩
      -- growth
      refine ⟨_, rfl, _, rfl, _, rfl, _, rfl, a, fv, p, o, g, rfl, sm1.seq hS, hp1, hpn, by omega, by omega, fun hy => ?_, fun hn => absurd og (not_grows hn)⟩
      obtain ⟨G, hG⟩ : ∃ G, G = vAt fv p g (fv.length + 1 + o) - vAt fv p g (fv.length + 1) := ⟨_, rfl⟩
      rw [← hG]
      have full : Writes (vAt fv p g) (valsTo (vAt fv p g) (fv.length + 12)) o G := by
        refine writes_full (vAt_zero _ _ _) o1 o12 ?_
        refine per_other R.per hp1 R.dvd fun i hi => ?_
        rw [hG]
        exact og i hi
      -- found
      refine ⟨_, rfl, a, _, rfl, .inl (sm1.seq hS), _, _, rfl, rfl, _, _, rfl, rfl, _, _, rfl, by rw [List.length_map]; exact ⟨by omega, by omega, by omega, by omega⟩, ?_⟩
      rw [List.length_map]
      rw [show (((fv.length : Int) + 12 + 1) - 1).toNat = fv.length + 12 from by omega]
      refine fun D2 hD2 => lc_range (lo := 1) (n := fv.length + 12) (fun i H' => H' = upd H1 D2 (.lst ((valsTo (vAt fv p g) i).map V.int))) rfl ?_ ?_
      · rintro i H' hi rfl
        refine ⟨rfl, ?_⟩
        dsimp only [tYes]
        refine iteT ?_
        refine ⟨_, rfl, _, rfl, _, rfl, _, rfl, a, fv, p, i + 1, g, by simp [Int.natCast_add, Int.add_comm], (same_upd hD2).seq (sm1.seq hS), hp1, hpn, by omega, by omega, ?_⟩
        refine ⟨_, upd_same, small_len (by rw [List.length_map, valsTo_length]; omega), ?_⟩
        rw [upd_upd, valsTo_succ, List.map_append]
        rfl
      · rintro H2 rfl
        -- while
        refine ⟨fun m σ H' => ∃ gv : List Int, gv.length = m ∧ σ = [some (.ref a), some (.int p), some (.int g), some (.int o), some (.int G), some (.ref D2), none, none] ∧ H' = upd H1 D2 (.lst (gv.map V.int)) ∧ o ≤ gv.length ∧ gv.length ≤ 36 ∧ Writes (vAt fv p g) gv o G,
          ⟨_, valsTo (vAt fv p g) (fv.length + 12), rfl, rfl, rfl, by rw [valsTo_length]; omega, by rw [valsTo_length]; omega, full⟩, ?_⟩
        rintro m σ H' ⟨gv, rfl, rfl, rfl, hol', hgl, W⟩
        have hD2' : upd H1 D2 (.lst (gv.map V.int)) D2 = some (.lst (gv.map V.int)) := upd_same
        refine ⟨_, rfl, D2, _, rfl, .inl (SqL.of hD2'), _, rfl, _, _, rfl, rfl, _, rfl, ?_⟩
        rw [List.length_map]
        have fin : ∀ t : Addr, upd H1 D2 (.lst (gv.map V.int)) t = none → Q (.ref t) (upd (upd H1 D2 (.lst (gv.map V.int))) t (.tup [.ref D2, .int o, .int G])) := fun t ht => by
          have sm2 : Same H (upd H1 D2 (.lst (gv.map V.int))) := sm1.trans (same_upd hD2)
          have ne : D2 ≠ t := ne_of_none hD2' ht
          refine q _ t D2 gv o G (sm2.trans (same_upd ht)) (sm2.free ht) (sm1.free hD2) upd_same ?_ ⟨o1, o12, hol', hgl, W⟩
          rw [upd_ne ne]
          exact hD2'
        by_cases c : o < gv.length
        · refine ifT (decide_eq_true (by omega)) ?_
          obtain ⟨gv', x, rfl⟩ : ∃ gv' x, gv = gv' ++ [x] := ⟨gv.dropLast, gv.getLast (by intro e; rw [e] at c; simp at c), (List.dropLast_concat_getLast _).symm⟩
          rw [List.length_append, List.length_singleton] at c hol' hgl
          refine ⟨_, rfl, _, rfl, D2, _, _, _, rfl, rfl, SqL.of hD2', at_neg (j := gv'.length) (by rw [List.length_append, List.length_singleton]; omega) (by simp), ?_⟩
          refine ⟨_, rfl, _, rfl, _, rfl, _, _, rfl, rfl, D2, _, _, _, rfl, rfl, SqL.of hD2', at_neg (j := gv'.length - o) (by rw [List.length_append, List.length_singleton]; omega) (by rw [List.length_append, List.length_singleton]; omega), _, rfl, _, _, rfl, rfl, rfl, _, rfl, ?_⟩
          have e1 : (gv' ++ [x]).getD gv'.length 0 = x := by simp [List.getD_eq_getElem?_getD]
          have e2 : (gv' ++ [x]).getD (gv'.length - o) 0 = gv'.getD (gv'.length - o) 0 := by
            rw [List.getD_eq_getElem?_getD, List.getD_eq_getElem?_getD, List.getElem?_append_left (by omega)]
          rw [e1, e2]
          by_cases c2 : x = gv'.getD (gv'.length - o) 0 + G
          · refine ifT (eqT c2) ?_
            refine ⟨fun σ' H' => ∃ m', m' < (gv' ++ [x]).length ∧ ∃ gv : List Int, gv.length = m' ∧ σ' = [some (.ref a), some (.int p), some (.int g), some (.int o), some (.int G), some (.ref D2), none, none] ∧ H' = upd H1 D2 (.lst (gv.map V.int)) ∧ o ≤ gv.length ∧ gv.length ≤ 36 ∧ Writes (vAt fv p g) gv o G, fun _ _ h => h, ?_⟩
            refine ⟨_, rfl, .inl ⟨rfl, _, SqL.of hD2'⟩, D2, _, _, rfl, rfl, hD2', map_last, ?_⟩
            refine ⟨gv'.length, by simp, gv', rfl, rfl, ?_, by omega, by omega, writes_pop o1 (by omega) W c2⟩
            rw [upd_upd, map_drop]
          · refine ifF (eqF c2) ?_
            exact ⟨_, rfl, _, rfl, _, rfl, small_len (by simp) |> Nat.le_of_lt, fin⟩
        · refine ifF (decide_eq_false (by omega)) ?_
          exact ⟨_, rfl, _, rfl, _, rfl, small_len (by simp) |> Nat.le_of_lt, fin⟩
end
end K23

/-! ## W4 -/
namespace K23
open PySem PySem.Spec PyProof.Rows L2
open C8 (Cal Met Mak pe_c pe_mk pe_mt pe_mt0)
section
variable {P : Program} {w : World} {K : PySem.W.Frag} {mg : Str → Option Value} {base : Heap}
theorem kit_list (T : Txt K mg) : PySem.W.kitOne K (.type "list") (.type "list") = some true := of_decide_eq_true (ex_at T.ex 20 rfl)
/-! ### check_record -/
def spCheckR : Sp := fun vs H Q _ => ∃ (a : Addr) (xs : List Int), vs = [.ref a] ∧ H a = some (.lst (xs.map V.int)) ∧ (∀ x ∈ xs, 0 ≤ x) ∧ ∀ H', Same H H' → Q .non H'
theorem sc_check_record : FnScope ["value", "position", "units"] ["value"] (defScope s_check_record) := ⟨rfl, rfl, rfl, by decide +kernel, rfl, by decide +kernel, by decide +kernel⟩
theorem c_check_record (T : Txt K mg) : Cal P w K mg base 3 "check_record" spCheckR [] := by
  obtain ⟨fd, F⟩ := T.d_check_record
  have b := FunD.bindsN (ps := ["value"]) F fun _ _ _ _ _ _ us hl => match us, hl with | [_], _ => rfl
  refine ⟨_, fd, ["value"], [], ?_, T.g_check_record, F.kp, b, .nil⟩
  refine FunD.ok F sc_check_record (fun vs H Q E h => ?_) (fun cdv A outer s H vs Q E hr h => ?_)
  · obtain ⟨a, xs, rfl, _⟩ := h
    rfl
  · obtain ⟨a, xs, rfl, ha, hx, q⟩ := h
    refine ⟨_, PSs.nox (pss_cons (ps_if (pt_not (pt_val (pe_callB call_isi (by rfl) T.f_isinstance (by decide +kernel) (pa_cons (pv 0) (pa_cons (pe_bltn (v := .ty "list") (by rfl) T.f_list (by decide +kernel) rfl) pa_nil))))) pss_never pss_nil)
      (pss_one (ps_for PassesOwn.never rfl (pi_enum (by rfl) T.f_enumerate (pa_cons (pv 0) pa_nil)) (pg_tup (by rfl) (pgs_cons (pg_name (i := 1) sc_check_record.nd rfl (Or.inl rfl)) (pgs_cons (pg_name (i := 2) sc_check_record.nd rfl (Or.inl rfl)) pgs_nil)))
        (pss_one (ps_if (pt_not (pt_val (pe_c (c_is_count1 T) hr (by decide) (by rfl) (pa_cons (pv 2) pa_nil)))) pss_never pss_nil))))), ?_⟩
    refine ⟨_, rfl, _, _, _, _, true, rfl, .ty _, .base (.lst ha), kit_list T, true, rfl, iteF ?_⟩
    refine ⟨_, rfl, a, _, rfl, SqL.of ha, for_it (walk_enum (xs := xs.map V.int)) (fun i σ H' => ∃ y z, σ = [some (.ref a), y, z] ∧ Same H H') ⟨none, none, rfl, Same.refl H⟩ (fun i σ H' _ ⟨_, _, _, sm⟩ => sm.seq (SqL.of ha)) ?_ ?_⟩
    · rintro i x σ H1 H2 hi ⟨y, z, rfl, sm⟩ ⟨t, u, v, rfl, ht, rfl, eu, ev⟩
      obtain ⟨n, en, rfl⟩ : ∃ n, xs[i]? = some n ∧ v = V.int n := by
        have ev : (xs.map V.int)[i]? = some v := ev
        rw [List.getElem?_map] at ev
        cases e : xs[i]? with
        | none =>
          rw [e] at ev
          cases ev
        | some n =>
          rw [e] at ev
          exact ⟨n, rfl, (Option.some.inj ev).symm⟩
      have sm2 : Same H (upd H1 t (.tup [u, V.int n])) := sm.trans (same_upd ht)
      refine ⟨t, _, rfl, SqT.of upd_same, rfl, _, _, rfl, _, _, rfl, rfl, ?_⟩
      refine ⟨_, rfl, n, .non, rfl, hx n (List.mem_of_getElem? en), .inl rfl, true, rfl, iteF ?_⟩
      exact ⟨_, _, rfl, sm2⟩
    · rintro σ H' ⟨y, z, rfl, sm⟩
      exact q H' sm
/-! ### check_values, check_growth -/
def spCheckV : Sp := fun vs H Q _ => ∃ (a : Addr) (fv : List Int), vs = [.ref a] ∧ H a = some (.lst (fv.map V.int)) ∧ 1 ≤ fv.length ∧ fv.length ≤ 24 ∧ (∀ i, i < fv.length → 0 ≤ fv.getD i 0 ∧ fv.getD i 0 ≤ 2000) ∧
  (∀ i, i + 1 < fv.length → fv.getD i 0 ≤ fv.getD (i + 1) 0) ∧ ∀ H', Same H H' → Q .non H'
theorem sc_check_values : FnScope ["values", "position", "value"] ["values"] (defScope s_check_values) := ⟨rfl, rfl, rfl, by decide +kernel, rfl, by decide +kernel, by decide +kernel⟩
theorem c_check_values (T : Txt K mg) : Cal P w K mg base 3 "check_values" spCheckV [] := by
  obtain ⟨fd, F⟩ := T.d_check_values
  have b := FunD.bindsN (ps := ["values"]) F fun _ _ _ _ _ _ us hl => match us, hl with | [_], _ => rfl
  obtain ⟨t1, m1⟩ := T.i_MAX_VALUES
  obtain ⟨t2, m2⟩ := T.i_MAX_VALUE
  refine ⟨_, fd, ["values"], [], ?_, T.g_check_values, F.kp, b, .nil⟩
  refine FunD.ok F sc_check_values (fun vs H Q E h => ?_) (fun cdv A outer s H vs Q E hr h => ?_)
  · obtain ⟨a, fv, rfl, _⟩ := h
    rfl
  · obtain ⟨a, fv, rfl, ha, h1, h24, hlo, hup, q⟩ := h
    refine ⟨_, PSs.nox (pss_cons (ps_if (pt_not (pt_val (pe_callB call_isi (by rfl) T.f_isinstance (by decide +kernel) (pa_cons (pv 0) (pa_cons (pe_bltn (v := .ty "list") (by rfl) T.f_list (by decide +kernel) rfl) pa_nil))))) pss_never pss_nil)
      (pss_cons (ps_if (pt_not (pt_chain op_le op_le pe_int (pe_callB call_len_seq (by rfl) T.f_len PySem.boot_len (pa_cons (pv 0) pa_nil)) (pe_glob (v := .int 24) (by rfl) m1 ⟨_, rfl⟩))) pss_never pss_nil)
      (pss_one (ps_for PassesOwn.never rfl (pi_enum (by rfl) T.f_enumerate (pa_cons (pv 0) pa_nil)) (pg_tup (by rfl) (pgs_cons (pg_name (i := 1) sc_check_values.nd rfl (Or.inl rfl)) (pgs_cons (pg_name (i := 2) sc_check_values.nd rfl (Or.inl rfl)) pgs_nil)))
        (pss_one (ps_if (PW.pt (pw_or (pt_not (pt_val (pe_c (c_is_count2 T) hr (by decide) (by rfl) (pa_cons (pv 2) (pa_cons (pe_glob (v := .int 2000) (by rfl) m2 ⟨_, rfl⟩) pa_nil)))))
          (pw_or1 (PW.pt (pw_and (pt_cmpR op_gt (pv 1) pe_int (nomark _)) (pw_and1 (pt_cmpR op_lt (pv 2) (pe_ix ix_list (pv 0) (pe_op op_sub (pv 1) pe_int) (fun _ _ => rfl)) (nomark _)))))))) pss_never pss_nil)))))), ?_⟩
    refine ⟨_, rfl, _, _, _, _, true, rfl, .ty _, .base (.lst ha), kit_list T, true, rfl, iteF ?_⟩
    refine ⟨_, rfl, a, _, rfl, .inl (SqL.of ha), _, _, rfl, rfl, true, congrArg V.bl (decide_eq_true (by rw [List.length_map]; omega)), iteT ?_⟩
    refine ⟨_, _, rfl, rfl, true, congrArg V.bl (decide_eq_true (by rw [List.length_map]; omega)), iteF ?_⟩
    refine ⟨_, rfl, a, _, rfl, SqL.of ha, for_it (walk_enum (xs := fv.map V.int)) (fun i σ H' => ∃ y z, σ = [some (.ref a), y, z] ∧ Same H H') ⟨none, none, rfl, Same.refl H⟩ (fun i σ H' _ ⟨_, _, _, sm⟩ => sm.seq (SqL.of ha)) ?_ ?_⟩
    · rintro i x σ H1 H2 hi ⟨y, z, rfl, sm⟩ ⟨t, u, v, rfl, ht, rfl, eu, ev⟩
      rw [List.length_map] at hi
      have ev2 : v = V.int (fv.getD i 0) := by
        have ev : (fv.map V.int)[i]? = some v := ev
        rw [List.getElem?_map, List.getElem?_eq_getElem hi] at ev
        rw [List.getD_eq_getElem?_getD, List.getElem?_eq_getElem hi]
        exact (Option.some.inj ev).symm
      obtain rfl : V.int (i : Nat) = u := Option.some.inj eu
      subst ev2
      have sm2 : Same H (upd H1 t (.tup [V.int (i : Nat), V.int (fv.getD i 0)])) := sm.trans (same_upd ht)
      refine ⟨t, _, rfl, SqT.of upd_same, rfl, _, _, rfl, _, _, rfl, rfl, ?_⟩
      refine ⟨_, rfl, fv.getD i 0, .int 2000, rfl, (hlo i hi).1, .inr ⟨_, rfl, (hlo i hi).2⟩, true, rfl, iteF ?_⟩
      refine ⟨_, rfl, _, _, rfl, rfl, _, rfl, ?_⟩
      by_cases c : 0 < i
      · refine ifT (decide_eq_true (by omega)) ?_
        refine ⟨_, rfl, _, rfl, _, rfl, _, _, rfl, rfl, a, _, _, _, rfl, rfl, sm2.seq (SqL.of ha), at_int (i := i - 1) (by omega) (by omega), _, _, rfl, rfl, _, rfl, ?_⟩
        have := hup (i - 1) (by omega)
        rw [show i - 1 + 1 = i from by omega] at this
        refine ifF (decide_eq_false (by omega)) ?_
        exact ⟨_, _, rfl, sm2⟩
      · refine ifF (decide_eq_false (by omega)) ?_
        exact iteF ⟨_, _, rfl, sm2⟩
    · rintro σ H' ⟨y, z, rfl, sm⟩
      exact q H' sm
def spCheckG (K : PySem.W.Frag) : Sp := fun vs H Q _ => ∃ (a : Addr) (fv : List Int) (p : Nat) (g : Int), vs = [.ref a, .int p, .int g] ∧ SqL K H a (fv.map V.int) ∧ RowB fv p g ∧ Q .non H
theorem sc_check_growth : FnScope ["values", "period", "gain"] ["values", "period", "gain"] (defScope s_check_growth) := ⟨rfl, rfl, rfl, by decide +kernel, rfl, by decide +kernel, by decide +kernel⟩
theorem c_check_growth (T : Txt K mg) : Cal P w K mg base 3 "check_growth" (spCheckG K) [] := by
  obtain ⟨fd, F⟩ := T.d_check_growth
  have b := FunD.bindsN (ps := ["values", "period", "gain"]) F fun _ _ _ _ _ _ us hl => match us, hl with | [_, _, _], _ => rfl
  obtain ⟨t2, m2⟩ := T.i_MAX_VALUE
  refine ⟨_, fd, ["values", "period", "gain"], [], ?_, T.g_check_growth, F.kp, b, .nil⟩
  refine FunD.ok F sc_check_growth (fun vs H Q E h => ?_) (fun cdv A outer s H vs Q E hr h => ?_)
  · obtain ⟨a, fv, p, g, rfl, _⟩ := h
    rfl
  · obtain ⟨a, fv, p, g, rfl, hS, R, q⟩ := h
    have hp1 := R.p1
    have hpn := R.pn
    have hn24 := R.n24
    refine ⟨_, PSs.nox (pss_cons (ps_if (PW.pt (pw_or (pt_not (pt_val (pe_c (c_is_integer T) hr (by decide) (by rfl) (pa_cons (pv 1) pa_nil)))) (pw_or (pt_cmpR op_notIn_seq (pv 1) (pe_glob (v := .ref (He.ga K "PERIODS")) (by rfl) T.g_PERIODS rfl) (by rfl))
        (pw_or1 (pt_cmpR op_gt (pv 1) (pe_callB call_len_seq (by rfl) T.f_len PySem.boot_len (pa_cons (pv 0) pa_nil)) (nomark _)))))) pss_never pss_nil)
      (pss_one (ps_if (PW.pt (pw_or (pt_not (pt_val (pe_c (c_is_count2 T) hr (by decide) (by rfl) (pa_cons (pv 2) (pa_cons (pe_glob (v := .int 2000) (by rfl) m2 ⟨_, rfl⟩) pa_nil)))))
        (pw_or1 (pt_cmpR op_lt (pe_c (c_value_at T) hr (by decide) (by rfl) (pa_cons (pv 0) (pa_cons (pv 1) (pa_cons (pv 2) (pa_cons (pe_op op_add (pe_callB call_len_seq (by rfl) T.f_len PySem.boot_len (pa_cons (pv 0) pa_nil)) pe_int) pa_nil)))))
          (pe_ix ix_list (pv 0) (pe_un un_neg pe_int) (fun _ _ => rfl)) (nomark _))))) pss_never pss_nil))), ?_⟩
    refine ⟨_, rfl, (p : Int), rfl, true, rfl, iteF ?_⟩
    refine ⟨_, rfl, He.ga K "PERIODS", _, rfl, .inr (periods_at T H), rfl, ?_, false, ?_, iteF ?_⟩
    · decide
    · rcases R.p12 with h | h | h | h | h | h <;> subst h <;> rfl
    refine ⟨_, rfl, _, rfl, a, _, rfl, .inl hS, _, _, rfl, rfl, _, rfl, ?_⟩
    rw [List.length_map]
    refine ifF (decide_eq_false (by omega)) ?_
    refine ⟨_, rfl, g, .int 2000, rfl, R.g0.1, .inr ⟨_, rfl, R.g0.2⟩, true, rfl, iteF ?_⟩
    refine ⟨_, rfl, _, rfl, _, rfl, _, rfl, a, _, rfl, .inl hS, _, _, rfl, rfl, a, fv, p, fv.length + 1, g, by simp [Int.natCast_add], hS, hp1, hpn, by omega, by omega, ?_⟩
    refine ⟨_, rfl, _, rfl, a, _, _, _, rfl, rfl, hS, at_neg (j := fv.length - 1) (by omega) (by omega), _, _, rfl, rfl, _, rfl, ?_⟩
    have := R.end_
    refine ifF (decide_eq_false (by omega)) ?_
    exact q
end
end K23

/-! ## W5 -/
namespace K23
open PySem PySem.Spec PyProof.Rows L2
open C8 (Cal Met Mak pe_c pe_mk pe_mt pe_mt0)
/-- a Curve: its list at la holds m values, written form of f -/
def CvAt (K : PySem.W.Frag) (f : Nat → Int) (m : Nat) (la : Addr) (H : Hp) (c : Addr) : Prop := ∃ (dx : Addr) (gv : List Int) (q : Nat) (G : Int),
  H c = some (.ins (cvA K) dx [("value_list", .ref la), ("own_period", .int q), ("own_gain", .int G)]) ∧ H la = some (.lst (gv.map V.int)) ∧ FormOf f gv q G ∧ gv.length = m
theorem CvAt.to {K : PySem.W.Frag} {f : Nat → Int} {m : Nat} {la c : Addr} {H H' : Hp} (h : CvAt K f m la H c) (k : ∀ b o, b = c ∨ b = la → H b = some o → H' b = some o) : CvAt K f m la H' c := by
  obtain ⟨dx, gv, q, G, h1, h2, h3, h4⟩ := h
  exact ⟨dx, gv, q, G, k c _ (.inl rfl) h1, k la _ (.inr rfl) h2, h3, h4⟩
theorem CvAt.same {K : PySem.W.Frag} {f : Nat → Int} {m : Nat} {la c : Addr} {H H' : Hp} (h : CvAt K f m la H c) (k : Same H H') : CvAt K f m la H' c := h.to fun b o _ e => k b o e
theorem maxE (i j : Int) : (if j > i then j else i) = max i j := by
  split <;> omega
theorem minE (i j : Int) : (if j < i then j else i) = min i j := by
  split <;> omega
section
variable {P : Program} {w : World} {K : PySem.W.Frag} {mg : Str → Option Value} {base : Heap}
def spAt (K : PySem.W.Frag) : Sp := fun vs H Q _ => ∃ (c la : Addr) (f : Nat → Int) (m l : Nat), vs = [.ref c, .int l] ∧ CvAt K f m la H c ∧ l < 1000000 ∧ Q (.int (f l)) H
theorem sc_Curve_at : FnScope ["self", "length"] ["self", "length"] (defScope s_Curve_at) := ⟨rfl, rfl, rfl, by decide +kernel, rfl, by decide +kernel, by decide +kernel⟩
theorem m_at (T : Txt K mg) : Met P w K mg base 3 (cvA K) "at" (spAt K) [] := by
  obtain ⟨fd, F⟩ := T.d_Curve_at
  have b := FunD.bindsN (ps := ["self", "length"]) F fun _ _ _ _ _ _ us hl => match us, hl with | [_, _], _ => rfl
  refine ⟨_, fd, ["self", "length"], [], T.clC, T.m_at, ?_, b, .nil⟩
  refine FunD.ok F sc_Curve_at (fun vs H Q E h => ?_) (fun cdv A outer s H vs Q E hr h => ?_)
  · obtain ⟨c, la, f, m, l, rfl, _⟩ := h
    rfl
  · obtain ⟨c, la, f, m, l, rfl, ⟨dx, gv, qq, G, hc, hl, FF, hm⟩, hl6, q⟩ := h
    refine ⟨_, PSs.nox (pss_cons (ps_if (pt_not (pt_val (pe_c (c_is_count1 T) hr (by decide) (by rfl) (pa_cons (pv 1) pa_nil)))) pss_never pss_nil)
      (pss_one (ps_ret (pe_c (c_value_at T) hr (by decide) (by rfl) (pa_cons (pe_fld (pv 0) (by rfl)) (pa_cons (pe_fld (pv 0) (by rfl)) (pa_cons (pe_fld (pv 0) (by rfl)) (pa_cons (pv 1) pa_nil)))))))), ?_⟩
    refine ⟨_, rfl, l, .non, rfl, by omega, .inl rfl, true, rfl, iteF ?_⟩
    refine ⟨_, rfl, c, _, dx, _, _, rfl, hc, T.clC, T.n_value_list, rfl, _, rfl, c, _, dx, _, _, rfl, hc, T.clC, T.n_own_period, rfl, _, rfl, c, _, dx, _, _, rfl, hc, T.clC, T.n_own_gain, rfl, _, rfl, ?_⟩
    have h1 := FF.q1
    have h2 := FF.q12
    refine ⟨la, gv, qq, l, G, rfl, SqL.of hl, FF.q1, FF.ql, by omega, hl6, ?_⟩
    rw [FF.wr l]
    exact q
/-! ### find_break -/
def spFB (K : PySem.W.Frag) : Sp := fun vs H Q _ => ∃ (c la : Addr) (f : Nat → Int) (m : Nat), vs = [.ref c] ∧ CvAt K f m la H c ∧
  ((∀ b o, 2 ≤ b → b ≤ 2 * m → max 1 (b - m) ≤ o → o ≤ b / 2 → f b ≤ f o + f (b - o)) → Q .non H) ∧
  ∀ (b o : Nat) (t : Addr), FBr f m b o → H t = none → Q (.ref t) (upd H t (.tup [.int o, .int ((b : Int) - o)]))
theorem sc_Curve_find_break : FnScope ["self", "many", "both", "one"] ["self"] (defScope s_Curve_find_break) := ⟨rfl, rfl, rfl, by decide +kernel, rfl, by decide +kernel, by decide +kernel⟩
theorem m_find_break (T : Txt K mg) : Met P w K mg base 4 (cvA K) "find_break" (spFB K) [] := by
  obtain ⟨fd, F⟩ := T.d_Curve_find_break
  have b := FunD.bindsN (ps := ["self"]) F fun _ _ _ _ _ _ us hl => match us, hl with | [_], _ => rfl
  refine ⟨_, fd, ["self"], [], T.clC, T.m_find_break, ?_, b, .nil⟩
  refine FunD.ok F sc_Curve_find_break (fun vs H Q E h => ?_) (fun cdv A outer s H vs Q E hr h => ?_)
  · obtain ⟨c, la, f, m, rfl, _⟩ := h
    rfl
  · obtain ⟨c, la, f, m, rfl, cv, qn, qy⟩ := h
    obtain ⟨dx, gv, qq, G, hc, hl, FF, hm⟩ := cv
    have cv : CvAt K f m la H c := ⟨dx, gv, qq, G, hc, hl, FF, hm⟩
    refine ⟨_, PSs.nox (pss_cons (ps_set (i := 1) sc_Curve_find_break.nd rfl (Or.inl rfl) (pe_callB call_len_seq (by rfl) T.f_len PySem.boot_len (pa_cons (pe_fld (pv 0) (by rfl)) pa_nil)))
      (pss_cons (ps_for PassesOwn.never rfl (pi_range2 (by rfl) T.f_range (pa_cons pe_int (pa_cons (pe_op op_add (pe_op op_mul pe_int (pv 1)) pe_int) pa_nil))) (pg_name (i := 2) sc_Curve_find_break.nd rfl (Or.inl rfl))
        (pss_one (ps_for PassesOwn.never rfl (pi_range2 (by rfl) T.f_range (pa_cons (pe_callB (call_max2 rfl) (by rfl) T.f_max (by decide +kernel) (pa_cons pe_int (pa_cons (pe_op op_sub (pv 2) (pv 1)) pa_nil))) (pa_cons (pe_op op_add (pe_op op_fdivN (pv 2) pe_int) pe_int) pa_nil))) (pg_name (i := 3) sc_Curve_find_break.nd rfl (Or.inl rfl))
          (pss_one (ps_if (pt_cmpR op_gt (pe_mt (m_at T) hr (by decide) (pv 0) (pa_cons (pv 2) pa_nil)) (pe_op op_add (pe_mt (m_at T) hr (by decide) (pv 0) (pa_cons (pv 3) pa_nil)) (pe_mt (m_at T) hr (by decide) (pv 0) (pa_cons (pe_op op_sub (pv 2) (pv 3)) pa_nil))) (nomark _))
            (pss_one (ps_ret (pe_tup (pa_cons (pv 3) (pa_cons (pe_op op_sub (pv 2) (pv 3)) pa_nil))))) pss_nil)))))
      (pss_one (ps_ret pe_non)))), ?_⟩
    have hm36 : m ≤ 36 := hm ▸ FF.len
    refine ⟨_, rfl, c, _, dx, _, _, rfl, hc, T.clC, T.n_value_list, rfl, la, _, rfl, .inl (SqL.of hl), ?_⟩
    rw [List.length_map, hm]
    refine ⟨_, rfl, _, _, rfl, rfl, .inl ⟨by omega, by omega⟩, _, _, rfl, rfl, _, _, rfl, ⟨by omega, by omega, by omega, by omega⟩, ?_⟩
    refine for_it walk_range (fun i σ H' => ∃ x2 x3, σ = [some (.ref c), some (.int m), x2, x3] ∧ H' = H ∧ ∀ b o, 2 ≤ b → b < 2 + i → max 1 (b - m) ≤ o → o ≤ b / 2 → f b ≤ f o + f (b - o)) ⟨none, none, rfl, rfl, fun b o h1 h2 => by omega⟩ (fun _ _ _ _ _ => trivial) ?_ ?_
    · rintro i x σ H1 H2 hi ⟨x2, x3, rfl, rfl, hp⟩ ⟨rfl, rfl⟩
      refine ⟨_, rfl, _, rfl, _, _, rfl, rfl, 1, _, rfl, ?_⟩
      rw [maxE]
      refine ⟨_, rfl, _, _, rfl, rfl, ⟨by decide, by decide⟩, _, _, rfl, rfl, ?_⟩
      have e1 : ((2 : Int) + i).fdiv 2 = ((2 + i) / 2 : Nat) := by
        rw [Int.fdiv_eq_ediv_of_nonneg _ (by decide)]
        omega
      rw [e1]
      obtain ⟨lo, hlo⟩ : ∃ lo : Nat, lo = max 1 (2 + i - m) := ⟨_, rfl⟩
      have e2 : max (1 : Int) ((2 : Int) + i - m) = lo := by omega
      rw [e2]
      refine ⟨_, _, rfl, ⟨by omega, by omega, by omega, by omega⟩, ?_⟩
      refine for_it walk_range (fun j σ H' => ∃ x3, σ = [some (.ref c), some (.int m), some (.int ((2 : Int) + i)), x3] ∧ H' = H2 ∧ ∀ o, lo ≤ o → o < lo + j → o ≤ (2 + i) / 2 → f (2 + i) ≤ f o + f (2 + i - o)) ⟨x3, rfl, rfl, fun o h1 h2 => by omega⟩ (fun _ _ _ _ _ => trivial) ?_ ?_
      · rintro j x σ H5 H6 hj ⟨x3, rfl, rfl, hq⟩ ⟨rfl, rfl⟩
        refine ⟨_, rfl, c, dx, _, rfl, hc, rfl, _, rfl, c, la, f, m, 2 + i, by simp [Int.natCast_add], cv, by omega, ?_⟩
        refine ⟨_, rfl, c, dx, _, rfl, hc, rfl, _, rfl, c, la, f, m, lo + j, by simp [Int.natCast_add], cv, by omega, ?_⟩
        refine ⟨_, rfl, c, dx, _, rfl, hc, rfl, _, rfl, _, rfl, _, _, rfl, rfl, c, la, f, m, 2 + i - (lo + j), ?_, cv, by omega, ?_⟩
        · have : ((2 : Int) + i - (lo + j)) = ((2 + i - (lo + j) : Nat) : Int) := by omega
          simp [this]
        refine ⟨_, _, rfl, rfl, _, _, rfl, rfl, _, rfl, ?_⟩
        by_cases g : f (2 + i) > f (lo + j) + f (2 + i - (lo + j))
        · refine ifT (decide_eq_true (by omega)) ?_
          refine ⟨_, rfl, _, rfl, _, rfl, _, _, rfl, rfl, small_len (by simp) |> Nat.le_of_lt, fun t ht => ?_⟩
          have fb : FBr f m (2 + i) (lo + j) := ⟨⟨by omega, by omega, by omega, by omega, g⟩, fun b' o' h1 h2 h3 h4 => hp b' o' h1 h2 h3 h4, fun o' h1 h2 => hq o' (by omega) (by omega) (by omega)⟩
          have := qy _ _ t fb ht
          rw [Int.natCast_add, Int.natCast_add] at this
          exact this
        · refine ifF (decide_eq_false (by omega)) ?_
          refine ⟨_, rfl, rfl, fun o h1 h2 h3 => ?_⟩
          by_cases e : o = lo + j
          · rw [e]
            omega
          · exact hq o h1 (by omega) h3
      · rintro σ H5 ⟨x3, rfl, rfl, hq⟩
        refine ⟨_, _, rfl, rfl, fun b o h1 h2 h3 h4 => ?_⟩
        by_cases e : b = 2 + i
        · rw [e] at h3 h4 ⊢
          exact hq o (by omega) (by omega) h4
        · exact hp b o h1 (by omega) h3 h4
    · rintro σ H2 ⟨x2, x3, rfl, rfl, hp⟩
      exact qn fun b o h1 h2 h3 h4 => hp b o h1 (by omega) h3 h4
/-! ### Curve.__init__ -/
def spCInit (K : PySem.W.Frag) : Sp := fun vs H Q _ => ∃ (c dx a : Addr) (fv : List Int) (p : Nat) (g : Int), vs = [.ref c, .ref a, .int p, .int g] ∧ H c = some (.ins (cvA K) dx []) ∧ H a = some (.lst (fv.map V.int)) ∧ RowB fv p g ∧
  ∀ (H' : Hp) (la : Addr) (m : Nat), (∀ b o, b ≠ c → H b = some o → H' b = some o) → H la = none → CvAt K (vAt fv p g) m la H' c → Q .non H'
theorem sc_Curve_init : FnScope ["self", "values", "period", "gain"] ["self", "values", "period", "gain"] (defScope s_Curve_init) := ⟨rfl, rfl, rfl, by decide +kernel, rfl, by decide +kernel, by decide +kernel⟩
theorem ok_Curve_init (T : Txt K mg) {fd : FuncData} (F : Fn K "__init__" "Curve.__init__" s_Curve_init [] [("period", V.int 1), ("gain", V.int 0)] (He.ma K (He.ga K "Curve") "__init__") fd) :
    FnOk P w K mg base CX0 4 (He.ma K (He.ga K "Curve") "__init__") fd ["self", "values", "period", "gain"] (spCInit K) := by
  refine FunD.ok F sc_Curve_init (fun vs H Q E h => ?_) (fun cdv A outer s H vs Q E hr h => ?_)
  · obtain ⟨c, dx, a, fv, p, g, rfl, _⟩ := h
    rfl
  · obtain ⟨c, dx, a, fv, p, g, rfl, hc, ha, R, q⟩ := h
    refine ⟨_, PSs.nox (pss_cons (ps_expr (pe_c (c_check_values T) hr (by decide) (by rfl) (pa_cons (pv 1) pa_nil)))
      (pss_cons (ps_expr (pe_c (c_check_growth T) hr (by decide) (by rfl) (pa_cons (pv 1) (pa_cons (pv 2) (pa_cons (pv 3) pa_nil)))))
      (pss_one (ps_asg (pe_c (c_form_of T) hr (by decide) (by rfl) (pa_cons (pv 1) (pa_cons (pv 2) (pa_cons (pv 3) pa_nil)))) (pg_tup (by rfl) (pgs_cons (pg_fld (pv 0)) (pgs_cons (pg_fld (pv 0)) (pgs_cons (pg_fld (pv 0)) pgs_nil)))))))), ?_⟩
    have hp1 := R.p1
    have hpn := R.pn
    refine ⟨_, rfl, a, fv, rfl, ha, by omega, R.n24, fun i hi => R.lo i hi, fun i hi => R.up i hi, fun H1 sm1 => ?_⟩
    have ha1 := sm1 _ _ ha
    have hc1 := sm1 _ _ hc
    refine ⟨_, rfl, _, rfl, _, rfl, a, fv, p, g, rfl, SqL.of ha1, R, ?_⟩
    refine ⟨_, rfl, _, rfl, _, rfl, a, fv, p, g, rfl, SqL.of ha1, R, fun H2 t l gv qq G sm2 ht hl hT hL FF => ?_⟩
    have hc2 := sm2 _ _ hc1
    refine ⟨t, _, rfl, SqT.of hT, rfl, _, _, rfl, _, rfl, c, cvA K, dx, _, rfl, hc2, T.clC, T.n_value_list, by decide, ?_⟩
    refine ⟨_, _, rfl, _, rfl, c, cvA K, dx, _, rfl, upd_same, T.clC, T.n_own_period, (show 1 < 1000 by decide), ?_⟩
    refine ⟨_, _, rfl, _, rfl, c, cvA K, dx, _, rfl, upd_same, T.clC, T.n_own_gain, (show 2 < 1000 by decide), rfl, ?_⟩
    rw [upd_upd, upd_upd]
    have nl : l ≠ c := fun e => by
      rw [e, hc1] at hl
      cases hl
    refine q _ l gv.length (fun b o hb hbo => ?_) (sm1.free hl) ⟨dx, gv, qq, G, upd_same, ?_, FF, rfl⟩
    · rw [upd_ne hb]
      exact sm2 _ _ (sm1 _ _ hbo)
    · rw [upd_ne nl]
      exact hL
end
end K23

/-! ## W6 -/
namespace K23
open PySem PySem.Spec PyProof.Rows L2
open C8 (Cal Met Mak pe_c pe_mk pe_mt pe_mt0)
theorem CvAt.zero {K : PySem.W.Frag} {f : Nat → Int} {m : Nat} {la c : Addr} {H : Hp} (h : CvAt K f m la H c) : f 0 = 0 := by
  obtain ⟨dx, gv, q, G, h1, h2, h3, h4⟩ := h
  rw [← h3.wr 0, vAt_zero]
theorem walk_enumRev {K : PySem.W.Frag} {a : Addr} {xs : List V} : Walk (ItER K a xs.length) xs.length (fun H => SqL K H a xs) (YPair (fun i => some (.int (2 + (i : Nat)))) (fun i => xs[xs.length - 1 - i]?)) := by
  refine ⟨fun i _ hi q => ⟨hi, xs, q, rfl⟩, fun _ q => ⟨rfl, xs, q, rfl⟩, fun i H v H' _ q y => ?_⟩
  obtain ⟨T, x, h1, h2, h3, h4⟩ := y
  exact ⟨T, .int (2 + (i : Nat)), x, h1, h2, h3, rfl, h4 xs q⟩
def sumsTo (xs : List Int) (n : Nat) : List Int := (List.range (n + 1)).map (pre xs)
theorem sumsTo_length (xs : List Int) (n : Nat) : (sumsTo xs n).length = n + 1 := by simp [sumsTo]
theorem sumsTo_succ (xs : List Int) (n : Nat) : sumsTo xs (n + 1) = sumsTo xs n ++ [pre xs (n + 1)] := by
  unfold sumsTo
  rw [List.range_succ, List.map_append]
  rfl
theorem sumsTo_get {xs : List Int} {n i : Nat} (h : i ≤ n) : (sumsTo xs n).getD i 0 = pre xs i := by
  rw [List.getD_eq_getElem?_getD]
  simp [sumsTo, show i < n + 1 by omega]
theorem getInt {xs : List Int} {i : Nat} {x : V} (h : (xs.map V.int)[i]? = some x) : ∃ n, xs[i]? = some n ∧ x = V.int n := by
  rw [List.getElem?_map] at h
  cases e : xs[i]? with
  | none =>
    rw [e] at h
    cases h
  | some n =>
    rw [e] at h
    exact ⟨n, rfl, (Option.some.inj h).symm⟩
section
variable {P : Program} {w : World} {K : PySem.W.Frag} {mg : Str → Option Value} {base : Heap}
/-! ### require_good, of a good curve -/
def spRG (K : PySem.W.Frag) : Sp := fun vs H Q _ => ∃ (c la : Addr) (f : Nat → Int) (m : Nat), vs = [.ref c] ∧ CvAt K f m la H c ∧ Sub f ∧ Q .non H
theorem sub_ok {f : Nat → Int} {m : Nat} (h : Sub f) : ∀ b o, 2 ≤ b → b ≤ 2 * m → max 1 (b - m) ≤ o → o ≤ b / 2 → f b ≤ f o + f (b - o) := fun b o h1 h2 h3 h4 => by
  have := h o (b - o)
  rw [show o + (b - o) = b from by omega] at this
  exact this
theorem sc_require_good : FnScope ["curve", "found"] ["curve"] (defScope s_require_good) := ⟨rfl, rfl, rfl, by decide +kernel, rfl, by decide +kernel, by decide +kernel⟩
theorem c_require_good (T : Txt K mg) : Cal P w K mg base 5 "require_good" (spRG K) [] := by
  obtain ⟨fd, F⟩ := T.d_require_good
  have b := FunD.bindsN (ps := ["curve"]) F fun _ _ _ _ _ _ us hl => match us, hl with | [_], _ => rfl
  refine ⟨_, fd, ["curve"], [], ?_, T.g_require_good, F.kp, b, .nil⟩
  refine FunD.ok F sc_require_good (fun vs H Q E h => ?_) (fun cdv A outer s H vs Q E hr h => ?_)
  · obtain ⟨c, la, f, m, rfl, _⟩ := h
    rfl
  · obtain ⟨c, la, f, m, rfl, cv, hs, q⟩ := h
    obtain ⟨dx, gv, qq, G, hc, hl, FF, hm⟩ := cv
    have cv : CvAt K f m la H c := ⟨dx, gv, qq, G, hc, hl, FF, hm⟩
    refine ⟨_, PSs.nox (pss_cons (ps_set (i := 1) sc_require_good.nd rfl (Or.inl rfl) (pe_mt0 (m_find_break T) hr (by decide) (pv 0)))
      (pss_one (ps_if (pt_cmpR op_notN (pv 1) pe_non (nomark _)) pss_never pss_nil))), ?_⟩
    refine ⟨_, rfl, c, dx, _, rfl, hc, rfl, c, la, f, m, rfl, cv, fun _ => ?_, fun b o t fb => absurd hs fb.good⟩
    exact ⟨_, rfl, rfl, false, rfl, iteF q⟩
/-! ### records -/
def spSums : Sp := fun vs H Q _ => ∃ (a : Addr) (xs : List Int), vs = [.ref a] ∧ H a = some (.lst (xs.map V.int)) ∧ xs.length < 1000 ∧ ∀ t, H t = none → Q (.ref t) (upd H t (.lst ((sumsTo xs xs.length).map V.int)))
theorem sc_sums_of : FnScope ["record", "sums", "units"] ["record"] (defScope s_sums_of) := ⟨rfl, rfl, rfl, by decide +kernel, rfl, by decide +kernel, by decide +kernel⟩
theorem c_sums_of (T : Txt K mg) : Cal P w K mg base 1 "sums_of" spSums [] := by
  obtain ⟨fd, F⟩ := T.d_sums_of
  have b := FunD.bindsN (ps := ["record"]) F fun _ _ _ _ _ _ us hl => match us, hl with | [_], _ => rfl
  refine ⟨_, fd, ["record"], [], ?_, T.g_sums_of, F.kp, b, .nil⟩
  refine FunD.ok F sc_sums_of (fun vs H Q E h => ?_) (fun cdv A outer s H vs Q E hr h => ?_)
  · obtain ⟨a, xs, rfl, _⟩ := h
    rfl
  · obtain ⟨a, xs, rfl, ha, hn, q⟩ := h
    refine ⟨_, PSs.nox (pss_cons (ps_set (i := 1) sc_sums_of.nd rfl (Or.inl rfl) (pe_lst (pa_cons pe_int pa_nil)))
      (pss_cons (ps_for PassesOwn.never rfl (pi_list (pv 0)) (pg_name (i := 2) sc_sums_of.nd rfl (Or.inl rfl))
        (pss_one (ps_expr (pe_bm PySem.F.plainAttrs_list PySem.F.slot_list_append PySem.F.type_list_append mt_append (pv 1) (pa_cons (pe_op op_add (pe_ix ix_list (pv 1) (pe_un un_neg pe_int) (fun _ _ => rfl)) (pv 2)) pa_nil)))))
      (pss_one (ps_ret (pv 1))))), ?_⟩
    refine ⟨small_len (by simp) |> Nat.le_of_lt, fun t ht => ?_⟩
    have ne : a ≠ t := ne_of_none ha ht
    refine ⟨_, rfl, a, rfl, ⟨xs.map V.int, SqL.of (by rw [upd_ne ne]; exact ha)⟩, for_it walk_list (fun i σ H' => ∃ x2, σ = [some (.ref a), some (.ref t), x2] ∧ H' = upd H t (.lst ((sumsTo xs i).map V.int))) ⟨none, rfl, rfl⟩ (fun i σ H' _ ⟨_, _, e⟩ => by rw [e]; exact SqL.of (by rw [upd_ne ne]; exact ha)) ?_ ?_⟩
    · rintro i x σ H1 H2 hi ⟨x2, rfl, rfl⟩ ⟨rfl, hx⟩
      rw [List.length_map] at hi
      obtain ⟨n, en, rfl⟩ := getInt hx
      refine ⟨_, rfl, .inl ⟨rfl, _, SqL.of upd_same⟩, _, rfl, _, rfl, t, _, _, _, rfl, rfl, SqL.of upd_same, at_neg (j := i) (by rw [sumsTo_length]; omega) (by rw [sumsTo_length]; omega), ?_⟩
      refine ⟨_, rfl, _, _, rfl, rfl, t, _, _, rfl, rfl, upd_same, small_len (by rw [List.length_map, sumsTo_length]; omega), ?_⟩
      refine ⟨_, rfl, ?_⟩
      rw [upd_upd, sumsTo_get (Nat.le_refl _), sumsTo_succ, List.map_append, pre_succ en]
      rfl
    · rintro σ H' ⟨x2, rfl, rfl⟩
      refine ⟨_, rfl, ?_⟩
      rw [List.length_map]
      exact q t ht
def spBr (K : PySem.W.Frag) : Sp := fun vs H Q _ => ∃ (a c la : Addr) (xs : List Int) (f : Nat → Int) (m : Nat), vs = [.ref a, .ref c] ∧ H a = some (.lst (xs.map V.int)) ∧ (∀ x ∈ xs, 0 ≤ x) ∧ xs.length ≤ 500 ∧ CvAt K f m la H c ∧
  (Keeps f xs → ∀ H', Same H H' → Q .non H') ∧ ∀ (L s : Nat) (e : Int) (H' : Hp) (t : Addr), Brk f xs L s e → Same H H' → H t = none → H' t = some (.tup [.int L, .int s, .int e]) → Q (.ref t) H'
theorem sc_breach : FnScope ["record", "curve", "sums", "length", "most", "start", "units"] ["record", "curve"] (defScope s_breach) := ⟨rfl, rfl, rfl, by decide +kernel, rfl, by decide +kernel, by decide +kernel⟩
theorem c_breach (T : Txt K mg) : Cal P w K mg base 4 "breach" (spBr K) [] := by
  obtain ⟨fd, F⟩ := T.d_breach
  have b := FunD.bindsN (ps := ["record", "curve"]) F fun _ _ _ _ _ _ us hl => match us, hl with | [_, _], _ => rfl
  refine ⟨_, fd, ["record", "curve"], [], ?_, T.g_breach, F.kp, b, .nil⟩
  refine FunD.ok F sc_breach (fun vs H Q E h => ?_) (fun cdv A outer s H vs Q E hr h => ?_)
  · obtain ⟨a, c, la, xs, f, m, rfl, _⟩ := h
    rfl
  · obtain ⟨a, c, la, xs, f, m, rfl, ha, hx, hn, cv, qn, qy⟩ := h
    refine ⟨_, PSs.nox (pss_cons (ps_expr (pe_c (c_check_record T) hr (by decide) (by rfl) (pa_cons (pv 0) pa_nil)))
      (pss_cons (ps_set (i := 2) sc_breach.nd rfl (Or.inl rfl) (pe_c (c_sums_of T) hr (by decide) (by rfl) (pa_cons (pv 0) pa_nil)))
      (pss_cons (ps_for PassesOwn.never rfl (pi_range2 (by rfl) T.f_range (pa_cons pe_int (pa_cons (pe_op op_add (pe_callB call_len_seq (by rfl) T.f_len PySem.boot_len (pa_cons (pv 0) pa_nil)) pe_int) pa_nil))) (pg_name (i := 3) sc_breach.nd rfl (Or.inl rfl))
        (pss_cons (ps_set (i := 4) sc_breach.nd rfl (Or.inl rfl) (pe_mt (m_at T) hr (by decide) (pv 1) (pa_cons (pv 3) pa_nil)))
        (pss_one (ps_for PassesOwn.never rfl (pi_range1 (by rfl) T.f_range (pa_cons (pe_op op_add (pe_op op_sub (pe_callB call_len_seq (by rfl) T.f_len PySem.boot_len (pa_cons (pv 0) pa_nil)) (pv 3)) pe_int) pa_nil)) (pg_name (i := 5) sc_breach.nd rfl (Or.inl rfl))
          (pss_cons (ps_set (i := 6) sc_breach.nd rfl (Or.inl rfl) (pe_op op_sub (pe_ix ix_list (pv 2) (pe_op op_add (pv 5) (pv 3)) (fun _ _ => rfl)) (pe_ix ix_list (pv 2) (pv 5) (fun _ _ => rfl))))
          (pss_one (ps_if (pt_cmpR op_gt (pv 6) (pv 4) (nomark _)) (pss_one (ps_ret (pe_tup (pa_cons (pv 3) (pa_cons (pv 5) (pa_cons (pe_op op_sub (pv 6) (pv 4)) pa_nil)))))) pss_nil)))))))
      (pss_one (ps_ret pe_non))))), ?_⟩
    refine ⟨_, rfl, a, xs, rfl, ha, hx, fun H1 sm1 => ?_⟩
    refine ⟨_, rfl, a, xs, rfl, sm1 _ _ ha, by omega, fun t ht => ?_⟩
    have sm2 : Same H (upd H1 t (.lst ((sumsTo xs xs.length).map V.int))) := sm1.trans (same_upd ht)
    have ht2 : (upd H1 t (.lst ((sumsTo xs xs.length).map V.int))) t = some (.lst ((sumsTo xs xs.length).map V.int)) := upd_same
    generalize upd H1 t (.lst ((sumsTo xs xs.length).map V.int)) = H2 at sm2 ht2
    have ha2 := sm2 _ _ ha
    have cv2 := cv.same sm2
    refine ⟨_, rfl, a, _, rfl, .inl (SqL.of ha2), ?_⟩
    rw [List.length_map]
    refine ⟨_, _, rfl, rfl, _, _, rfl, ⟨by omega, by omega, by omega, by omega⟩, ?_⟩
    refine for_it walk_range (fun i σ H' => ∃ x3 x4 x5 x6, σ = [some (.ref a), some (.ref c), some (.ref t), x3, x4, x5, x6] ∧ H' = H2 ∧ ∀ l u, 1 ≤ l → l < 1 + i → u + l ≤ xs.length → pre xs (u + l) - pre xs u ≤ f l) ⟨none, none, none, none, rfl, rfl, fun l u h1 h2 => by omega⟩ (fun _ _ _ _ _ => trivial) ?_ ?_
    · rintro i x σ H3 H4 hi ⟨x3, x4, x5, x6, rfl, hH3, hp⟩ ⟨hH4, rfl⟩
      rw [hH4, hH3]
      clear hH4 hH3 H3 H4
      obtain ⟨dx, gv, qq, G, hc, hl, FF, hm⟩ := cv2
      have cv2 : CvAt K f m la H2 c := ⟨dx, gv, qq, G, hc, hl, FF, hm⟩
      refine ⟨_, rfl, c, dx, _, rfl, hc, rfl, _, rfl, c, la, f, m, 1 + i, by simp [Int.natCast_add], cv2, by omega, ?_⟩
      refine ⟨_, rfl, a, _, rfl, .inl (SqL.of ha2), ?_⟩
      rw [List.length_map]
      refine ⟨_, rfl, _, _, rfl, rfl, _, _, rfl, rfl, _, rfl, by omega, by omega, ?_⟩
      refine for_it walk_range (fun j σ H' => ∃ x5 x6, σ = [some (.ref a), some (.ref c), some (.ref t), some (.int (1 + (i : Nat))), some (.int (f (1 + i))), x5, x6] ∧ H' = H2 ∧ ∀ u, u < j → u + (1 + i) ≤ xs.length → pre xs (u + (1 + i)) - pre xs u ≤ f (1 + i)) ⟨x5, x6, rfl, rfl, fun u h1 => by omega⟩ (fun _ _ _ _ _ => trivial) ?_ ?_
      · rintro j x σ H3 H4 hj ⟨x5, x6, rfl, hH3, hq⟩ ⟨hH4, rfl⟩
        rw [hH4, hH3]
        clear hH4 hH3 H3 H4
        refine ⟨_, rfl, _, rfl, _, rfl, _, _, rfl, rfl, t, _, _, _, rfl, rfl, SqL.of ht2, at_int (i := j + (1 + i)) (by omega) (by rw [sumsTo_length]; omega), _, rfl, _, rfl, t, _, _, _, rfl, rfl, SqL.of ht2, at_int (i := j) (by omega) (by rw [sumsTo_length]; omega), _, _, rfl, rfl, ?_⟩
        rw [sumsTo_get (by omega), sumsTo_get (by omega)]
        refine ⟨_, rfl, _, rfl, _, _, rfl, rfl, _, rfl, ?_⟩
        by_cases g : pre xs (j + (1 + i)) - pre xs j > f (1 + i)
        · refine ifT (decide_eq_true (by omega)) ?_
          refine ⟨_, rfl, _, rfl, _, rfl, _, rfl, _, _, rfl, rfl, small_len (by simp) |> Nat.le_of_lt, fun t2 ht2 => ?_⟩
          refine qy (1 + i) j (pre xs (j + (1 + i)) - pre xs j - f (1 + i)) _ t2 ⟨by omega, by omega, rfl, by omega, fun l u h1 h2 h3 => hp l u h1 h2 h3, fun u hu => hq u hu (by omega)⟩ (sm2.trans (same_upd ht2)) (sm2.free ht2) ?_
          rw [upd_same, Int.natCast_add]
          simp
        · refine ifF (decide_eq_false (by omega)) ?_
          refine ⟨_, _, rfl, rfl, fun u h1 h2 => ?_⟩
          by_cases e : u = j
          · rw [e]
            omega
          · exact hq u (by omega) h2
      · rintro σ H3 ⟨x5, x6, rfl, rfl, hq⟩
        refine ⟨_, _, _, _, rfl, rfl, fun l u h1 h2 h3 => ?_⟩
        by_cases e : l = 1 + i
        · rw [e] at h3 ⊢
          exact hq u (by omega) h3
        · exact hp l u h1 (by omega) h3
    · rintro σ H3 ⟨x3, x4, x5, x6, rfl, rfl, hp⟩
      exact qn (keeps_of cv.zero fun l u h1 h2 => hp l u h1 (by omega) h2) _ sm2
def spKeeps (K : PySem.W.Frag) : Sp := fun vs H Q _ => ∃ (a c la : Addr) (xs : List Int) (f : Nat → Int) (m : Nat), vs = [.ref a, .ref c] ∧ H a = some (.lst (xs.map V.int)) ∧ (∀ x ∈ xs, 0 ≤ x) ∧ xs.length ≤ 500 ∧ CvAt K f m la H c ∧
  (Keeps f xs → ∀ H', Same H H' → Q (.bl true) H') ∧ (¬ Keeps f xs → ∀ H', Same H H' → Q (.bl false) H')
theorem sc_keeps : FnScope ["record", "curve"] ["record", "curve"] (defScope s_keeps) := ⟨rfl, rfl, rfl, by decide +kernel, rfl, by decide +kernel, by decide +kernel⟩
theorem c_keeps (T : Txt K mg) : Cal P w K mg base 5 "keeps" (spKeeps K) [] := by
  obtain ⟨fd, F⟩ := T.d_keeps
  have b := FunD.bindsN (ps := ["record", "curve"]) F fun _ _ _ _ _ _ us hl => match us, hl with | [_, _], _ => rfl
  refine ⟨_, fd, ["record", "curve"], [], ?_, T.g_keeps, F.kp, b, .nil⟩
  refine FunD.ok F sc_keeps (fun vs H Q E h => ?_) (fun cdv A outer s H vs Q E hr h => ?_)
  · obtain ⟨a, c, la, xs, f, m, rfl, _⟩ := h
    rfl
  · obtain ⟨a, c, la, xs, f, m, rfl, ha, hx, hn, cv, qy, qn⟩ := h
    refine ⟨_, PSs.nox (pss_one (ps_ret (pe_cmp (pc_isN (pe_c (c_breach T) hr (by decide) (by rfl) (pa_cons (pv 0) (pa_cons (pv 1) pa_nil)))) rfl))), ?_⟩
    refine ⟨_, rfl, _, rfl, a, c, la, xs, f, m, rfl, ha, hx, hn, cv, fun hk H' sm => qy hk H' sm, fun L s e H' t bk sm _ _ => qn bk.not H' sm⟩
/-! ### greedy, of a good curve -/
def spGreedy (K : PySem.W.Frag) : Sp := fun vs H Q _ => ∃ (c la : Addr) (f : Nat → Int) (m n : Nat), vs = [.ref c, .int n] ∧ n ≤ 400 ∧ CvAt K f m la H c ∧ Sub f ∧ ∀ t, H t = none → Q (.ref t) (upd H t (.lst ((due f n).map V.int)))
theorem sc_greedy : FnScope ["curve", "ticks", "tick"] ["curve", "ticks"] (defScope s_greedy) := ⟨rfl, rfl, rfl, by decide +kernel, rfl, by decide +kernel, by decide +kernel⟩
theorem ok_greedy (T : Txt K mg) {fd : FuncData} (F : Fn K "greedy" "greedy" s_greedy [] [] (He.ga K "greedy") fd) : FnOk P w K mg base CX0 6 (He.ga K "greedy") fd ["curve", "ticks"] (spGreedy K) := by
  obtain ⟨tC, mC⟩ := T.i_MOST_TICKS
  refine FunD.ok F sc_greedy (fun vs H Q E h => ?_) (fun cdv A outer s H vs Q E hr h => ?_)
  · obtain ⟨c, la, f, m, n, rfl, _⟩ := h
    rfl
  · obtain ⟨c, la, f, m, n, rfl, hn, cv, hs, q⟩ := h
    refine ⟨_, PSs.nox (pss_cons (ps_expr (pe_c (c_require_good T) hr (by decide) (by rfl) (pa_cons (pv 0) pa_nil)))
      (pss_cons (ps_if (PW.pt (pw_or (pt_not (pt_val (pe_c (c_is_count1 T) hr (by decide) (by rfl) (pa_cons (pv 1) pa_nil)))) (pw_or1 (pt_cmpR op_gt (pv 1) (pe_glob (v := .int 400) (by rfl) mC ⟨_, rfl⟩) (nomark _))))) pss_never pss_nil)
      (pss_one (ps_ret (pe_lc (own := [("tick", 2)]) (g := gName 2) (by rfl) sc_greedy.nd (pi_range1 (by rfl) T.f_range (pa_cons (pv 1) pa_nil))
          (blkOk_by (own := [("tick", 2)]) (N := ["curve", "ticks", "tick"]) (sc := defScope s_greedy) (by decide +kernel)) (fun _ _ _ _ _ => pg_name (i := 2) sc_greedy.nd rfl (Or.inl rfl))
          (fun _ _ _ _ _ => pts_nil)
          (fun _ _ _ _ _ => pe_op op_sub (pe_mt (m_at T) hr (by decide) (pv 0) (pa_cons (pe_op op_add (pv 2) pe_int) pa_nil)) (pe_mt (m_at T) hr (by decide) (pv 0) (pa_cons (pv 2) pa_nil)))))))), ?_⟩
    refine ⟨_, rfl, c, la, f, m, rfl, cv, hs, ?_⟩
    refine ⟨_, rfl, n, .non, rfl, by omega, .inl rfl, true, rfl, iteF ?_⟩
    refine ⟨_, rfl, _, _, rfl, rfl, _, rfl, ifF (decide_eq_false (by omega)) ?_⟩
    refine ⟨_, rfl, n, rfl, by omega, by omega, ?_⟩
    rw [show ((n : Int)).toNat = n from by omega]
    refine fun D hD => lc_range (lo := 0) (n := n) (fun i H' => H' = upd H D (.lst ((due f i).map V.int))) rfl ?_ ?_
    · rintro i H' hi rfl
      refine ⟨rfl, ?_⟩
      dsimp only [tYes]
      refine iteT ?_
      have cv2 := cv.same (same_upd hD (o := .lst ((due f i).map V.int)))
      generalize hH2 : upd H D (.lst ((due f i).map V.int)) = H2 at *
      obtain ⟨dx, gv, qq, G, hc, hl, FF, hm⟩ := cv2
      have cv2 : CvAt K f m la H2 c := ⟨dx, gv, qq, G, hc, hl, FF, hm⟩
      refine ⟨_, rfl, c, dx, _, rfl, hc, rfl, _, rfl, _, _, rfl, rfl, c, la, f, m, i + 1, by simp [Int.natCast_add], cv2, by omega, ?_⟩
      refine ⟨_, rfl, c, dx, _, rfl, hc, rfl, _, rfl, c, la, f, m, i, by simp, cv2, by omega, _, _, rfl, rfl, ?_⟩
      refine ⟨_, by rw [← hH2]; exact upd_same, small_len (by rw [List.length_map, due_length]; omega), ?_⟩
      rw [← hH2, upd_upd, due_succ, List.map_append]
      rfl
    · rintro H' rfl
      exact q D hD
theorem c_greedy (T : Txt K mg) : Cal P w K mg base 6 "greedy" (spGreedy K) [] := by
  obtain ⟨fd, F⟩ := T.d_greedy
  have b := FunD.bindsN (ps := ["curve", "ticks"]) F fun _ _ _ _ _ _ us hl => match us, hl with | [_, _], _ => rfl
  exact ⟨_, fd, ["curve", "ticks"], [], ok_greedy T F, T.g_greedy, F.kp, b, .nil⟩
/-! ### allowance -/
def spAllow (K : PySem.W.Frag) : Sp := fun vs H Q _ => ∃ (a c la : Addr) (xs : List Int) (f : Nat → Int) (m : Nat), vs = [.ref a, .ref c] ∧ SqL K H a (xs.map V.int) ∧ xs.length ≤ 500 ∧ CvAt K f m la H c ∧ ∀ H', Same H H' → Q (.int (mayEnter f xs)) H'
theorem sc_allowance : FnScope ["entered", "curve", "least", "units", "length", "count"] ["entered", "curve"] (defScope s_allowance) := ⟨rfl, rfl, rfl, by decide +kernel, rfl, by decide +kernel, by decide +kernel⟩
theorem c_allowance (T : Txt K mg) : Cal P w K mg base 4 "allowance" (spAllow K) [] := by
  obtain ⟨fd, F⟩ := T.d_allowance
  have b := FunD.bindsN (ps := ["entered", "curve"]) F fun _ _ _ _ _ _ us hl => match us, hl with | [_, _], _ => rfl
  refine ⟨_, fd, ["entered", "curve"], [], ?_, T.g_allowance, F.kp, b, .nil⟩
  refine FunD.ok F sc_allowance (fun vs H Q E h => ?_) (fun cdv A outer s H vs Q E hr h => ?_)
  · obtain ⟨a, c, la, xs, f, m, rfl, _⟩ := h
    rfl
  · obtain ⟨a, c, la, xs, f, m, rfl, ha, hn, cv, q⟩ := h
    refine ⟨_, PSs.nox (pss_cons (ps_par (by rfl) sc_allowance.nd (i := 2) (j := 3) rfl rfl (by decide) rfl rfl (pa_cons (pe_mt (m_at T) hr (by decide) (pv 1) (pa_cons pe_int pa_nil)) (pa_cons pe_int pa_nil)) (by rfl))
      (pss_cons (ps_for PassesOwn.never rfl (pi_enumRev (by rfl) (by rfl) T.f_enumerate (by rfl) T.f_reversed (pa_cons (pv 0) pa_nil)) (pg_tup (by rfl) (pgs_cons (pg_name (i := 4) sc_allowance.nd rfl (Or.inl rfl)) (pgs_cons (pg_name (i := 5) sc_allowance.nd rfl (Or.inl rfl)) pgs_nil)))
        (pss_cons (ps_set (i := 3) sc_allowance.nd rfl (Or.inl rfl) (pe_op op_add (pv 3) (pv 5)))
        (pss_one (ps_set (i := 2) sc_allowance.nd rfl (Or.inl rfl) (pe_callB (call_min2 rfl) (by rfl) T.f_min (by decide +kernel) (pa_cons (pv 2) (pa_cons (pe_op op_sub (pe_mt (m_at T) hr (by decide) (pv 1) (pa_cons (pv 4) pa_nil)) (pv 3)) pa_nil)))))))
      (pss_one (ps_ret (pe_callB (call_max2 rfl) (by rfl) T.f_max (by decide +kernel) (pa_cons pe_int (pa_cons (pv 2) pa_nil))))))), ?_⟩
    obtain ⟨dx, gv, qq, G, hc, hl, FF, hm⟩ := cv
    have cv : CvAt K f m la H c := ⟨dx, gv, qq, G, hc, hl, FF, hm⟩
    refine ⟨_, rfl, c, dx, _, rfl, hc, rfl, c, la, f, m, 1, rfl, cv, by omega, _, _, rfl, ?_⟩
    refine ⟨_, rfl, a, _, rfl, ha, for_it walk_enumRev (fun i σ H' => ∃ x4 x5, σ = [some (.ref a), some (.ref c), some (.int (least f xs i)), some (.int (xs.sum - pre xs (xs.length - i))), x4, x5] ∧ Same H H') ⟨none, none, ?_, Same.refl H⟩ (fun i σ H' _ ⟨_, _, _, sm⟩ => sm.seq ha) ?_ ?_⟩
    · have : xs.sum - pre xs (xs.length - 0) = 0 := by
        rw [Nat.sub_zero, pre_all]
        omega
      rw [this]
      rfl
    · rintro i x σ H1 H2 hi ⟨x4, x5, rfl, sm⟩ ⟨t, u, v, rfl, ht, rfl, eu, ev⟩
      have ev : (xs.map V.int)[(xs.map V.int).length - 1 - i]? = some v := ev
      obtain rfl : V.int (2 + (i : Nat)) = u := Option.some.inj eu
      rw [List.length_map] at hi ev
      obtain ⟨z, ez, rfl⟩ := getInt ev
      have sm2 : Same H (upd H1 t (.tup [V.int (2 + (i : Nat)), V.int z])) := sm.trans (same_upd ht)
      refine ⟨t, _, rfl, SqT.of upd_same, rfl, _, _, rfl, _, _, rfl, rfl, ?_⟩
      generalize upd H1 t (.tup [V.int (2 + (i : Nat)), V.int z]) = H2 at sm2
      refine ⟨_, rfl, _, rfl, _, _, rfl, rfl, ?_⟩
      obtain ⟨dx2, gv2, qq2, G2, hc2, hl2, FF2, hm2⟩ := cv.same sm2
      have cv2 : CvAt K f m la H2 c := ⟨dx2, gv2, qq2, G2, hc2, hl2, FF2, hm2⟩
      refine ⟨_, rfl, _, rfl, c, dx2, _, rfl, hc2, rfl, _, rfl, c, la, f, m, 2 + i, by simp [Int.natCast_add], cv2, by omega, _, rfl, _, _, rfl, rfl, _, _, rfl, ?_⟩
      rw [minE]
      refine ⟨some (.int (2 + (i : Nat))), some (.int z), ?_, sm2⟩
      have e1 := pre_succ ez
      rw [show xs.length - 1 - i + 1 = xs.length - i from by omega] at e1
      have e2 : xs.sum - pre xs (xs.length - i) + z = xs.sum - pre xs (xs.length - (i + 1)) := by
        rw [show xs.length - (i + 1) = xs.length - 1 - i from by omega]
        omega
      dsimp only
      rw [e2, show 2 + i = i + 2 from by omega]
      rfl
    · rintro σ H' ⟨x4, x5, rfl, sm⟩
      refine ⟨_, rfl, _, _, rfl, ?_⟩
      rw [maxE, List.length_map]
      exact q H' sm
end
end K23

/-! ## W7 -/
namespace K23
open PySem PySem.Spec PyProof.Rows L2
open C8 (Cal Met Mak pe_c pe_mk pe_mt pe_mt0)
theorem same_set {H H1 : Hp} {t : Addr} {o : HO} (sm : Same H H1) (ht : H t = none) : Same H (upd H1 t o) := fun b o' e => by
  rw [upd_ne (ne_of_none e ht)]
  exact sm b o' e
section
variable {P : Program} {w : World} {K : PySem.W.Frag} {mg : Str → Option Value} {base : Heap}
def wtAt (F : Int) (f : Nat → Int) (i : Nat) : Int := if i = 0 then 0 else F - f i
def spShaped (K : PySem.W.Frag) : Sp := fun vs H Q _ => ∃ (a c la : Addr) (xs : List Int) (f : Nat → Int) (m : Nat) (F : Int), vs = [.ref a, .ref c] ∧ H a = some (.lst (xs.map V.int)) ∧ (∀ i, i < xs.length → xs[i]? = some (if i = 0 then F else 0)) ∧ xs.length ≤ 400 ∧ CvAt K f m la H c ∧
  Sub f ∧ Mono f ∧ f xs.length ≤ F ∧ ∀ (H' : Hp) (t : Addr), Same H H' → H t = none → H' t = some (.lst ((due f xs.length).map V.int)) → Q (.ref t) H'
theorem sc_shaped : FnScope ["record", "curve", "entered", "waiting", "units", "count"] ["record", "curve"] (defScope s_shaped) := ⟨rfl, rfl, rfl, by decide +kernel, rfl, by decide +kernel, by decide +kernel⟩
theorem c_shaped (T : Txt K mg) : Cal P w K mg base 6 "shaped" (spShaped K) [] := by
  obtain ⟨fd, F⟩ := T.d_shaped
  have b := FunD.bindsN (ps := ["record", "curve"]) F fun _ _ _ _ _ _ us hl => match us, hl with | [_, _], _ => rfl
  refine ⟨_, fd, ["record", "curve"], [], ?_, T.g_shaped, F.kp, b, .nil⟩
  refine FunD.ok F sc_shaped (fun vs H Q E h => ?_) (fun cdv A outer s H vs Q E hr h => ?_)
  · obtain ⟨a, c, la, xs, f, m, F, rfl, _⟩ := h
    rfl
  · obtain ⟨a, c, la, xs, f, m, Fl, rfl, ha, hx, hn, cv, hs, hm, hF, q⟩ := h
    refine ⟨_, PSs.nox (pss_cons (ps_expr (pe_c (c_check_record T) hr (by decide) (by rfl) (pa_cons (pv 0) pa_nil)))
      (pss_cons (ps_expr (pe_c (c_require_good T) hr (by decide) (by rfl) (pa_cons (pv 1) pa_nil)))
      (pss_cons (ps_par (by rfl) sc_shaped.nd (i := 2) (j := 3) rfl rfl (by decide) rfl rfl (pa_cons (pe_lst pa_nil) (pa_cons pe_int pa_nil)) (by rfl))
      (pss_cons (ps_for PassesOwn.never rfl (pi_list (pv 0)) (pg_name (i := 4) sc_shaped.nd rfl (Or.inl rfl))
        (pss_cons (ps_set (i := 3) sc_shaped.nd rfl (Or.inl rfl) (pe_op op_add (pv 3) (pv 4)))
        (pss_cons (ps_set (i := 5) sc_shaped.nd rfl (Or.inl rfl) (pe_callB (call_min2 rfl) (by rfl) T.f_min (by decide +kernel) (pa_cons (pv 3) (pa_cons (pe_c (c_allowance T) hr (by decide) (by rfl) (pa_cons (pv 2) (pa_cons (pv 1) pa_nil))) pa_nil))))
        (pss_cons (ps_expr (pe_bm PySem.F.plainAttrs_list PySem.F.slot_list_append PySem.F.type_list_append mt_append (pv 2) (pa_cons (pv 5) pa_nil)))
        (pss_one (ps_set (i := 3) sc_shaped.nd rfl (Or.inl rfl) (pe_op op_sub (pv 3) (pv 5))))))))
      (pss_one (ps_ret (pv 2))))))), ?_⟩
    have f0 := cv.zero
    have fnn : ∀ l, 0 ≤ f l := fun l => mono_nn hm f0 l
    refine ⟨_, rfl, a, xs, rfl, ha, ?_, fun H1 sm1 => ?_⟩
    · intro x hxm
      obtain ⟨i, hi, rfl⟩ := List.mem_iff_getElem.mp hxm
      have e := hx i hi
      rw [List.getElem?_eq_getElem hi] at e
      rw [Option.some.inj e]
      have := fnn xs.length
      split <;> omega
    refine ⟨_, rfl, c, la, f, m, rfl, cv.same sm1, hs, ?_⟩
    refine ⟨small_len (by simp) |> Nat.le_of_lt, fun t ht => ⟨_, _, rfl, ?_⟩⟩
    have htH : H t = none := sm1.free ht
    have sm2 : Same H (upd H1 t (.lst [])) := sm1.trans (same_upd ht)
    refine ⟨_, rfl, a, rfl, ⟨xs.map V.int, SqL.of (sm2 _ _ ha)⟩, for_it walk_list (fun i σ H' => ∃ x4 x5, σ = [some (.ref a), some (.ref c), some (.ref t), some (.int (wtAt Fl f i)), x4, x5] ∧ Same H H' ∧ H' t = some (.lst ((due f i).map V.int)))
      ⟨none, none, rfl, sm2, upd_same⟩ (fun i σ H' _ ⟨_, _, _, sm, _⟩ => SqL.of (sm _ _ ha)) ?_ ?_⟩
    · rintro i x σ H2 H3 hi ⟨x4, x5, rfl, sm, hT⟩ ⟨rfl, hxi⟩
      rw [List.length_map] at hi
      obtain ⟨n, en, rfl⟩ := getInt hxi
      rw [hx i hi] at en
      have en := Option.some.inj en
      have wt : wtAt Fl f i + n = Fl - f i := by
        rw [← en]
        unfold wtAt
        by_cases e : i = 0
        · rw [if_pos e, if_pos e, e, f0]
          omega
        · rw [if_neg e, if_neg e]
          omega
      refine ⟨_, rfl, _, rfl, _, _, rfl, rfl, ?_⟩
      dsimp only
      rw [wt]
      refine ⟨_, rfl, _, rfl, _, rfl, t, c, la, due f i, f, m, rfl, SqL.of hT, by rw [due_length]; omega, cv.same sm, fun H4 sm4 => ?_⟩
      rw [due_may f0 hm hs]
      refine ⟨_, _, rfl, ?_⟩
      rw [minE]
      have le : f (i + 1) ≤ Fl := Int.le_trans (mono_le hm (by omega)) hF
      rw [show min (Fl - f i) (f (i + 1) - f i) = f (i + 1) - f i from by omega]
      have hT4 := sm4 _ _ hT
      refine ⟨_, rfl, .inl ⟨rfl, _, SqL.of hT4⟩, _, rfl, t, _, _, rfl, rfl, hT4, small_len (by rw [List.length_map, due_length]; omega), ?_⟩
      refine ⟨_, rfl, _, rfl, _, _, rfl, rfl, ?_⟩
      refine ⟨some (.int n), some (.int (f (i + 1) - f i)), ?_, same_set (sm.trans sm4) htH, ?_⟩
      · dsimp only
        have : Fl - f i - (f (i + 1) - f i) = wtAt Fl f (i + 1) := by
          unfold wtAt
          rw [if_neg (by omega)]
          omega
        rw [this]
        rfl
      · rw [upd_same, due_succ, List.map_append]
        rfl
    · rintro σ H2 ⟨x4, x5, rfl, sm, hT⟩
      rw [List.length_map] at hT
      exact ⟨_, rfl, q H2 t sm htH hT⟩
/-! ### Police -/
def PoAt (K : PySem.W.Frag) (c : Addr) (qe held ret : Int) (e : Addr) (xs : List Int) (op : Bool) (H : Hp) (x : Addr) : Prop := ∃ dx : Addr,
  H x = some (.ins (poA K) dx [("own_curve", .ref c), ("own_queue", .int qe), ("own_held", .int held), ("own_returned", .int ret), ("own_entered", .ref e), ("was_open", .bl op)]) ∧ H e = some (.lst (xs.map V.int))
def spPInit (K : PySem.W.Frag) : Sp := fun vs H Q _ => ∃ (x dx c la : Addr) (qe : Int) (f : Nat → Int) (m : Nat), vs = [.ref x, .ref c, .int qe] ∧ H x = some (.ins (poA K) dx []) ∧ 0 ≤ qe ∧ CvAt K f m la H c ∧ Sub f ∧
  ∀ (H' : Hp) (e : Addr), (∀ b o, b ≠ x → H b = some o → H' b = some o) → H e = none → PoAt K c qe 0 0 e [] false H' x → Q .non H'
theorem sc_Police_init : FnScope ["self", "curve", "queue"] ["self", "curve", "queue"] (defScope s_Police_init) := ⟨rfl, rfl, rfl, by decide +kernel, rfl, by decide +kernel, by decide +kernel⟩
theorem ok_Police_init (T : Txt K mg) {fd : FuncData} (F : Fn K "__init__" "Police.__init__" s_Police_init [] [("queue", V.int 60)] (He.ma K (He.ga K "Police") "__init__") fd) :
    FnOk P w K mg base CX0 6 (He.ma K (He.ga K "Police") "__init__") fd ["self", "curve", "queue"] (spPInit K) := by
  refine FunD.ok F sc_Police_init (fun vs H Q E h => ?_) (fun cdv A outer s H vs Q E hr h => ?_)
  · obtain ⟨x, dx, c, la, qe, f, m, rfl, _⟩ := h
    rfl
  · obtain ⟨x, dx, c, la, qe, f, m, rfl, hx, hq, cv, hs, q⟩ := h
    refine ⟨_, PSs.nox (pss_cons (ps_expr (pe_c (c_require_good T) hr (by decide) (by rfl) (pa_cons (pv 1) pa_nil)))
      (pss_cons (ps_if (pt_not (pt_val (pe_c (c_is_count1 T) hr (by decide) (by rfl) (pa_cons (pv 2) pa_nil)))) pss_never pss_nil)
      (pss_cons (ps_fld (pv 0) (pv 1) (by rfl))
      (pss_cons (ps_fld (pv 0) (pv 2) (by rfl))
      (pss_cons (ps_fld (pv 0) pe_int (by rfl))
      (pss_cons (ps_fld (pv 0) pe_int (by rfl))
      (pss_cons (ps_fld (pv 0) (pe_lst pa_nil) (by rfl))
      (pss_one (ps_fld (pv 0) pe_bl (by rfl)))))))))), ?_⟩
    refine ⟨_, rfl, c, la, f, m, rfl, cv, hs, ?_⟩
    refine ⟨_, rfl, qe, .non, rfl, hq, .inl rfl, true, rfl, iteF ?_⟩
    refine ⟨_, rfl, _, rfl, x, poA K, dx, _, rfl, hx, T.clP, T.n_own_curve, (show 0 < 1000 by decide), ?_⟩
    refine ⟨_, rfl, _, rfl, x, poA K, dx, _, rfl, upd_same, T.clP, T.n_own_queue, (show 1 < 1000 by decide), ?_⟩
    rw [upd_upd]
    refine ⟨_, rfl, x, poA K, dx, _, rfl, upd_same, T.clP, T.n_own_held, (show 2 < 1000 by decide), ?_⟩
    rw [upd_upd]
    refine ⟨_, rfl, x, poA K, dx, _, rfl, upd_same, T.clP, T.n_own_returned, (show 3 < 1000 by decide), ?_⟩
    rw [upd_upd]
    refine ⟨small_len (by simp) |> Nat.le_of_lt, fun e he => ?_⟩
    have hex : e ≠ x := fun z => by
      rw [z, upd_same] at he
      cases he
    rw [upd_ne hex] at he
    refine ⟨_, rfl, x, poA K, dx, _, rfl, (upd_ne (Ne.symm hex)).trans upd_same, T.clP, T.n_own_entered, (show 4 < 1000 by decide), ?_⟩
    refine ⟨_, rfl, x, poA K, dx, _, rfl, upd_same, T.clP, T.n_was_open, (show 5 < 1000 by decide), ?_⟩
    refine q _ e (fun b o hb hbo => ?_) he ⟨dx, upd_same, ?_⟩
    · rw [upd_ne hb, upd_ne hb, upd_ne (ne_of_none hbo he), upd_ne hb]
      exact hbo
    · rw [upd_ne hex, upd_ne hex]
      exact upd_same
/-- a step: units come, no leak, open -/
def spStep (K : PySem.W.Frag) : Sp := fun vs H Q _ => ∃ (x c la e : Addr) (qe held ret u : Int) (xs : List Int) (op : Bool) (f : Nat → Int) (m : Nat), vs = [.ref x, .int u, .int 0, .bl false] ∧ PoAt K c qe held ret e xs op H x ∧ 0 ≤ u ∧ CvAt K f m la H c ∧ xs.length ≤ 400 ∧
  ∀ (H' : Hp) (t : Addr), (∀ b o, b ≠ x → b ≠ e → H b = some o → H' b = some o) →
    PoAt K c qe (min (held + u - min (held + u) (mayEnter f xs + 0)) qe) (ret + (held + u - min (held + u) (mayEnter f xs + 0) - min (held + u - min (held + u) (mayEnter f xs + 0)) qe)) e (xs ++ [min (held + u) (mayEnter f xs + 0)]) true H' x → Q (.ref t) H'
theorem sc_Police_step : FnScope ["self", "units", "leak", "closed", "here", "entered", "returned"] ["self", "units", "leak", "closed"] (defScope s_Police_step) := ⟨rfl, rfl, rfl, by decide +kernel, rfl, by decide +kernel, by decide +kernel⟩
theorem m_step (T : Txt K mg) : Met P w K mg base 5 (poA K) "step" (spStep K) [.int 0, .bl false] := by
  obtain ⟨fd, F⟩ := T.d_Police_step
  obtain ⟨ds, hd, b⟩ := FunD.binds0 (ps := ["self", "units", "leak", "closed"]) F 2 (by simp) rfl (fun D doc pm an cdv ct us ks h1 h2 => match us, ks, h1, h2 with | [_, _], [_, _], _, _ => ⟨_, _, _, _, _, _, rfl, rfl, _, _, _, _, _, _, rfl, rfl, rfl⟩)
  refine ⟨_, fd, ["self", "units", "leak", "closed"], ds, T.clP, T.m_step, ?_, b, hd⟩
  refine FunD.ok F sc_Police_step (fun vs H Q E h => ?_) (fun cdv A outer s H vs Q E hr h => ?_)
  · obtain ⟨x, c, la, e, qe, held, ret, u, xs, op, f, m, rfl, _⟩ := h
    rfl
  · obtain ⟨x, c, la, e, qe, held, ret, u, xs, op, f, m, rfl, ⟨dx, hx, he⟩, hu, cv, hn, q⟩ := h
    refine ⟨_, PSs.nox (pss_cons (ps_if (pt_not (pt_val (pe_c (c_is_count1 T) hr (by decide) (by rfl) (pa_cons (pv 1) pa_nil)))) pss_never pss_nil)
      (pss_cons (ps_if (pt_not (pt_val (pe_c (c_is_count1 T) hr (by decide) (by rfl) (pa_cons (pv 2) pa_nil)))) pss_never pss_nil)
      (pss_cons (ps_set (i := 4) sc_Police_step.nd rfl (Or.inl rfl) (pe_op op_add (pe_fld (pv 0) (by rfl)) (pv 1)))
      (pss_cons (ps_set (i := 5) sc_Police_step.nd rfl (Or.inl rfl) (pe_ifExp (pt_val (pv 3)) pe_int (pe_callB (call_min2 rfl) (by rfl) T.f_min (by decide +kernel) (pa_cons (pv 4) (pa_cons (pe_op op_add (pe_c (c_allowance T) hr (by decide) (by rfl) (pa_cons (pe_fld (pv 0) (by rfl)) (pa_cons (pe_fld (pv 0) (by rfl)) pa_nil))) (pv 2)) pa_nil)))))
      (pss_cons (ps_fld (pv 0) (pe_callB (call_min2 rfl) (by rfl) T.f_min (by decide +kernel) (pa_cons (pe_op op_sub (pv 4) (pv 5)) (pa_cons (pe_fld (pv 0) (by rfl)) pa_nil))) (by rfl))
      (pss_cons (ps_set (i := 6) sc_Police_step.nd rfl (Or.inl rfl) (pe_op op_sub (pe_op op_sub (pv 4) (pv 5)) (pe_fld (pv 0) (by rfl))))
      (pss_cons (ps_fld (pv 0) (pe_op op_add (pe_fld (pv 0) (by rfl)) (pv 6)) (by rfl))
      (pss_cons (ps_expr (pe_bm PySem.F.plainAttrs_list PySem.F.slot_list_append PySem.F.type_list_append mt_append (pe_fld (pv 0) (by rfl)) (pa_cons (pv 5) pa_nil)))
      (pss_cons (ps_fld (pv 0) (pe_not (pv 3)) (by rfl))
      (pss_one (ps_ret (pe_tup (pa_cons (pv 5) (pa_cons (pv 6) pa_nil)))))))))))))), ?_⟩
    refine ⟨_, rfl, u, .non, rfl, hu, .inl rfl, true, rfl, iteF ?_⟩
    refine ⟨_, rfl, 0, .non, rfl, by omega, .inl rfl, true, rfl, iteF ?_⟩
    refine ⟨_, rfl, x, poA K, dx, _, _, rfl, hx, T.clP, T.n_own_held, rfl, _, rfl, _, _, rfl, rfl, ?_⟩
    refine ⟨_, rfl, false, rfl, iteF ?_⟩
    refine ⟨_, rfl, _, rfl, x, poA K, dx, _, _, rfl, hx, T.clP, T.n_own_entered, rfl, _, rfl, x, poA K, dx, _, _, rfl, hx, T.clP, T.n_own_curve, rfl, ?_⟩
    refine ⟨e, c, la, xs, f, m, rfl, SqL.of he, by omega, cv, fun H1 sm => ?_⟩
    have hx1 := sm _ _ hx
    have he1 := sm _ _ he
    refine ⟨_, rfl, _, _, rfl, rfl, _, _, rfl, ?_⟩
    rw [minE]
    dsimp only
    obtain ⟨en, hen⟩ : ∃ en, en = min (held + u) (mayEnter f xs + 0) := ⟨_, rfl⟩
    rw [← hen] at q ⊢
    refine ⟨_, rfl, _, rfl, _, _, rfl, rfl, _, rfl, x, poA K, dx, _, _, rfl, hx1, T.clP, T.n_own_queue, rfl, _, _, rfl, ?_⟩
    rw [minE]
    obtain ⟨hl, hhl⟩ : ∃ hl, hl = min (held + u - en) qe := ⟨_, rfl⟩
    rw [← hhl] at q ⊢
    refine ⟨_, rfl, x, poA K, dx, _, rfl, hx1, T.clP, T.n_own_held, (show 6 < 1000 by decide), ?_⟩
    refine ⟨_, rfl, _, rfl, _, _, rfl, rfl, _, rfl, x, poA K, dx, _, _, rfl, upd_same, T.clP, T.n_own_held, rfl, _, _, rfl, rfl, ?_⟩
    refine ⟨_, rfl, x, poA K, dx, _, _, rfl, upd_same, T.clP, T.n_own_returned, rfl, _, rfl, _, _, rfl, rfl, _, rfl, x, poA K, dx, _, rfl, upd_same, T.clP, T.n_own_returned, (show 6 < 1000 by decide), ?_⟩
    rw [upd_upd]
    have nex : e ≠ x := fun z => by
      rw [z, hx] at he
      cases he
    have he2 : ∀ o, upd H1 x o e = some (.lst (xs.map V.int)) := fun o => by
      rw [upd_ne nex]
      exact he1
    refine ⟨_, rfl, x, poA K, dx, _, _, rfl, upd_same, T.clP, T.n_own_entered, rfl, .inl ⟨rfl, _, SqL.of (he2 _)⟩, _, rfl, e, _, _, rfl, rfl, he2 _, small_len (by rw [List.length_map]; omega), ?_⟩
    refine ⟨_, rfl, false, rfl, _, rfl, x, poA K, dx, _, rfl, (upd_ne (Ne.symm nex)).trans upd_same, T.clP, T.n_was_open, (show 6 < 1000 by decide), ?_⟩
    refine ⟨_, rfl, _, rfl, small_len (by simp) |> Nat.le_of_lt, fun t ht => ?_⟩
    have htx : t ≠ x := fun z => by
      rw [z, upd_same] at ht
      cases ht
    rw [upd_ne htx] at ht
    have hte : t ≠ e := fun z => by
      rw [z, upd_same] at ht
      cases ht
    rw [upd_ne hte, upd_ne htx] at ht
    refine q _ t (fun b o h1 h2 hb => ?_) ⟨dx, ?_, ?_⟩
    · have := sm _ _ hb
      rw [upd_ne (ne_of_none this ht), upd_ne h1, upd_ne h2, upd_ne h1]
      exact this
    · rw [upd_ne (Ne.symm htx)]
      exact upd_same
    · rw [upd_ne (Ne.symm hte), upd_ne nex, upd_same, List.map_append]
      rfl
def spRec (K : PySem.W.Frag) : Sp := fun vs H Q _ => ∃ (x c e : Addr) (qe held ret : Int) (xs : List Int) (op : Bool), vs = [.ref x] ∧ PoAt K c qe held ret e xs op H x ∧ ∀ t, H t = none → Q (.ref t) (upd H t (.lst (xs.map V.int)))
theorem sc_Police_record : FnScope ["self"] ["self"] (defScope s_Police_record) := ⟨rfl, rfl, rfl, by decide +kernel, rfl, by decide +kernel, by decide +kernel⟩
theorem m_record (T : Txt K mg) : Met P w K mg base 1 (poA K) "record" (spRec K) [] := by
  obtain ⟨fd, F⟩ := T.d_Police_record
  have b := FunD.bindsN (ps := ["self"]) F fun _ _ _ _ _ _ us hl => match us, hl with | [_], _ => rfl
  refine ⟨_, fd, ["self"], [], T.clP, T.m_record, ?_, b, .nil⟩
  refine FunD.ok F sc_Police_record (fun vs H Q E h => ?_) (fun cdv A outer s H vs Q E hr h => ?_)
  · obtain ⟨x, c, e, qe, held, ret, xs, op, rfl, _⟩ := h
    rfl
  · obtain ⟨x, c, e, qe, held, ret, xs, op, rfl, ⟨dx, hx, he⟩, q⟩ := h
    refine ⟨_, PSs.nox (pss_one (ps_ret (pe_callTy call_list_of (by rfl) T.f_list (by decide +kernel) (pa_cons (pe_fld (pv 0) (by rfl)) pa_nil)))), ?_⟩
    exact ⟨_, rfl, x, poA K, dx, _, _, rfl, hx, T.clP, T.n_own_entered, rfl, e, _, rfl, .inl (SqL.of he), fun t ht => q t ht⟩
end
end K23

/-! ## W8 -/
namespace K23
open PySem PySem.Spec PyProof.Rows L2
open C8 (Cal Met Mak pe_c pe_mk pe_mt pe_mt0)
/-- all but the list of the draws stands -/
def KeepX (r : Addr) (H H' : Hp) : Prop := ∀ b o, b ≠ r → H b = some o → H' b = some o
theorem KeepX.refl (r : Addr) (H : Hp) : KeepX r H H := fun _ _ _ e => e
theorem KeepX.trans {r : Addr} {H H1 H2 : Hp} (a : KeepX r H H1) (b : KeepX r H1 H2) : KeepX r H H2 := fun c o n e => b c o n (a c o n e)
theorem KeepX.of {r : Addr} {H H1 : Hp} (a : Same H H1) : KeepX r H H1 := fun c o _ e => a c o e
/-- the list of the draws -/
def RngAt (H : Hp) (r : Addr) : Prop := ∃ A B : Int, H r = some (.lst [.int A, .int B]) ∧ 0 ≤ A ∧ 0 ≤ B ∧ B < 2147483648
theorem RngAt.same {H H' : Hp} {r : Addr} (h : RngAt H r) (k : Same H H') : RngAt H' r := by
  obtain ⟨A, B, h1, h2⟩ := h
  exact ⟨A, B, k _ _ h1, h2⟩
theorem KeepX.free {r : Addr} {H H' : Hp} (k : KeepX r H H') (R : RngAt H r) {t : Addr} (R' : RngAt H' r) (h : H' t = none) : H t = none := by
  by_cases e : t = r
  · subst e
    obtain ⟨A, B, h1, _⟩ := R'
    rw [h1] at h
    cases h
  · match q : H t with
    | none => rfl
    | some o =>
      rw [k t o e q] at h
      cases h
theorem absE (i : Int) : (if i < 0 then -i else i) = i.natAbs := by
  split <;> omega
theorem fmodE {i j : Int} (h : 0 < j) : i.fmod j = i % j := Int.fmod_eq_emod_of_nonneg i (Int.le_of_lt h)
theorem fdivE {i j : Int} (h : 0 < j) : i.fdiv j = i / j := Int.fdiv_eq_ediv_of_nonneg i (Int.le_of_lt h)
section
variable {P : Program} {w : World} {K : PySem.W.Frag} {mg : Str → Option Value} {base : Heap}
/-! ### draws -/
def spRng (K : PySem.W.Frag) : Sp := fun vs H Q _ => ∃ (a : Addr) (ns : List Int) (k : Nat), vs = [.ref a, .int k] ∧ SqL K H a (ns.map V.int) ∧ k ≤ 4 ∧ ∀ (H' : Hp) (r : Addr), Same H H' → H r = none → RngAt H' r → Q (.ref r) H'
theorem sc_law_rng : FnScope ["_law_script", "_law_k", "_law_cell"] ["_law_script", "_law_k"] (defScope s_law_rng) := ⟨rfl, rfl, rfl, by decide +kernel, rfl, by decide +kernel, by decide +kernel⟩
theorem c_law_rng (T : Txt K mg) : Cal P w K mg base 1 "_law_rng" (spRng K) [] := by
  obtain ⟨fd, F⟩ := T.d_law_rng
  have b := FunD.bindsN (ps := ["_law_script", "_law_k"]) F fun _ _ _ _ _ _ us hl => match us, hl with | [_, _], _ => rfl
  refine ⟨_, fd, ["_law_script", "_law_k"], [], ?_, T.g_law_rng, F.kp, b, .nil⟩
  refine FunD.ok F sc_law_rng (fun vs H Q E h => ?_) (fun cdv A outer s H vs Q E hr h => ?_)
  · obtain ⟨a, ns, k, rfl, _⟩ := h
    rfl
  · obtain ⟨a, ns, k, rfl, hS, hk, q⟩ := h
    refine ⟨_, PSs.nox (pss_cons (ps_set (i := 2) sc_law_rng.nd rfl (Or.inl rfl) (pe_op op_add (pe_op op_mul pe_int (pv 1)) pe_int))
      (pss_cons (ps_if (pt_cmpR op_lt (pv 1) (pe_callB call_len_seq (by rfl) T.f_len PySem.boot_len (pa_cons (pv 0) pa_nil)) (nomark _)) (pss_one (ps_set (i := 2) sc_law_rng.nd rfl (Or.inl rfl) (pe_ix ix_list (pv 0) (pv 1) (fun _ _ => rfl)))) pss_nil)
      (pss_one (ps_ret (pe_lst (pa_cons (pe_callB (call_max2 rfl) (by rfl) T.f_max (by decide +kernel) (pa_cons pe_int (pa_cons (pe_op op_sub (pe_callB call_abs (by rfl) T.f_abs (by decide +kernel) (pa_cons (pv 2) pa_nil)) (pe_op op_pow pe_int pe_int)) pa_nil)))
        (pa_cons (pe_op op_add (pe_op op_modN (pe_op op_mul (pe_callTy call_int1 (by rfl) T.f_int boot_int (pa_cons (pe_op op_add (pe_op op_modN (pe_callTy call_int1 (by rfl) T.f_int boot_int (pa_cons (pe_callB call_abs (by rfl) T.f_abs (by decide +kernel) (pa_cons (pv 2) pa_nil)) pa_nil)) pe_int) pe_int) pa_nil))
            (pe_op op_pow (pe_op op_add (pe_op op_mul pe_int (pv 1)) pe_int) pe_int)) pe_int) pe_int) pa_nil))))))), ?_⟩
    refine ⟨_, rfl, _, _, rfl, rfl, .inl ⟨by decide, by decide⟩, _, _, rfl, rfl, ?_⟩
    have fin : ∀ (t : Addr) (A B : Int), H t = none → 0 ≤ A → 0 ≤ B → B < 2147483648 → Q (.ref t) (upd H t (.lst [.int A, .int B])) := fun t A B ht h1 h2 h3 => q _ t (same_upd ht) ht ⟨A, B, upd_same, h1, h2, h3⟩
    have fin2 : ∀ c : Int, (([V.int (max 0 ((c.natAbs : Int) - 10 ^ 18)), V.int (((((c.natAbs : Int) % 2147483549 + 1) * (2 * (k : Int) + 5) ^ 3) % 2147483543) + 1)] : List V)).length ≤ sizeLine ∧ ∀ t, H t = none →
        Q (.ref t) (upd H t (.lst [V.int (max 0 ((c.natAbs : Int) - 10 ^ 18)), V.int (((((c.natAbs : Int) % 2147483549 + 1) * (2 * (k : Int) + 5) ^ 3) % 2147483543) + 1)])) := fun c =>
      ⟨small_len (by simp) |> Nat.le_of_lt, fun t ht => fin t _ _ ht (by omega) (by omega) (by omega)⟩
    refine ⟨_, rfl, _, rfl, a, _, rfl, .inl hS, _, _, rfl, rfl, _, rfl, ?_⟩
    rw [List.length_map]
    by_cases c : k < ns.length
    · refine ifT (decide_eq_true (by omega)) ?_
      refine ⟨_, rfl, _, rfl, a, _, _, _, rfl, rfl, hS, at_int (i := k) rfl c, ?_⟩
      refine ⟨_, rfl, _, rfl, _, _, rfl, rfl, ⟨by decide, by decide, by decide⟩, _, _, rfl, rfl, _, _, rfl, ?_⟩
      refine ⟨_, rfl, _, rfl, .inl ⟨_, rfl, _, _, rfl, rfl, (show (2147483549 : Int) ≠ 0 by decide), _, _, rfl, rfl, .inl ⟨_, rfl, ?_⟩⟩⟩
      refine ⟨_, rfl, _, _, rfl, rfl, .inl ⟨by decide, by decide⟩, _, _, rfl, rfl, _, _, rfl, rfl, ⟨by decide, by decide, by omega⟩, ?_⟩
      refine ⟨_, _, rfl, rfl, .inl ⟨?_, ?_⟩, _, _, rfl, rfl, (show (2147483543 : Int) ≠ 0 by decide), _, _, rfl, rfl, ?_⟩
      · rw [absE, fmodE (by decide)]
        omega
      · rw [absE, fmodE (by decide)]
        omega
      dsimp only
      rw [maxE, absE, fmodE (by decide), fmodE (by decide)]
      exact fin2 _
    · refine ifF (decide_eq_false (by omega)) ?_
      refine ⟨_, rfl, _, rfl, _, _, rfl, rfl, ⟨by decide, by decide, by decide⟩, _, _, rfl, rfl, _, _, rfl, ?_⟩
      refine ⟨_, rfl, _, rfl, .inl ⟨_, rfl, _, _, rfl, rfl, (show (2147483549 : Int) ≠ 0 by decide), _, _, rfl, rfl, .inl ⟨_, rfl, ?_⟩⟩⟩
      refine ⟨_, rfl, _, _, rfl, rfl, .inl ⟨by decide, by decide⟩, _, _, rfl, rfl, _, _, rfl, rfl, ⟨by decide, by decide, by omega⟩, ?_⟩
      refine ⟨_, _, rfl, rfl, .inl ⟨?_, ?_⟩, _, _, rfl, rfl, (show (2147483543 : Int) ≠ 0 by decide), _, _, rfl, rfl, ?_⟩
      · rw [absE, fmodE (by decide)]
        omega
      · rw [absE, fmodE (by decide)]
        omega
      dsimp only
      rw [maxE, absE, fmodE (by decide), fmodE (by decide)]
      exact fin2 _

def spDraw : Sp := fun vs H Q _ => ∃ (r : Addr) (n : Int), vs = [.ref r, .int n] ∧ RngAt H r ∧ 1 ≤ n ∧ n < 1000000 ∧ ∀ (H' : Hp) (d : Nat), KeepX r H H' → RngAt H' r → (d : Int) < n → Q (.int d) H'
theorem sc_law_draw : FnScope ["_law_rng_here", "_law_many", "_law_digit"] ["_law_rng_here", "_law_many"] (defScope s_law_draw) := ⟨rfl, rfl, rfl, by decide +kernel, rfl, by decide +kernel, by decide +kernel⟩
theorem keepX_upd {r : Addr} {H H1 : Hp} {o : HO} (k : KeepX r H H1) : KeepX r H (upd H1 r o) := fun b o' n e => by
  rw [upd_ne n]
  exact k b o' n e
theorem c_law_draw (T : Txt K mg) : Cal P w K mg base 1 "_law_draw" spDraw [] := by
  obtain ⟨fd, F⟩ := T.d_law_draw
  have b := FunD.bindsN (ps := ["_law_rng_here", "_law_many"]) F fun _ _ _ _ _ _ us hl => match us, hl with | [_, _], _ => rfl
  refine ⟨_, fd, ["_law_rng_here", "_law_many"], [], ?_, T.g_law_draw, F.kp, b, .nil⟩
  refine FunD.ok F sc_law_draw (fun vs H Q E h => ?_) (fun cdv A outer s H vs Q E hr h => ?_)
  · obtain ⟨r, n, rfl, _⟩ := h
    rfl
  · obtain ⟨r, n, rfl, ⟨A, B, hR, hA, hB, hB2⟩, hn1, hn2, q⟩ := h
    refine ⟨_, PSs.nox (pss_cons (ps_if (pt_cmpR op_gt (pe_ix ix_list (pv 0) pe_int (fun _ _ => rfl)) pe_int (nomark _))
        (pss_cons (ps_asg (pe_callB call_divmod (by rfl) T.f_divmod (by decide +kernel) (pa_cons (pe_ix ix_list (pv 0) pe_int (fun _ _ => rfl)) (pa_cons (pv 1) pa_nil))) (pg_tup (by rfl) (pgs_cons (pg_sub (pv 0) pe_int set_list) (pgs_cons (pg_name (i := 2) sc_law_draw.nd rfl (Or.inl rfl)) pgs_nil))))
        (pss_one (ps_ret (pv 2)))) pss_nil)
      (pss_cons (ps_asg (pe_op op_modN (pe_callTy call_int1 (by rfl) T.f_int boot_int (pa_cons (pe_op op_add (pe_op op_mul (pe_ix ix_list (pv 0) pe_int (fun _ _ => rfl)) pe_int) pe_int) pa_nil)) pe_int) (pg_sub (pv 0) pe_int set_list))
      (pss_one (ps_ret (pe_op op_modN (pe_op op_fdivN (pe_op op_modN (pe_callTy call_int1 (by rfl) T.f_int boot_int (pa_cons (pe_op op_mul (pe_ix ix_list (pv 0) pe_int (fun _ _ => rfl)) (pe_ix ix_list (pv 0) pe_int (fun _ _ => rfl))) pa_nil)) pe_int) pe_int) (pv 1)))))), ?_⟩
    refine ⟨_, rfl, r, _, _, .int A, rfl, rfl, SqL.of hR, rfl, _, _, rfl, rfl, _, rfl, ?_⟩
    by_cases c : A > 0
    · refine ifT (decide_eq_true c) ?_
      refine ⟨_, rfl, r, _, _, .int A, rfl, rfl, SqL.of hR, rfl, _, rfl, A, n, rfl, ⟨by omega, by omega⟩, fun t ht => ?_⟩
      have nr : r ≠ t := ne_of_none hR ht
      refine ⟨t, _, rfl, SqT.of upd_same, rfl, _, _, rfl, _, rfl, r, _, 0, 0, rfl, rfl, (upd_ne nr).trans hR, rfl, _, _, rfl, rfl, ?_⟩
      have e1 : 0 ≤ A % n := Int.emod_nonneg _ (by omega)
      have e2 : A % n < n := Int.emod_lt_of_pos _ (by omega)
      obtain ⟨d, hd⟩ : ∃ d : Nat, (d : Int) = A % n := ⟨(A % n).toNat, by omega⟩
      refine ⟨_, rfl, ?_⟩
      have := q (upd (upd H t (.tup [V.int (A / n), V.int (A % n)])) r (.lst [V.int (A / n), V.int B])) d (keepX_upd (KeepX.of (same_upd ht))) ⟨A / n, B, upd_same, Int.ediv_nonneg (by omega) (by omega), hB, hB2⟩ (by omega)
      rw [hd] at this
      exact this
    · refine ifF (decide_eq_false c) ?_
      refine ⟨_, rfl, r, _, _, .int B, rfl, rfl, SqL.of hR, rfl, _, _, rfl, rfl, .inr ⟨by decide, by decide⟩, _, _, rfl, rfl, .inl ⟨_, rfl, ?_⟩⟩
      refine ⟨_, _, rfl, rfl, (show (2147483563 : Int) ≠ 0 by decide), _, rfl, r, _, 1, 1, rfl, rfl, hR, rfl, ?_⟩
      have fm : (B * 48311 + 20011).fmod 2147483563 = (B * 48311 + 20011) % 2147483563 := fmodE (by decide)
      dsimp only
      rw [fm]
      obtain ⟨B', hB'⟩ : ∃ B', B' = (B * 48311 + 20011) % 2147483563 := ⟨_, rfl⟩
      rw [← hB']
      have b1 : 0 ≤ B' := by omega
      have b2 : B' < 2147483563 := by omega
      have hR2 : upd H r (.lst ([V.int A, V.int B].set 1 (V.int B'))) r = some (.lst [V.int A, V.int B']) := upd_same
      refine ⟨_, rfl, r, _, _, .int B', rfl, rfl, SqL.of hR2, rfl, _, rfl, r, _, _, .int B', rfl, rfl, SqL.of hR2, rfl, _, _, rfl, rfl, .inl ⟨by omega, by omega⟩, .inl ⟨_, rfl, ?_⟩⟩
      refine ⟨_, _, rfl, rfl, (show (2147483497 : Int) ≠ 0 by decide), _, _, rfl, rfl, ⟨by decide, by decide⟩, _, rfl, _, _, rfl, rfl, (show n ≠ 0 by omega), ?_⟩
      rw [fmodE (by decide), fdivE (by decide)]
      have fm2 : (B' * B' % 2147483497 / 17).fmod n = B' * B' % 2147483497 / 17 % n := fmodE (by omega)
      dsimp only
      rw [fm2]
      have e1 : 0 ≤ (B' * B') % 2147483497 / 17 % n := Int.emod_nonneg _ (by omega)
      have e2 : (B' * B') % 2147483497 / 17 % n < n := Int.emod_lt_of_pos _ (by omega)
      obtain ⟨d, hd⟩ : ∃ d : Nat, (d : Int) = (B' * B') % 2147483497 / 17 % n := ⟨((B' * B') % 2147483497 / 17 % n).toNat, by omega⟩
      have := q _ d (keepX_upd (o := .lst ([V.int A, V.int B].set 1 (V.int B'))) (KeepX.refl r H)) ⟨A, B', upd_same, hA, b1, by omega⟩ (by omega)
      rw [hd] at this
      exact this
def spChoice : Sp := fun vs H Q _ => ∃ (r l : Addr) (ys : List V), vs = [.ref r, .ref l] ∧ RngAt H r ∧ H l = some (.lst ys) ∧ l ≠ r ∧ 1 ≤ ys.length ∧ ys.length < 1000 ∧ ∀ (H' : Hp) (y : V), KeepX r H H' → RngAt H' r → y ∈ ys → Q y H'
theorem sc_law_choice : FnScope ["_law_rng_here", "_law_some"] ["_law_rng_here", "_law_some"] (defScope s_law_choice) := ⟨rfl, rfl, rfl, by decide +kernel, rfl, by decide +kernel, by decide +kernel⟩
theorem c_law_choice (T : Txt K mg) : Cal P w K mg base 2 "_law_choice" spChoice [] := by
  obtain ⟨fd, F⟩ := T.d_law_choice
  have b := FunD.bindsN (ps := ["_law_rng_here", "_law_some"]) F fun _ _ _ _ _ _ us hl => match us, hl with | [_, _], _ => rfl
  refine ⟨_, fd, ["_law_rng_here", "_law_some"], [], ?_, T.g_law_choice, F.kp, b, .nil⟩
  refine FunD.ok F sc_law_choice (fun vs H Q E h => ?_) (fun cdv A outer s H vs Q E hr h => ?_)
  · obtain ⟨r, l, ys, rfl, _⟩ := h
    rfl
  · obtain ⟨r, l, ys, rfl, hR, hl, hlr, h1, h2, q⟩ := h
    refine ⟨_, PSs.nox (pss_one (ps_ret (pe_ix ix_list (pv 1) (pe_c (c_law_draw T) hr (by decide) (by rfl) (pa_cons (pv 0) (pa_cons (pe_callB call_len_seq (by rfl) T.f_len PySem.boot_len (pa_cons (pv 1) pa_nil)) pa_nil))) (fun _ _ => rfl)))), ?_⟩
    refine ⟨_, rfl, _, rfl, _, rfl, l, _, rfl, .inl (SqL.of hl), r, _, rfl, hR, by omega, by omega, fun H' d k R hd => ?_⟩
    have hdl : d < ys.length := by omega
    exact ⟨l, ys, _, _, rfl, rfl, SqL.of (k l _ hlr hl), atI_nat (List.getElem?_eq_getElem hdl), q H' _ k R (List.getElem_mem hdl)⟩
/-! ### rows -/
def RowAt (K : PySem.W.Frag) (H : Hp) (t a : Addr) (fv : List Int) (p : Nat) (g : Int) : Prop := H t = some (.tup [.ref a, .int p, .int g]) ∧ H a = some (.lst (fv.map V.int))
theorem RowAt.same {H H' : Hp} {t a : Addr} {fv : List Int} {p : Nat} {g : Int} (h : RowAt K H t a fv p g) (k : Same H H') : RowAt K H' t a fv p g := ⟨k _ _ h.1, k _ _ h.2⟩
theorem RowAt.keep {H H' : Hp} {t a r : Addr} {fv : List Int} {p : Nat} {g : Int} (h : RowAt K H t a fv p g) (k : KeepX r H H') (hr : RngAt H r) (n : a ≠ r) : RowAt K H' t a fv p g := ⟨k _ _ (fun e => by
  obtain ⟨A, B, h1, _⟩ := hr
  rw [← e, h.1] at h1
  cases h1) h.1, k _ _ n h.2⟩
def spGood (K : PySem.W.Frag) : Sp := fun vs H Q _ => ∃ (t a : Addr) (fv : List Int) (p : Nat) (g : Int), vs = [.ref t] ∧ RowAt K H t a fv p g ∧ 1 ≤ p ∧ p ≤ fv.length ∧ fv.length < 100 ∧ ∀ b : Bool, (b = true → Sub (vAt fv p g)) → Q (.bl b) H
theorem sc_law_is_good : FnScope ["_law_row_here", "_law_many", "_law_one", "_law_other"] ["_law_row_here"] (defScope s_law_is_good) := ⟨rfl, rfl, rfl, by decide +kernel, rfl, by decide +kernel, by decide +kernel⟩
theorem c_law_is_good (T : Txt K mg) : Cal P w K mg base 2 "_law_is_good" (spGood K) [] := by
  obtain ⟨fd, F⟩ := T.d_law_is_good
  have b := FunD.bindsN (ps := ["_law_row_here"]) F fun _ _ _ _ _ _ us hl => match us, hl with | [_], _ => rfl
  refine ⟨_, fd, ["_law_row_here"], [], ?_, T.g_law_is_good, F.kp, b, .nil⟩
  refine FunD.ok F sc_law_is_good (fun vs H Q E h => ?_) (fun cdv A outer s H vs Q E hr h => ?_)
  · obtain ⟨t, a, fv, p, g, rfl, _⟩ := h
    rfl
  · obtain ⟨t, a, fv, p, g, rfl, ⟨hT, ha⟩, hp1, hpn, hn, q⟩ := h
    refine ⟨_, PSs.nox (pss_cons (ps_set (i := 1) sc_law_is_good.nd rfl (Or.inl rfl) (pe_op op_add (pe_callB call_len_seq (by rfl) T.f_len PySem.boot_len (pa_cons (pe_ix ix_tup (pv 0) pe_int (fun _ _ => rfl)) pa_nil)) (pe_ix ix_tup (pv 0) pe_int (fun _ _ => rfl))))
      (pss_cons (ps_for PassesOwn.never rfl (pi_range2 (by rfl) T.f_range (pa_cons pe_int (pa_cons (pe_op op_add (pv 1) pe_int) pa_nil))) (pg_name (i := 2) sc_law_is_good.nd rfl (Or.inl rfl))
        (pss_one (ps_for PassesOwn.never rfl (pi_range2 (by rfl) T.f_range (pa_cons pe_int (pa_cons (pe_op op_add (pv 2) pe_int) pa_nil))) (pg_name (i := 3) sc_law_is_good.nd rfl (Or.inl rfl))
          (pss_one (ps_if (pt_cmpR op_gt (pe_c (c_law_at T) hr (by decide) (by rfl) (pa_cons (pv 0) (pa_cons (pe_op op_add (pv 2) (pv 3)) pa_nil))) (pe_op op_add (pe_c (c_law_at T) hr (by decide) (by rfl) (pa_cons (pv 0) (pa_cons (pv 2) pa_nil))) (pe_c (c_law_at T) hr (by decide) (by rfl) (pa_cons (pv 0) (pa_cons (pv 3) pa_nil)))) (nomark _))
            (pss_one (ps_ret pe_bl)) pss_nil)))))
      (pss_one (ps_ret pe_bl)))), ?_⟩
    have hST : SqT K H t [.ref a, .int p, .int g] := SqT.of hT
    have hSL : SqL K H a (fv.map V.int) := SqL.of ha
    refine ⟨_, rfl, t, _, _, .ref a, rfl, rfl, hST, rfl, a, _, rfl, .inl hSL, _, rfl, t, _, _, .int p, rfl, rfl, hST, rfl, _, _, rfl, rfl, ?_⟩
    rw [List.length_map]
    refine ⟨_, rfl, _, _, rfl, rfl, _, _, rfl, ⟨by omega, by omega, by omega, by omega⟩, ?_⟩
    obtain ⟨f, hf⟩ : ∃ f, f = vAt fv p g := ⟨_, rfl⟩
    refine for_it walk_range (fun i σ H' => ∃ x2 x3, σ = [some (.ref t), some (.int ((fv.length : Int) + p)), x2, x3] ∧ H' = H ∧ ∀ a b, 1 ≤ b → b ≤ a → a ≤ i → f (a + b) ≤ f a + f b) ⟨none, none, rfl, rfl, fun a b h1 h2 => by omega⟩ (fun _ _ _ _ _ => trivial) ?_ ?_
    · rintro i x σ H3 H4 hi ⟨x2, x3, rfl, hH3, hp⟩ ⟨hH4, rfl⟩
      rw [hH4, hH3]
      clear hH4 hH3 H3 H4
      refine ⟨_, rfl, _, _, rfl, rfl, _, _, rfl, ⟨by omega, by omega, by omega, by omega⟩, ?_⟩
      refine for_it walk_range (fun j σ H' => ∃ x3, σ = [some (.ref t), some (.int ((fv.length : Int) + p)), some (.int (1 + (i : Nat))), x3] ∧ H' = H ∧ ∀ b, 1 ≤ b → b ≤ j → f (1 + i + b) ≤ f (1 + i) + f b) ⟨x3, rfl, rfl, fun b h1 h2 => by omega⟩ (fun _ _ _ _ _ => trivial) ?_ ?_
      · rintro j x σ H3 H4 hj ⟨x3, rfl, hH3, hq⟩ ⟨hH4, rfl⟩
        rw [hH4, hH3]
        clear hH4 hH3 H3 H4
        refine ⟨_, rfl, _, rfl, _, rfl, _, _, rfl, rfl, t, a, fv, p, 1 + i + (1 + j), g, by simp [Int.natCast_add], hST, hSL, hp1, hpn, by omega, by omega, ?_⟩
        refine ⟨_, rfl, _, rfl, t, a, fv, p, 1 + i, g, by simp [Int.natCast_add], hST, hSL, hp1, hpn, by omega, by omega, ?_⟩
        refine ⟨_, rfl, _, rfl, t, a, fv, p, 1 + j, g, by simp [Int.natCast_add], hST, hSL, hp1, hpn, by omega, by omega, _, _, rfl, rfl, _, _, rfl, rfl, _, rfl, ?_⟩
        rw [← hf]
        by_cases c : f (1 + i + (1 + j)) > f (1 + i) + f (1 + j)
        · exact ifT (decide_eq_true c) (q false (fun z => nomatch z))
        · refine ifF (decide_eq_false c) ?_
          refine ⟨_, rfl, rfl, fun b h1 h2 => ?_⟩
          by_cases e : b = 1 + j
          · rw [e]
            omega
          · exact hq b h1 (by omega)
      · rintro σ H3 ⟨x3, rfl, hH3, hq⟩
        rw [hH3]
        refine ⟨_, _, rfl, rfl, fun a b h1 h2 h3 => ?_⟩
        by_cases e : a = 1 + i
        · rw [e] at h2 ⊢
          exact hq b h1 (by omega)
        · exact hp a b h1 h2 (by omega)
    · rintro σ H3 ⟨x2, x3, rfl, hH3, hp⟩
      rw [hH3]
      refine q true fun _ => ?_
      rw [← hf]
      refine sub_of (n := fv.length) (p := p) (N := fv.length + p) (g := g) (by rw [hf]; exact vAt_zero _ _ _) (by rw [hf]; exact vAt_per hp1 hpn) hp1 hpn (by omega) fun a b h1 h2 h3 => hp a b h1 h2 (by omega)
/-! ### what may enter, by the law -/
def spRoom (K : PySem.W.Frag) : Sp := fun vs H Q _ => ∃ (t a u : Addr) (fv : List Int) (p : Nat) (g : Int) (xs : List Int), vs = [.ref t, .ref u] ∧ RowAt K H t a fv p g ∧ 1 ≤ p ∧ p ≤ fv.length ∧ fv.length < 100 ∧ H u = some (.lst (xs.map V.int)) ∧ xs.length < 500 ∧
  ∀ H', Same H H' → Q (.int (mayEnter (vAt fv p g) xs)) H'
theorem sc_law_room : FnScope ["_law_row_here", "_law_units", "_law_found", "_law_size"] ["_law_row_here", "_law_units"] (defScope s_law_room) := ⟨rfl, rfl, rfl, by decide +kernel, rfl, by decide +kernel, by decide +kernel⟩
theorem cut_lo {xs : List Int} {z : Int} {i : Nat} (e : z = (i : Int)) (h : i ≤ xs.length) : cutV (xs.map V.int) (some z) none = (xs.drop i).map V.int := by
  subst e
  unfold cutV
  rw [HT.sIx_none, HT.sIx_nat, List.length_map, Nat.min_eq_left h, ← List.map_drop]
  exact List.take_of_length_le (by simp)
theorem cut_hi {xs : List Int} {z : Int} {i : Nat} (e : z = (i : Int)) (h : i ≤ xs.length) : cutV (xs.map V.int) none (some z) = (xs.take i).map V.int := by
  subst e
  unfold cutV
  rw [HT.sIx_none, HT.sIx_nat, List.length_map, Nat.min_eq_left h, Nat.sub_zero, List.drop_zero, ← List.map_take]
theorem c_law_room (T : Txt K mg) : Cal P w K mg base 2 "_law_room" (spRoom K) [] := by
  obtain ⟨fd, F⟩ := T.d_law_room
  have b := FunD.bindsN (ps := ["_law_row_here", "_law_units"]) F fun _ _ _ _ _ _ us hl => match us, hl with | [_, _], _ => rfl
  refine ⟨_, fd, ["_law_row_here", "_law_units"], [], ?_, T.g_law_room, F.kp, b, .nil⟩
  refine FunD.ok F sc_law_room (fun vs H Q E h => ?_) (fun cdv A outer s H vs Q E hr h => ?_)
  · obtain ⟨t, a, u, fv, p, g, xs, rfl, _⟩ := h
    rfl
  · obtain ⟨t, a, u, fv, p, g, xs, rfl, row, hp1, hpn, hn, hu, hx, q⟩ := h
    refine ⟨_, PSs.nox (pss_cons (ps_set (i := 2) sc_law_room.nd rfl (Or.inl rfl) (pe_c (c_law_at T) hr (by decide) (by rfl) (pa_cons (pv 0) (pa_cons pe_int pa_nil))))
      (pss_cons (ps_for PassesOwn.never rfl (pi_range2 (by rfl) T.f_range (pa_cons pe_int (pa_cons (pe_op op_add (pe_callB call_len_seq (by rfl) T.f_len PySem.boot_len (pa_cons (pv 1) pa_nil)) pe_int) pa_nil))) (pg_name (i := 3) sc_law_room.nd rfl (Or.inl rfl))
        (pss_one (ps_set (i := 2) sc_law_room.nd rfl (Or.inl rfl) (pe_callB (call_min2 rfl) (by rfl) T.f_min (by decide +kernel) (pa_cons (pv 2) (pa_cons (pe_op op_sub (pe_c (c_law_at T) hr (by decide) (by rfl) (pa_cons (pv 0) (pa_cons (pv 3) pa_nil)))
          (pe_callB (cr_sum rfl) (by rfl) T.f_sum (by decide +kernel) (pa_cons (pe_slice sl_list (pv 1) (po_some (pe_op op_sub (pe_op op_add (pe_callB call_len_seq (by rfl) T.f_len PySem.boot_len (pa_cons (pv 1) pa_nil)) pe_int) (pv 3))) po_none) pa_nil))) pa_nil))))))
      (pss_one (ps_ret (pe_callB (call_max2 rfl) (by rfl) T.f_max (by decide +kernel) (pa_cons pe_int (pa_cons (pv 2) pa_nil))))))), ?_⟩
    obtain ⟨f, hf⟩ : ∃ f, f = vAt fv p g := ⟨_, rfl⟩
    rw [← hf] at q
    refine ⟨_, rfl, t, a, fv, p, 1, g, rfl, SqT.of row.1, SqL.of row.2, hp1, hpn, by omega, by omega, ?_⟩
    rw [← hf]
    refine ⟨_, rfl, u, _, rfl, .inl (SqL.of hu), _, _, rfl, rfl, _, _, rfl, by rw [List.length_map]; exact ⟨by omega, by omega, by omega, by omega⟩, ?_⟩
    rw [List.length_map, show (((xs.length : Int) + 2) - 2).toNat = xs.length from by omega]
    refine for_it walk_range (fun i σ H' => ∃ x3, σ = [some (.ref t), some (.ref u), some (.int (least f xs i)), x3] ∧ Same H H') ⟨none, rfl, Same.refl H⟩ (fun _ _ _ _ _ => trivial) ?_ ?_
    · rintro i x σ H3 H4 hi ⟨x3, rfl, sm⟩ ⟨rfl, rfl⟩
      have row2 := row.same sm
      refine ⟨_, rfl, _, rfl, _, rfl, t, a, fv, p, 2 + i, g, by simp [Int.natCast_add], SqT.of row2.1, SqL.of row2.2, hp1, hpn, by omega, by omega, ?_⟩
      have hu2 := sm _ _ hu
      refine ⟨_, rfl, _, rfl, u, _, rfl, .inl (SqL.of hu2), _, _, rfl, rfl, _, rfl, _, _, rfl, rfl, _, rfl, u, _, rfl, SqL.of hu2, fun l hl => ?_⟩
      rw [List.length_map, cut_lo (i := xs.length - (i + 1)) (by omega) (by omega)]
      refine ⟨l, _, rfl, SqL.of upd_same, _, _, rfl, rfl, _, _, rfl, ?_⟩
      refine ⟨some (.int (2 + (i : Nat))), ?_, sm.trans (same_upd hl)⟩
      dsimp only
      rw [minE, drop_sum, ← hf, show 2 + i = i + 2 from by omega]
      rfl
    · rintro σ H3 ⟨x3, rfl, sm⟩
      refine ⟨_, rfl, _, _, rfl, ?_⟩
      rw [maxE]
      exact q _ sm
end
end K23

/-! ## W9 -/
namespace K23
open PySem PySem.Spec PyProof.Rows L2
open C8 (Cal Met Mak pe_c pe_mk pe_mt pe_mt0)
def goodB (fv : List Int) (p : Nat) (g : Int) : Bool := decide (1 ≤ p ∧ p ≤ fv.length ∧ (p = 1 ∨ p = 2 ∨ p = 3 ∨ p = 4 ∨ p = 6 ∨ p = 12) ∧ fv.length ≤ 24 ∧ (∀ i, i < fv.length → 0 ≤ fv.getD i 0 ∧ fv.getD i 0 ≤ 2000) ∧
  (∀ i, i < fv.length → i + 1 < fv.length → fv.getD i 0 ≤ fv.getD (i + 1) 0) ∧ (0 ≤ g ∧ g ≤ 2000) ∧ fv.getD (fv.length - 1) 0 ≤ vAt fv p g (fv.length + 1) ∧
  ∀ a, a < fv.length + 1 → ∀ b, b < a + 1 → vAt fv p g (a + b) ≤ vAt fv p g a + vAt fv p g b)
theorem good_by {fv : List Int} {p : Nat} {g : Int} (h : goodB fv p g = true) : RowB fv p g ∧ Sub (vAt fv p g) := by
  obtain ⟨h1, h2, h3, h4, h5, h6, h7, h8, h9⟩ := of_decide_eq_true h
  exact ⟨⟨h1, h2, h3, h4, h5, fun i hi => h6 i (by omega) hi, h7, h8⟩, sub_of (N := fv.length) (vAt_zero _ _ _) (vAt_per h1 h2) h1 h2 (Nat.le_refl _) fun a b _ hb ha => h9 a (by omega) b (by omega)⟩
/-- a good row, its list new since H0 -/
def GRow (K : PySem.W.Frag) (H0 H : Hp) (v : V) : Prop := ∃ (t a : Addr) (fv : List Int) (p : Nat) (g : Int), v = .ref t ∧ RowAt K H t a fv p g ∧ H0 a = none ∧ H0 t = none ∧ RowB fv p g ∧ Sub (vAt fv p g)
theorem GRow.same {K : PySem.W.Frag} {H0 H H' : Hp} {v : V} (h : GRow K H0 H v) (k : Same H H') : GRow K H0 H' v := by
  obtain ⟨t, a, fv, p, g, h1, h2, h3, h4, h5, h6⟩ := h
  exact ⟨t, a, fv, p, g, h1, h2.same k, h3, h4, h5, h6⟩
def tInts : List Int → TA
  | [] => tNil
  | x :: xs => tCons (tC (.int x)) (tInts xs)
theorem tInts_ok {σ : L2.St} {H : Hp} : ∀ (xs : List Int) (Q : List V → Hp → Prop), Q (xs.map V.int) H → tInts xs σ H Q
  | [], _, h => h
  | _ :: xs, _, h => tInts_ok xs _ h
def rowsTA : List (List Int × Nat × Int) → TA
  | [] => tNil
  | (fv, p, g) :: r => tCons (tTup (tCons (tLst (tInts fv)) (tCons (tC (.int (p : Nat))) (tCons (tC (.int g)) tNil)))) (rowsTA r)
theorem rows_ok {K : PySem.W.Frag} {H0 : Hp} {σ : L2.St} : ∀ (rs : List (List Int × Nat × Int)) (H1 : Hp) (Q : List V → Hp → Prop), Same H0 H1 → (∀ r ∈ rs, goodB r.1 r.2.1 r.2.2 = true) →
    (∀ vs H2, Same H1 H2 → (∀ v ∈ vs, GRow K H0 H2 v) → vs.length = rs.length → Q vs H2) → rowsTA rs σ H1 Q
  | [], H1, Q, sm, _, h => h [] H1 (Same.refl H1) (fun v hv => absurd hv List.not_mem_nil) rfl
  | (fv, p, g) :: rs, H1, Q, sm, hg, h => by
    have R := good_by (hg _ List.mem_cons_self)
    refine tInts_ok fv _ ⟨?_, fun a ha => ⟨small_len (by simp) |> Nat.le_of_lt, fun t ht => ?_⟩⟩
    · have := R.1.n24
      exact small_len (by rw [List.length_map]; simp at this; omega) |> Nat.le_of_lt
    · have h2 : upd H1 a (.lst (fv.map V.int)) a = some (.lst (fv.map V.int)) := upd_same
      have s1 : Same H1 (upd (upd H1 a (.lst (fv.map V.int))) t (.tup [.ref a, .int (p : Nat), .int g])) := (same_upd ha).trans (same_upd ht)
      refine rows_ok (K := K) rs _ _ (sm.trans s1) (fun r hr => hg r (List.mem_cons_of_mem _ hr)) fun vs H2 sm2 gs hl => h _ H2 (s1.trans sm2) (fun v hv => ?_) (congrArg (· + 1) hl)
      rcases List.mem_cons.mp hv with rfl | hv
      · have G : GRow K H0 (upd (upd H1 a (.lst (fv.map V.int))) t (.tup [.ref a, .int (p : Nat), .int g])) (.ref t) := ⟨t, a, fv, p, g, rfl, ⟨upd_same, (upd_ne (ne_of_none h2 ht)).trans h2⟩, sm.free ha, sm.free ((same_upd ha).free ht), R.1, R.2⟩
        exact G.same sm2
      · exact gs v hv
theorem lst_ok {K : PySem.W.Frag} {H0 H1 : Hp} {σ : L2.St} {Q : VK} (rs : List (List Int × Nat × Int)) (sm : Same H0 H1) (hg : rs.all (fun r => goodB r.1 r.2.1 r.2.2) = true) (hl : rs.length < 500)
    (h : ∀ l vs H2, Same H1 H2 → H0 l = none → H2 l = some (.lst vs) → (∀ v ∈ vs, GRow K H0 H2 v) → vs.length = rs.length → Q (.ref l) H2) : tLst (rowsTA rs) σ H1 Q := by
  refine rows_ok (K := K) rs H1 _ sm (fun r hr => List.all_eq_true.mp hg r hr) fun vs H2 sm2 gs e => ⟨small_len (by omega) |> Nat.le_of_lt, fun l hl => ?_⟩
  exact h l vs _ (sm2.trans (same_upd hl)) ((sm.trans sm2).free hl) upd_same (fun v hv => (gs v hv).same (same_upd hl)) e
section
variable {P : Program} {w : World} {K : PySem.W.Frag} {mg : Str → Option Value} {base : Heap}
section
variable {X : Cx} {k j : Nat} {x : Str} {sp : Sp} {dvs : List V} {p pos : Pos}
theorem pe_c0 (c : Cal X.prog X.w X.K X.mg X.base k x sp dvs) (hr : Room j X.A) (hk : k ≤ j) (hg : Gl X x) (hdb : (x == ("__debug__" : Str)) = false := by decide) : PE X (.Call (.Name x p) [] [] pos) (tCall sp dvs E0 tNil) := by
  obtain ⟨f, fd, ps, ds, F, hm, kp, b, d⟩ := c.ex
  exact pe_call0 F (hr.mono hk) hg hm kp b d pass0 hdb
end
def spRows (K : PySem.W.Frag) : Sp := fun vs H Q _ => vs = [] ∧ ∀ (H' : Hp) (t : Addr) (ys : List V), Same H H' → H t = none → H' t = some (.lst ys) → (∀ y ∈ ys, GRow K H H' y) → 1 ≤ ys.length → ys.length < 1000 → Q (.ref t) H'
theorem sc_law_rows : FnScope ["_law_rows_here"] [] (defScope s_law_rows) := ⟨rfl, rfl, rfl, by decide +kernel, rfl, by decide +kernel, by decide +kernel⟩
theorem c_law_rows (T : Txt K mg) : Cal P w K mg base 1 "_law_rows" (spRows K) [] := by
  obtain ⟨fd, F⟩ := T.d_law_rows
  have b := FunD.bindsN (ps := []) F fun _ _ _ _ _ _ us hl => match us, hl with | [], _ => rfl
  refine ⟨_, fd, [], [], ?_, T.g_law_rows, F.kp, b, .nil⟩
  refine FunD.ok F sc_law_rows (fun vs H Q E h => ?_) (fun cdv A outer s H vs Q E hr h => ?_)
  · obtain ⟨rfl, _⟩ := h
    rfl
  · obtain ⟨rfl, q⟩ := h
    refine ⟨_, PSs.nox (pss_cons (ps_set (i := 0) sc_law_rows.nd rfl (Or.inl rfl) (pe_lst (pa_cons (pe_tup (pa_cons (pe_lst (pa_cons pe_int pa_nil)) (pa_cons pe_int (pa_cons pe_int pa_nil)))) (pa_cons (pe_tup (pa_cons (pe_lst (pa_cons pe_int (pa_cons pe_int pa_nil))) (pa_cons pe_int (pa_cons pe_int pa_nil)))) (pa_cons (pe_tup (pa_cons (pe_lst (pa_cons pe_int (pa_cons pe_int (pa_cons pe_int pa_nil)))) (pa_cons pe_int (pa_cons pe_int pa_nil)))) (pa_cons (pe_tup (pa_cons (pe_lst (pa_cons pe_int (pa_cons pe_int pa_nil))) (pa_cons pe_int (pa_cons pe_int pa_nil)))) (pa_cons (pe_tup (pa_cons (pe_lst (pa_cons pe_int pa_nil)) (pa_cons pe_int (pa_cons pe_int pa_nil)))) (pa_cons (pe_tup (pa_cons (pe_lst (pa_cons pe_int (pa_cons pe_int (pa_cons pe_int pa_nil)))) (pa_cons pe_int (pa_cons pe_int pa_nil)))) pa_nil))))))))
      (pss_cons (ps_set (i := 0) sc_law_rows.nd rfl (Or.inl rfl) (pe_op op_cat (pv 0) (pe_lst (pa_cons (pe_tup (pa_cons (pe_lst (pa_cons pe_int pa_nil)) (pa_cons pe_int (pa_cons pe_int pa_nil)))) (pa_cons (pe_tup (pa_cons (pe_lst (pa_cons pe_int (pa_cons pe_int (pa_cons pe_int pa_nil)))) (pa_cons pe_int (pa_cons pe_int pa_nil)))) (pa_cons (pe_tup (pa_cons (pe_lst (pa_cons pe_int (pa_cons pe_int pa_nil))) (pa_cons pe_int (pa_cons pe_int pa_nil)))) (pa_cons (pe_tup (pa_cons (pe_lst (pa_cons pe_int (pa_cons pe_int (pa_cons pe_int (pa_cons pe_int pa_nil))))) (pa_cons pe_int (pa_cons pe_int pa_nil)))) (pa_cons (pe_tup (pa_cons (pe_lst (pa_cons pe_int pa_nil)) (pa_cons pe_int (pa_cons pe_int pa_nil)))) (pa_cons (pe_tup (pa_cons (pe_lst (pa_cons pe_int pa_nil)) (pa_cons pe_int (pa_cons pe_int pa_nil)))) pa_nil)))))))))
      (pss_one (ps_ret (pe_op op_cat (pv 0) (pe_lst (pa_cons (pe_tup (pa_cons (pe_lst (pa_cons pe_int (pa_cons pe_int (pa_cons pe_int (pa_cons pe_int pa_nil))))) (pa_cons pe_int (pa_cons pe_int pa_nil)))) (pa_cons (pe_tup (pa_cons (pe_lst (pa_cons pe_int (pa_cons pe_int (pa_cons pe_int pa_nil)))) (pa_cons pe_int (pa_cons pe_int pa_nil)))) (pa_cons (pe_tup (pa_cons (pe_lst (pa_cons pe_int (pa_cons pe_int (pa_cons pe_int pa_nil)))) (pa_cons pe_int (pa_cons pe_int pa_nil)))) (pa_cons (pe_tup (pa_cons (pe_lst (pa_cons pe_int (pa_cons pe_int (pa_cons pe_int (pa_cons pe_int (pa_cons pe_int (pa_cons pe_int pa_nil))))))) (pa_cons pe_int (pa_cons pe_int pa_nil)))) pa_nil)))))))))), ?_⟩
    dsimp only [tSeq, tAsg]
    refine lst_ok (K := K) [([1], 1, 0), ([1, 1], 2, 1), ([1, 1, 1], 3, 1), ([2, 2], 2, 1), ([1], 1, 1), ([2, 2, 2], 3, 1)] (Same.refl H) (by decide +kernel) (by decide) fun l0 v0 J0 s0 n0 h0 g0 e0 => ?_
    refine ⟨_, rfl, ?_⟩
    refine lst_ok (K := K) [([2], 1, 0), ([2, 2, 3], 3, 2), ([1, 2], 1, 0), ([2, 2, 2, 2], 4, 1), ([2], 1, 1), ([0], 1, 0)] s0 (by decide +kernel) (by decide) fun l1 v1 J1 s1 n1 h1 g1 e1 => ?_
    refine ⟨l0, l1, v0, v1, rfl, rfl, s1 _ _ h0, h1, small_len (by rw [e0, e1]; decide) |> Nat.le_of_lt, fun l2 n2 => ?_⟩
    have sa : Same H (upd J1 l2 (.lst (v0 ++ v1))) := (s0.trans s1).trans (same_upd n2)
    have ha : upd J1 l2 (.lst (v0 ++ v1)) l2 = some (.lst (v0 ++ v1)) := upd_same
    have ga : ∀ v ∈ v0 ++ v1, GRow K H (upd J1 l2 (.lst (v0 ++ v1))) v := fun v hv => (List.mem_append.mp hv).elim (fun h => ((g0 v h).same s1).same (same_upd n2)) fun h => (g1 v h).same (same_upd n2)
    generalize upd J1 l2 (.lst (v0 ++ v1)) = J2 at sa ha ga ⊢
    refine ⟨_, rfl, ?_⟩
    refine lst_ok (K := K) [([1, 2, 2, 2], 4, 1), ([3, 3, 3], 3, 1), ([1, 1, 2], 2, 1), ([3, 3, 3, 3, 3, 3], 6, 1)] sa (by decide +kernel) (by decide) fun l3 v3 J3 s3 n3 h3 g3 e3 => ?_
    have el : (v0 ++ v1 ++ v3).length = 16 := by
      rw [List.length_append, List.length_append, e0, e1, e3]
      rfl
    refine ⟨l2, l3, v0 ++ v1, v3, rfl, rfl, s3 _ _ ha, h3, small_len (by rw [← List.length_append, el]; decide) |> Nat.le_of_lt, fun l4 n4 => ?_⟩
    refine q _ l4 _ ((sa.trans s3).trans (same_upd n4)) ((sa.trans s3).free n4) upd_same (fun v hv => ?_) (by rw [el]; decide) (by rw [el]; decide)
    exact (List.mem_append.mp hv).elim (fun h => ((ga v h).same s3).same (same_upd n4)) fun h => (g3 v h).same (same_upd n4)
end
end K23

/-! ## W10 -/
namespace K23
open PySem PySem.Spec PyProof.Rows L2
open C8 (Cal Met Mak pe_c pe_mk pe_mt pe_mt0)
theorem GRow.base {K : PySem.W.Frag} {H0 H1 H : Hp} {v : V} (h : GRow K H1 H v) (k : ∀ t, H1 t = none → H0 t = none) : GRow K H0 H v := by
  obtain ⟨t, a, fv, p, g, h1, h2, h3, h4, h5, h6⟩ := h
  exact ⟨t, a, fv, p, g, h1, h2, k _ h3, k _ h4, h5, h6⟩
theorem RngAt.ne {H1 : Hp} {r t : Addr} (R : RngAt H1 r) (h : H1 t = none) : t ≠ r := fun e => by
  obtain ⟨A, B, h1, _⟩ := R
  rw [e, h1] at h
  cases h
theorem GRow.keep {K : PySem.W.Frag} {H0 H H' : Hp} {v : V} {r : Addr} (h : GRow K H0 H v) (R0 : RngAt H0 r) (k : KeepX r H H') : GRow K H0 H' v := by
  obtain ⟨t, a, fv, p, g, h1, h2, h3, h4, h5, h6⟩ := h
  exact ⟨t, a, fv, p, g, h1, ⟨k _ _ (R0.ne h4) h2.1, k _ _ (R0.ne h3) h2.2⟩, h3, h4, h5, h6⟩
theorem keepX_new {r s : Addr} {H H1 : Hp} {o : HO} (k : KeepX r H H1) (h : H s = none) : KeepX r H (upd H1 s o) := fun b o' n e => by
  rw [upd_ne (ne_of_none e h)]
  exact k b o' n e
theorem RngAt.upd {H1 : Hp} {r s : Addr} {o : HO} (R : RngAt H1 r) (n : s ≠ r) : RngAt (upd H1 s o) r := by
  obtain ⟨A, B, h1, h2⟩ := R
  exact ⟨A, B, (upd_ne (Ne.symm n)).trans h1, h2⟩
/-- drawn steps: n of them -/
def StOk (st : List Int) (n : Nat) : Prop := st.length = n ∧ (∀ j, j < n → 0 ≤ st.getD j 0 ∧ st.getD j 0 ≤ 2 + j) ∧ ∀ j, j + 1 < n → st.getD j 0 ≤ st.getD (j + 1) 0
theorem getD_lo {xs : List Int} {x : Int} {j : Nat} (h : j < xs.length) : (xs ++ [x]).getD j 0 = xs.getD j 0 := by
  rw [List.getD_eq_getElem?_getD, List.getD_eq_getElem?_getD, List.getElem?_append_left h]
theorem getD_hi {xs : List Int} {x : Int} : (xs ++ [x]).getD xs.length 0 = x := by
  rw [List.getD_eq_getElem?_getD, List.getElem?_append_right (Nat.le_refl _)]
  simp
theorem StOk.more {st : List Int} {n : Nat} {d : Nat} (h : StOk st n) (h1 : 1 ≤ n) (hd : d < 2) : StOk (st ++ [st.getD (n - 1) 0 + d]) (n + 1) := by
  obtain ⟨rfl, a, b⟩ := h
  refine ⟨by simp, fun j hj => ?_, fun j hj => ?_⟩
  · by_cases e : j = st.length
    · rw [e, getD_hi]
      have := a (st.length - 1) (by omega)
      omega
    · rw [getD_lo (by omega)]
      exact a j (by omega)
  · by_cases e : j + 1 = st.length
    · rw [e, getD_hi, getD_lo (by omega), show st.length - 1 = j from by omega]
      omega
    · rw [getD_lo (by omega), getD_lo (by omega)]
      exact b j (by omega)
theorem row_of {st : List Int} {n p : Nat} {g : Int} (h : StOk st n) (h1 : 1 ≤ p) (h2 : p ≤ n) (hn : n ≤ 4) (hg : 0 ≤ g ∧ g ≤ 2000) (he : st.getD (n - 1) 0 - st.getD (n - p) 0 ≤ g) : RowB st p g := by
  obtain ⟨rfl, a, b⟩ := h
  refine ⟨h1, h2, by omega, by omega, fun i hi => ?_, b, hg, ?_⟩
  · have := a i hi
    omega
  · rw [vAt_high (by omega), show st.length + 1 - st.length + p - 1 = p from by omega, Nat.div_self (by omega), show st.length + 1 - 1 * p - 1 = st.length - p from by omega]
    omega
section
variable {P : Program} {w : World} {K : PySem.W.Frag} {mg : Str → Option Value} {base : Heap}
def rLenK (K : PySem.W.Frag) : List V → Hp → VK → Prop := fun xs H Q => ∃ p ys, xs = [.ref p] ∧ (SqL K H p ys ∨ SqT K H p ys) ∧ Q (.int (ys.length : Nat)) H
theorem call_lenK {X : Cx} {K : PySem.W.Frag} (h : X.K = K) : CallR X (.builtin "len") (rLenK K) := by
  subst h
  exact call_len_seq
theorem call_sumK {X : Cx} {K : PySem.W.Frag} (hc : X.calm = true) (h : X.K = K) : CallR X (.builtin "sum") (rSum K) := by
  subst h
  exact cr_sum hc
theorem sl_listK {X : Cx} {K : PySem.W.Frag} (h : X.K = K) : SlR X (rSlL K) := by
  subst h
  exact sl_list
theorem pick {r : Addr} {H H1 : Hp} {σ : L2.St} {Q : VK} (e : σ[0]? = some (some (.ref r))) (R0 : RngAt H r) (k : KeepX r H H1) (R : RngAt H1 r) (q : ∀ H' v, KeepX r H H' → RngAt H' r → GRow K H H' v → Q v H') :
    tCall spChoice [] E0 (tCons (tVar 0) (tCons (tCall (spRows K) [] E0 tNil) tNil)) σ H1 Q := by
  refine ⟨_, e, rfl, fun H2 t ys sm ht hys gs l1 l2 => ?_⟩
  refine ⟨r, t, ys, rfl, R.same sm, hys, R.ne ht, l1, l2, fun H3 y k3 R3 hy => q H3 y (k.trans ((KeepX.of sm).trans k3)) R3 ?_⟩
  exact (((gs y hy)).keep R k3).base fun t ht => k.free R0 R ht
def spRow (K : PySem.W.Frag) : Sp := fun vs H Q _ => ∃ r : Addr, vs = [.ref r] ∧ RngAt H r ∧ ∀ H' v, KeepX r H H' → RngAt H' r → GRow K H H' v → Q v H'
theorem sc_law_row : FnScope ["_law_rng_here", "_law_steps", "_law_turn", "_law_cycle", "_law_low", "_law_row_here", "_law_one"] ["_law_rng_here"] (defScope s_law_row) := ⟨rfl, rfl, rfl, by decide +kernel, rfl, by decide +kernel, by decide +kernel⟩
theorem c_law_row (T : Txt K mg) : Cal P w K mg base 3 "_law_row" (spRow K) [] := by
  obtain ⟨fd, F⟩ := T.d_law_row
  have b := FunD.bindsN (ps := ["_law_rng_here"]) F fun _ _ _ _ _ _ us hl => match us, hl with | [_], _ => rfl
  refine ⟨_, fd, ["_law_rng_here"], [], ?_, T.g_law_row, F.kp, b, .nil⟩
  refine FunD.ok F sc_law_row (fun vs H Q E h => ?_) (fun cdv A outer s H vs Q E hr h => ?_)
  · obtain ⟨r, rfl, _⟩ := h
    rfl
  · obtain ⟨r, rfl, R, q⟩ := h
    refine ⟨_, PSs.nox (pss_cons (ps_if (pt_cmpR op_gt (pe_c (c_law_draw T) hr (by decide) (by rfl) (pa_cons (pv 0) (pa_cons pe_int pa_nil))) pe_int (nomark _))
        (pss_one (ps_ret (pe_c (c_law_choice T) hr (by decide) (by rfl) (pa_cons (pv 0) (pa_cons (pe_c0 (c_law_rows T) hr (by decide) (by rfl)) pa_nil))))) pss_nil)
      (pss_cons (ps_set (i := 1) sc_law_row.nd rfl (Or.inr rfl) (pe_lst (pa_cons (pe_c (c_law_draw T) hr (by decide) (by rfl) (pa_cons (pv 0) (pa_cons pe_int pa_nil))) pa_nil)))
      (pss_cons (ps_for PassesOwn.never rfl (pi_range1 (by rfl) T.f_range (pa_cons (pe_c (c_law_draw T) hr (by decide) (by rfl) (pa_cons (pv 0) (pa_cons pe_int pa_nil))) pa_nil)) (pg_name (i := 2) sc_law_row.nd rfl (Or.inl rfl))
        (pss_one (ps_expr (pe_bm PySem.F.plainAttrs_list PySem.F.slot_list_append PySem.F.type_list_append mt_append (pv 1) (pa_cons (pe_op op_add (pe_ix ix_list (pv 1) (pe_un un_neg pe_int) (fun _ _ => rfl)) (pe_c (c_law_draw T) hr (by decide) (by rfl) (pa_cons (pv 0) (pa_cons pe_int pa_nil)))) pa_nil)))))
      (pss_cons (ps_set (i := 3) sc_law_row.nd rfl (Or.inl rfl) (pe_c (c_law_choice T) hr (by decide) (by rfl) (pa_cons (pv 0) (pa_cons
          (pe_lc (own := [("_law_one", 6)]) (g := gName 6) (by rfl) sc_law_row.nd (pi_list (pe_lst (pa_cons pe_int (pa_cons pe_int (pa_cons pe_int (pa_cons pe_int pa_nil))))))
            (blkOk_by (own := [("_law_one", 6)]) (N := ["_law_rng_here", "_law_steps", "_law_turn", "_law_cycle", "_law_low", "_law_row_here", "_law_one"]) (sc := defScope s_law_row) (by decide +kernel)) (fun _ _ _ _ _ => pg_name (i := 6) sc_law_row.nd rfl (Or.inl rfl))
            (fun _ _ _ _ _ => pts_one (pt_cmpR op_le (pv 6) (pe_callB (call_lenK (K := K) rfl) (by rfl) T.f_len PySem.boot_len (pa_cons (pv 1) pa_nil)) (nomark _)))
            (fun _ _ _ _ _ => pv 6)) pa_nil))))
      (pss_cons (ps_set (i := 4) sc_law_row.nd rfl (Or.inl rfl) (pe_op op_sub (pe_ix ix_list (pv 1) (pe_un un_neg pe_int) (fun _ _ => rfl)) (pe_ix ix_list (pe_op op_cat (pe_lst (pa_cons pe_int pa_nil)) (pv 1)) (pe_op op_sub (pe_op op_add (pe_callB call_len_seq (by rfl) T.f_len PySem.boot_len (pa_cons (pv 1) pa_nil)) pe_int) (pv 3)) (fun _ _ => rfl))))
      (pss_cons (ps_set (i := 5) sc_law_row.nd rfl (Or.inl rfl) (pe_tup (pa_cons (pv 1) (pa_cons (pv 3) (pa_cons (pe_op op_add (pe_callB (call_max2 rfl) (by rfl) T.f_max (by decide +kernel) (pa_cons pe_int (pa_cons (pv 4) pa_nil))) (pe_c (c_law_draw T) hr (by decide) (by rfl) (pa_cons (pv 0) (pa_cons pe_int pa_nil)))) pa_nil)))))
      (pss_one (ps_ret (pe_ifExp (pt_val (pe_c (c_law_is_good T) hr (by decide) (by rfl) (pa_cons (pv 5) pa_nil))) (pv 5) (pe_c (c_law_choice T) hr (by decide) (by rfl) (pa_cons (pv 0) (pa_cons (pe_c0 (c_law_rows T) hr (by decide) (by rfl)) pa_nil)))))))))))), ?_⟩
    refine ⟨_, rfl, r, 3, rfl, R, by decide, by decide, fun H1 d1 k1 R1 hd1 => ⟨_, _, rfl, rfl, _, rfl, ?_⟩⟩
    by_cases c : (d1 : Int) > 0
    · exact ifT (decide_eq_true c) (pick rfl R k1 R1 q)
    · refine ifF (decide_eq_false c) ?_
      refine ⟨_, rfl, r, 3, rfl, R1, by decide, by decide, fun H2 d2 k2 R2 hd2 => ⟨small_len (by simp) |> Nat.le_of_lt, fun s hs => ?_⟩⟩
      have sr := R2.ne hs
      have k2 := k1.trans k2
      have hs0 : H s = none := k2.free R R2 hs
      refine ⟨_, rfl, r, 4, rfl, R2.upd sr, by decide, by decide, fun H3 d3 k3 R3 hd3 => ⟨d3, rfl, by omega, by omega, ?_⟩⟩
      have hs3 := k3 s _ sr upd_same
      have k3 := (keepX_new k2 hs0).trans k3
      rw [show ((d3 : Nat) : Int).toNat = d3 from by omega]
      refine for_it walk_range (fun i σ H' => ∃ x2, σ = [some (.ref r), some (.ref s), x2, none, none, none, none] ∧ KeepX r H H' ∧ RngAt H' r ∧ ∃ st, H' s = some (.lst (st.map V.int)) ∧ StOk st (1 + i)) ⟨none, rfl, k3, R3, [(d2 : Int)], hs3, rfl, fun j hj => ?_, fun j hj => by omega⟩ (fun _ _ _ _ _ => trivial) ?_ ?_
      · obtain rfl : j = 0 := by omega
        show (0 : Int) ≤ d2 ∧ (d2 : Int) ≤ 2 + (0 : Nat)
        omega
      · rintro i x σ H4 H5 hi ⟨x2, rfl, k4, R4, st, hst, ok⟩ ⟨hH5, rfl⟩
        rw [hH5]
        clear hH5 H5
        have hlen := ok.1
        refine ⟨_, rfl, .inl ⟨rfl, _, SqL.of hst⟩, _, rfl, _, rfl, s, _, _, _, rfl, rfl, SqL.of hst, at_neg (j := st.length - 1) (by omega) (by omega), ?_⟩
        refine ⟨_, rfl, r, 2, rfl, R4, by decide, by decide, fun H5 d5 k5 R5 hd5 => ⟨_, _, rfl, rfl, s, _, _, rfl, rfl, k5 s _ sr hst, small_len (by rw [List.length_map]; omega), ?_⟩⟩
        refine ⟨_, rfl, keepX_new (k4.trans k5) hs0, R5.upd sr, st ++ [st.getD (1 + i - 1) 0 + d5], ?_, ok.more (by omega) (by omega)⟩
        rw [upd_same, hlen, List.map_append]
        rfl
      · rintro σ H4 ⟨x2, rfl, k4, R4, st, hst, ok⟩
        obtain ⟨n, hn⟩ : ∃ n, n = 1 + d3 := ⟨_, rfl⟩
        rw [← hn] at ok
        have hlen := ok.1
        have n1 : 1 ≤ n := by omega
        have n4 : n ≤ 4 := by omega
        -- cycle
        refine ⟨_, rfl, small_len (by simp) |> Nat.le_of_lt, fun l hl => ⟨l, rfl, ⟨_, SqL.of upd_same⟩, fun D hD => ?_⟩⟩
        have lr := R4.ne hl
        have k5 : KeepX r H (upd H4 l (.lst [V.int 1, V.int 2, V.int 3, V.int 4])) := keepX_new k4 (k4.free R R4 hl)
        have R5 : RngAt (upd H4 l (.lst [V.int 1, V.int 2, V.int 3, V.int 4])) r := R4.upd lr
        have hl5 : (upd H4 l (.lst [V.int 1, V.int 2, V.int 3, V.int 4])) l = some (.lst [V.int 1, V.int 2, V.int 3, V.int 4]) := upd_same
        have hs5 : (upd H4 l (.lst [V.int 1, V.int 2, V.int 3, V.int 4])) s = some (.lst (st.map V.int)) := (upd_ne (ne_of_none hst hl)).trans hst
        generalize upd H4 l (.lst [V.int 1, V.int 2, V.int 3, V.int 4]) = H5 at k5 R5 hl5 hs5 hD ⊢
        have Dr := R5.ne hD
        have hD0 : H D = none := k5.free R R5 hD
        refine lc_list (K := K) (a := l) (xs := [V.int 1, V.int 2, V.int 3, V.int 4]) (fun i H' => ∃ os : List Nat, H' = upd H5 D (.lst (os.map fun n : Nat => V.int (n : Int))) ∧ os.length ≤ i ∧ (∀ o ∈ os, 1 ≤ o ∧ o ≤ n) ∧ (1 ≤ i → os ≠ [])) ⟨[], rfl, Nat.le_refl _, fun o ho => absurd ho List.not_mem_nil, fun h => by omega⟩
          (fun i H' _ ⟨os, e, _⟩ => by rw [e]; exact SqL.of ((upd_ne (ne_of_none hl5 hD)).trans hl5)) ?_ ?_
        · rintro i x H' hx ⟨os, rfl, hol, ho, hne⟩
          have hi4 : i < 4 := by
            have := (List.getElem?_eq_some_iff.mp hx).1
            simpa using this
          obtain rfl : V.int ((i + 1 : Nat) : Int) = x := by
            rcases (by omega : i = 0 ∨ i = 1 ∨ i = 2 ∨ i = 3) with e | e | e | e <;> subst e <;> exact Option.some.inj hx
          refine ⟨rfl, ?_⟩
          refine ⟨_, rfl, _, rfl, s, _, rfl, .inl (SqL.of ((upd_ne (ne_of_none hs5 hD)).trans hs5)), _, _, rfl, rfl, _, rfl, ?_⟩
          rw [List.length_map, hlen]
          by_cases c : i + 1 ≤ n
          · refine ifT (decide_eq_true (by omega)) ?_
            refine ⟨_, rfl, _, upd_same, small_len (by rw [List.length_map]; omega), os ++ [i + 1], ?_, ?_, ?_, fun _ => by simp⟩
            · rw [upd_upd]
              simp
            · rw [List.length_append, List.length_singleton]
              omega
            · intro o h'
              rcases List.mem_append.mp h' with h' | h'
              · exact ho o h'
              · rw [List.mem_singleton.mp h']
                omega
          · refine ifF (decide_eq_false (by omega)) ?_
            exact ⟨os, rfl, by omega, ho, fun _ => hne (by omega)⟩
        · rintro H' ⟨os, rfl, hol, ho, hne⟩
          have hD' : upd H5 D (.lst (os.map fun n : Nat => V.int (n : Int))) D = some (.lst (os.map fun n : Nat => V.int (n : Int))) := upd_same
          have k6 := keepX_new (o := .lst (os.map fun n : Nat => V.int (n : Int))) k5 hD0
          have R6 := R5.upd (o := .lst (os.map fun n : Nat => V.int (n : Int))) Dr
          have hs6 : upd H5 D (.lst (os.map fun n : Nat => V.int (n : Int))) s = some (.lst (st.map V.int)) := (upd_ne (ne_of_none hs5 hD)).trans hs5
          generalize upd H5 D (.lst (os.map fun n : Nat => V.int (n : Int))) = H6 at hD' k6 R6 hs6 ⊢
          have ole : 1 ≤ os.length := by
            have := hne (by decide)
            cases os with
            | nil => exact absurd rfl this
            | cons _ _ => simp
          refine ⟨r, D, _, rfl, R6, hD', Dr, by rw [List.length_map]; exact ole, by rw [List.length_map]; simp at hol; omega, fun H7 y k7 R7 hy => ?_⟩
          obtain ⟨p, hp, rfl⟩ := List.mem_map.mp hy
          obtain ⟨p1, pn⟩ := ho p hp
          have hs7 := k7 s _ sr hs6
          have k7 := k6.trans k7
          -- low
          refine ⟨_, rfl, _, rfl, s, _, _, _, rfl, rfl, SqL.of hs7, at_neg (j := st.length - 1) (by omega) (by omega), small_len (by simp) |> Nat.le_of_lt, fun z hz => ?_⟩
          have zr := R7.ne hz
          refine ⟨_, rfl, z, s, _, _, rfl, rfl, upd_same, (upd_ne (ne_of_none hs7 hz)).trans hs7, small_len (by simp; omega) |> Nat.le_of_lt, fun y hy => ?_⟩
          have k8 := keepX_new (o := .lst [V.int 0]) k7 (k7.free R R7 hz)
          have R8 := R7.upd (o := .lst [V.int 0]) zr
          have hs8 : upd H7 z (.lst [V.int 0]) s = some (.lst (st.map V.int)) := (upd_ne (ne_of_none hs7 hz)).trans hs7
          generalize upd H7 z (.lst [V.int 0]) = H8 at k8 R8 hs8 hy ⊢
          have k9 := keepX_new (o := .lst ([V.int 0] ++ st.map V.int)) k8 (k8.free R R8 hy)
          have R9 := R8.upd (o := .lst ([V.int 0] ++ st.map V.int)) (R8.ne hy)
          have hs9 : upd H8 y (.lst ([V.int 0] ++ st.map V.int)) s = some (.lst (st.map V.int)) := (upd_ne (ne_of_none hs8 hy)).trans hs8
          have hy9 : upd H8 y (.lst ([V.int 0] ++ st.map V.int)) y = some (.lst ((0 :: st).map V.int)) := upd_same
          generalize upd H8 y (.lst ([V.int 0] ++ st.map V.int)) = H9 at k9 R9 hs9 hy9 ⊢
          refine ⟨_, rfl, s, _, rfl, .inl (SqL.of hs9), _, _, rfl, rfl, _, rfl, _, _, rfl, rfl, y, _, _, _, rfl, rfl, SqL.of hy9, at_int (i := n + 1 - p) (by rw [List.length_map]; omega) (by rw [List.length_cons]; omega), _, _, rfl, rfl, ?_⟩
          have el : (0 :: st).getD (n + 1 - p) 0 = st.getD (n - p) 0 := by
            rw [show n + 1 - p = (n - p) + 1 from by omega]
            rfl
          rw [el, hlen]
          -- the row
          refine ⟨_, rfl, _, rfl, _, rfl, _, _, rfl, ?_⟩
          rw [maxE]
          refine ⟨_, rfl, r, 2, rfl, R9, by decide, by decide, fun H10 d10 k10 R10 hd10 => ⟨_, _, rfl, rfl, small_len (by simp) |> Nat.le_of_lt, fun t ht => ?_⟩⟩
          have hs10 := k10 s _ sr hs9
          have k10 := k9.trans k10
          obtain ⟨g, hg⟩ : ∃ g, g = max 0 (st.getD (n - 1) 0 - st.getD (n - p) 0) + (d10 : Int) := ⟨_, rfl⟩
          dsimp only
          rw [← hg]
          have b1 := ok.2.1 (n - 1) (by omega)
          have b2 := ok.2.1 (n - p) (by omega)
          have RB : RowB st p g := row_of ok p1 pn n4 (by omega) (by omega)
          have k11 := keepX_new (o := .tup [.ref s, .int p, .int g]) k10 (k10.free R R10 ht)
          have R11 := R10.upd (o := .tup [.ref s, .int p, .int g]) (R10.ne ht)
          have row : RowAt K (upd H10 t (.tup [.ref s, .int p, .int g])) t s st p g := ⟨upd_same, (upd_ne (ne_of_none hs10 ht)).trans hs10⟩
          generalize upd H10 t (.tup [.ref s, .int p, .int g]) = H11 at k11 R11 row ⊢
          refine ⟨_, rfl, t, s, st, p, g, rfl, row, p1, by omega, by omega, fun b hb => ⟨b, rfl, ?_⟩⟩
          cases b with
          | false => exact iteF (pick rfl R k11 R11 q)
          | true => exact iteT ⟨_, rfl, q H11 _ k11 R11 ⟨t, s, st, p, g, rfl, row, hs0, k10.free R R10 ht, RB, hb rfl⟩⟩
/-! ### a record that keeps -/
def spKept (K : PySem.W.Frag) : Sp := fun vs H Q _ => ∃ (r tr a : Addr) (fv : List Int) (p : Nat) (g : Int) (n : Nat), vs = [.ref r, .ref tr, .int n] ∧ RngAt H r ∧ RowAt K H tr a fv p g ∧ a ≠ r ∧ RowB fv p g ∧ n ≤ 120 ∧
  ∀ (H' : Hp) (t : Addr) (xs : List Int), KeepX r H H' → RngAt H' r → H t = none → H' t = some (.lst (xs.map V.int)) → Keeps (vAt fv p g) xs → (∀ x ∈ xs, 0 ≤ x) → xs.length = n → Q (.ref t) H'
theorem sc_law_kept : FnScope ["_law_rng_here", "_law_row_here", "_law_span", "_law_found", "_law_often", "_law_k", "_law_room_here"] ["_law_rng_here", "_law_row_here", "_law_span"] (defScope s_law_kept) := ⟨rfl, rfl, rfl, by decide +kernel, rfl, by decide +kernel, by decide +kernel⟩
theorem c_law_kept (T : Txt K mg) : Cal P w K mg base 3 "_law_kept" (spKept K) [] := by
  obtain ⟨fd, F⟩ := T.d_law_kept
  have b := FunD.bindsN (ps := ["_law_rng_here", "_law_row_here", "_law_span"]) F fun _ _ _ _ _ _ us hl => match us, hl with | [_, _, _], _ => rfl
  refine ⟨_, fd, ["_law_rng_here", "_law_row_here", "_law_span"], [], ?_, T.g_law_kept, F.kp, b, .nil⟩
  refine FunD.ok F sc_law_kept (fun vs H Q E h => ?_) (fun cdv A outer s H vs Q E hr h => ?_)
  · obtain ⟨r, tr, a, fv, p, g, n, rfl, _⟩ := h
    rfl
  · obtain ⟨r, tr, a, fv, p, g, n, rfl, R, row, ar, RB, hn, q⟩ := h
    refine ⟨_, PSs.nox (pss_cons (ps_par (by rfl) sc_law_kept.nd (i := 3) (j := 4) rfl rfl (by decide) rfl rfl (pa_cons (pe_lst pa_nil) (pa_cons (pe_op op_add pe_int (pe_c (c_law_draw T) hr (by decide) (by rfl) (pa_cons (pv 0) (pa_cons pe_int pa_nil)))) pa_nil)) (by rfl))
      (pss_cons (ps_for PassesOwn.never rfl (pi_range1 (by rfl) T.f_range (pa_cons (pv 2) pa_nil)) (pg_name (i := 5) sc_law_kept.nd rfl (Or.inl rfl))
        (pss_cons (ps_set (i := 6) sc_law_kept.nd rfl (Or.inl rfl) (pe_c (c_law_room T) hr (by decide) (by rfl) (pa_cons (pv 1) (pa_cons (pv 3) pa_nil))))
        (pss_one (ps_expr (pe_bm PySem.F.plainAttrs_list PySem.F.slot_list_append PySem.F.type_list_append mt_append (pv 3) (pa_cons
          (pe_ix ix_list (pe_lst (pa_cons (pv 6) (pa_cons (pe_c (c_law_draw T) hr (by decide) (by rfl) (pa_cons (pv 0) (pa_cons (pe_op op_add (pv 6) pe_int) pa_nil))) pa_nil)))
            (pe_callTy call_int1 (by rfl) T.f_int boot_int (pa_cons (pe_cmpR op_eq (pe_c (c_law_draw T) hr (by decide) (by rfl) (pa_cons (pv 0) (pa_cons (pv 4) pa_nil))) pe_int (nomark _)) pa_nil)) (fun _ _ => rfl)) pa_nil))))))
      (pss_one (ps_ret (pv 3))))), ?_⟩
    obtain ⟨f, hf⟩ : ∃ f, f = vAt fv p g := ⟨_, rfl⟩
    rw [← hf] at q
    have f0 : f 0 = 0 := by rw [hf]; exact vAt_zero _ _ _
    have fm : Mono f := by rw [hf]; exact RB.mono
    have fb : f 1 ≤ 4000 := by
      rw [hf]
      have := RB.bound 1
      omega
    have f1 : 0 ≤ f 1 := by
      have := fm 0
      rw [f0] at this
      exact this
    refine ⟨small_len (by simp) |> Nat.le_of_lt, fun t ht => ?_⟩
    have tr' := R.ne ht
    refine ⟨_, rfl, r, 3, rfl, R.upd tr', by decide, by decide, fun H1 d1 k1 R1 hd1 => ⟨_, _, rfl, rfl, _, _, rfl, ?_⟩⟩
    have ht1 := k1 t _ tr' upd_same
    have k1 := (keepX_new (KeepX.refl r H) ht).trans k1
    refine ⟨_, rfl, n, rfl, by omega, by omega, ?_⟩
    rw [show ((n : Nat) : Int).toNat = n from by omega]
    refine for_it walk_range (fun i σ H' => ∃ x5 x6, σ = [some (.ref r), some (.ref tr), some (.int n), some (.ref t), some (.int (1 + (d1 : Nat))), x5, x6] ∧ KeepX r H H' ∧ RngAt H' r ∧ ∃ xs, H' t = some (.lst (xs.map V.int)) ∧ Keeps f xs ∧ (∀ x ∈ xs, 0 ≤ x) ∧ xs.length = i)
      ⟨none, none, rfl, k1, R1, [], ht1, keeps_nil f0, (fun x hx => absurd hx List.not_mem_nil), rfl⟩ (fun _ _ _ _ _ => trivial) ?_ ?_
    · rintro i x σ H2 H3 hi ⟨x5, x6, rfl, k2, R2, xs, hxs, hk, hnn, hlx⟩ ⟨hH3, rfl⟩
      rw [hH3]
      clear hH3 H3
      have row2 := row.keep k2 R ar
      have p1 := RB.p1
      have pn := RB.pn
      have n24 := RB.n24
      refine ⟨_, rfl, _, rfl, tr, a, t, fv, p, g, xs, rfl, row2, p1, pn, by omega, hxs, by omega, fun H3 sm3 => ?_⟩
      rw [← hf]
      have R3 := R2.same sm3
      have ht3 := sm3 _ _ hxs
      have k3 := k2.trans (KeepX.of sm3)
      obtain ⟨M, hM⟩ : ∃ M, M = mayEnter f xs := ⟨_, rfl⟩
      rw [← hM]
      have M0 : 0 ≤ M := by rw [hM]; exact mayEnter_nn f xs
      have M1 : M ≤ 4000 := by
        rw [hM]
        exact Int.le_trans (room_bound f1) fb
      refine ⟨_, rfl, .inl ⟨rfl, _, SqL.of ht3⟩, ?_⟩
      refine ⟨_, rfl, _, rfl, _, rfl, _, _, rfl, rfl, r, _, rfl, R3, by omega, by omega, fun H4 d4 k4 R4 hd4 => ⟨small_len (by simp) |> Nat.le_of_lt, fun z hz => ?_⟩⟩
      have ht4 := k4 t _ tr' ht3
      have k4 := k3.trans k4
      have zr := R4.ne hz
      have k5 := keepX_new (o := .lst [V.int M, V.int d4]) k4 (k4.free R R4 hz)
      have R5 := R4.upd (o := .lst [V.int M, V.int d4]) zr
      have ht5 : upd H4 z (.lst [V.int M, V.int d4]) t = some (.lst (xs.map V.int)) := (upd_ne (ne_of_none ht4 hz)).trans ht4
      have hz5 : upd H4 z (.lst [V.int M, V.int d4]) z = some (.lst [V.int M, V.int d4]) := upd_same
      generalize upd H4 z (.lst [V.int M, V.int d4]) = H5 at k5 R5 ht5 hz5 ⊢
      refine ⟨_, rfl, _, rfl, r, _, rfl, R5, by omega, by omega, fun H6 d6 k6 R6 hd6 => ⟨rfl, .inr ⟨_, rfl, ?_⟩⟩⟩
      have ht6 := k6 t _ tr' ht5
      have hz6 := k6 z _ zr hz5
      have k6 := k5.trans k6
      have fin : ∀ y : Int, 0 ≤ y → y ≤ M → rAppend (.ref t) [.int y] H6 fun _ H' => ∃ x5 x6, [some (V.ref r), some (V.ref tr), some (V.int n), some (V.ref t), some (V.int (1 + (d1 : Nat))), some (V.int (0 + (i : Nat))), some (V.int M)] = [some (.ref r), some (.ref tr), some (.int n), some (.ref t), some (.int (1 + (d1 : Nat))), x5, x6] ∧ KeepX r H H' ∧ RngAt H' r ∧ ∃ xs, H' t = some (.lst (xs.map V.int)) ∧ Keeps f xs ∧ (∀ x ∈ xs, 0 ≤ x) ∧ xs.length = i + 1 := fun y y0 y1 => by
        refine ⟨t, _, _, rfl, rfl, ht6, small_len (by rw [List.length_map]; omega), _, _, rfl, keepX_new k6 ht, R6.upd tr', xs ++ [y], ?_, keeps_room f0 fm hk (by rw [← hM]; exact y1), ?_, ?_⟩
        · rw [upd_same, List.map_append]
          rfl
        · intro x hx
          rcases List.mem_append.mp hx with h | h
          · exact hnn x h
          · rw [List.mem_singleton.mp h]
            exact y0
        · rw [List.length_append, hlx]
          rfl
      by_cases e : d6 = 0
      · subst e
        exact ⟨z, _, _, .int d4, rfl, rfl, SqL.of hz6, rfl, fin d4 (by omega) (by omega)⟩
      · have : decide (V.int (d6 : Nat) = V.int 0) = false := by
          simp [e]
        rw [this]
        exact ⟨z, _, _, .int M, rfl, rfl, SqL.of hz6, rfl, fin M M0 (Int.le_refl _)⟩
    · rintro σ H2 ⟨x5, x6, rfl, k2, R2, xs, hxs, hk, hnn, hlx⟩
      exact ⟨_, rfl, q H2 t xs k2 R2 ht hxs hk hnn hlx⟩
/-! ### sums -/
def cums (xs : List Int) (n : Nat) : List Int := (List.range n).map fun k => pre xs (k + 1)
theorem cums_length (xs : List Int) (n : Nat) : (cums xs n).length = n := by simp [cums]
theorem cums_succ (xs : List Int) (n : Nat) : cums xs (n + 1) = cums xs n ++ [pre xs (n + 1)] := by
  unfold cums
  rw [List.range_succ, List.map_append]
  rfl
def spLSums : Sp := fun vs H Q _ => ∃ (u : Addr) (xs : List Int), vs = [.ref u] ∧ H u = some (.lst (xs.map V.int)) ∧ xs.length ≤ 400 ∧ ∀ (H' : Hp) (t : Addr), Same H H' → H t = none → H' t = some (.lst ((cums xs xs.length).map V.int)) → Q (.ref t) H'
theorem sc_law_sums : FnScope ["_law_units", "_law_k"] ["_law_units"] (defScope s_law_sums) := ⟨rfl, rfl, rfl, by decide +kernel, rfl, by decide +kernel, by decide +kernel⟩
theorem c_law_sums (T : Txt K mg) : Cal P w K mg base 1 "_law_sums" spLSums [] := by
  obtain ⟨fd, F⟩ := T.d_law_sums
  have b := FunD.bindsN (ps := ["_law_units"]) F fun _ _ _ _ _ _ us hl => match us, hl with | [_], _ => rfl
  refine ⟨_, fd, ["_law_units"], [], ?_, T.g_law_sums, F.kp, b, .nil⟩
  refine FunD.ok F sc_law_sums (fun vs H Q E h => ?_) (fun cdv A outer s H vs Q E hr h => ?_)
  · obtain ⟨u, xs, rfl, _⟩ := h
    rfl
  · obtain ⟨u, xs, rfl, hu, hn, q⟩ := h
    refine ⟨_, PSs.nox (pss_one (ps_ret (pe_lc (own := [("_law_k", 1)]) (g := gName 1) (by rfl) sc_law_sums.nd (pi_range1 (by rfl) T.f_range (pa_cons (pe_callB call_len_seq (by rfl) T.f_len PySem.boot_len (pa_cons (pv 0) pa_nil)) pa_nil))
          (blkOk_by (own := [("_law_k", 1)]) (N := ["_law_units", "_law_k"]) (sc := defScope s_law_sums) (by decide +kernel)) (fun _ _ _ _ _ => pg_name (i := 1) sc_law_sums.nd rfl (Or.inl rfl))
          (fun _ _ _ _ _ => pts_nil)
          (fun _ _ _ _ _ => pe_callB (call_sumK (K := K) rfl rfl) (by rfl) T.f_sum (by decide +kernel) (pa_cons (pe_slice (sl_listK (K := K) rfl) (pv 0) po_none (po_some (pe_op op_add (pv 1) pe_int))) pa_nil))))), ?_⟩
    refine ⟨_, rfl, u, _, rfl, .inl (SqL.of hu), ?_⟩
    rw [List.length_map]
    refine ⟨_, rfl, by omega, by omega, ?_⟩
    rw [show ((xs.length : Nat) : Int).toNat = xs.length from by omega]
    refine fun D hD => lc_range (lo := 0) (n := xs.length) (fun i H' => Same H H' ∧ H' D = some (.lst ((cums xs i).map V.int))) ⟨same_upd hD, upd_same⟩ ?_ ?_
    · rintro i H' hi ⟨sm, hD'⟩
      refine ⟨rfl, ?_⟩
      dsimp only [tYes]
      refine iteT ?_
      refine ⟨_, rfl, _, rfl, _, _, rfl, rfl, _, rfl, u, _, rfl, SqL.of (sm _ _ hu), fun l hl => ?_⟩
      rw [cut_hi (i := i + 1) (by omega) (by omega)]
      refine ⟨l, _, rfl, SqL.of upd_same, _, (upd_ne (ne_of_none hD' hl)).trans hD', small_len (by rw [List.length_map, cums_length]; omega), same_set (sm.trans (same_upd hl)) hD, ?_⟩
      rw [upd_same, cums_succ, List.map_append]
      rfl
    · rintro H' ⟨sm, hD'⟩
      exact q H' D sm hD hD'
end
end K23

/-! ## W11 -/
namespace K23
open PySem PySem.Spec PyProof.Rows L2
open C8 (Cal Met Mak pe_c pe_mk pe_mt pe_mt0)
theorem bad_list (a c : Int) (k : Nat) : (List.replicate k [V.int a]).flatten ++ [V.int c] = (badV a c k).map V.int := by
  unfold badV
  rw [List.map_append, List.map_replicate]
  congr 1
  induction k with
  | zero => rfl
  | succ k ih => rw [List.replicate_succ, List.flatten_cons, ih, List.replicate_succ]; rfl
/-- the list of breaks begins with (1, k) -/
def Head (H : Hp) (k : Nat) (ys : List V) : Prop := ∃ z rest, ys = V.ref z :: rest ∧ H z = some (.tup [.int 1, .int k])
theorem Head.same {H H' : Hp} {k : Nat} {ys : List V} (h : Head H k ys) (s : Same H H') : Head H' k ys := by
  obtain ⟨z, rest, h1, h2⟩ := h
  exact ⟨z, rest, h1, s _ _ h2⟩
section
variable {P : Program} {w : World} {K : PySem.W.Frag} {mg : Str → Option Value} {base : Heap}
/-! ### a curve that is not good -/
def spBad (K : PySem.W.Frag) : Sp := fun vs H Q _ => ∃ r : Addr, vs = [.ref r] ∧ RngAt H r ∧ ∀ (H' : Hp) (t s z : Addr) (a c : Int) (k : Nat), KeepX r H H' → RngAt H' r → H t = none → H s = none → H' t = some (.tup [.ref s, .ref z]) → H' s = some (.lst ((badV a c k).map V.int)) →
  H' z = some (.tup [.int 1, .int k]) → 0 < a → 2 * a < c → c ≤ 2000 → 1 ≤ k → k ≤ 3 → Q (.ref t) H'
theorem sc_law_bad : FnScope ["_law_rng_here", "_law_first", "_law_more", "_law_steps", "_law_breaks", "_law_total", "_law_s"] ["_law_rng_here"] (defScope s_law_bad) := ⟨rfl, rfl, rfl, by decide +kernel, rfl, by decide +kernel, by decide +kernel⟩
theorem c_law_bad (T : Txt K mg) : Cal P w K mg base 2 "_law_bad" (spBad K) [] := by
  obtain ⟨fd, F⟩ := T.d_law_bad
  have b := FunD.bindsN (ps := ["_law_rng_here"]) F fun _ _ _ _ _ _ us hl => match us, hl with | [_], _ => rfl
  refine ⟨_, fd, ["_law_rng_here"], [], ?_, T.g_law_bad, F.kp, b, .nil⟩
  refine FunD.ok F sc_law_bad (fun vs H Q E h => ?_) (fun cdv A outer s H vs Q E hr h => ?_)
  · obtain ⟨r, rfl, _⟩ := h
    rfl
  · obtain ⟨r, rfl, R, q⟩ := h
    refine ⟨_, PSs.nox (pss_cons (ps_par (by rfl) sc_law_bad.nd (i := 1) (j := 2) rfl rfl (by decide) rfl rfl (pa_cons (pe_op op_add pe_int (pe_c (c_law_draw T) hr (by decide) (by rfl) (pa_cons (pv 0) (pa_cons pe_int pa_nil)))) (pa_cons (pe_op op_add pe_int (pe_c (c_law_draw T) hr (by decide) (by rfl) (pa_cons (pv 0) (pa_cons pe_int pa_nil)))) pa_nil)) (by rfl))
      (pss_cons (ps_set (i := 3) sc_law_bad.nd rfl (Or.inl rfl) (pe_op op_cat (pe_op op_rep (pe_lst (pa_cons (pv 1) pa_nil)) (pe_op op_add pe_int (pe_c (c_law_draw T) hr (by decide) (by rfl) (pa_cons (pv 0) (pa_cons pe_int pa_nil))))) (pe_lst (pa_cons (pe_op op_add (pe_op op_mul pe_int (pv 1)) (pv 2)) pa_nil))))
      (pss_cons (ps_set (i := 4) sc_law_bad.nd rfl (Or.inl rfl) (pe_lst pa_nil))
      (pss_cons (ps_for PassesOwn.never rfl (pi_range2 (by rfl) T.f_range (pa_cons pe_int (pa_cons (pe_op op_add (pe_callB call_len_seq (by rfl) T.f_len PySem.boot_len (pa_cons (pv 3) pa_nil)) pe_int) pa_nil))) (pg_name (i := 5) sc_law_bad.nd rfl (Or.inl rfl))
        (pss_one (ps_for PassesOwn.never rfl (pi_range2 (by rfl) T.f_range (pa_cons pe_int (pa_cons (pe_op op_add (pe_op op_fdivN (pv 5) pe_int) pe_int) pa_nil))) (pg_name (i := 6) sc_law_bad.nd rfl (Or.inl rfl))
          (pss_one (ps_if (pt_cmpR op_gt (pe_c (c_law_at T) hr (by decide) (by rfl) (pa_cons (pe_tup (pa_cons (pv 3) (pa_cons pe_int (pa_cons pe_int pa_nil)))) (pa_cons (pv 5) pa_nil)))
              (pe_op op_add (pe_c (c_law_at T) hr (by decide) (by rfl) (pa_cons (pe_tup (pa_cons (pv 3) (pa_cons pe_int (pa_cons pe_int pa_nil)))) (pa_cons (pv 6) pa_nil)))
                (pe_c (c_law_at T) hr (by decide) (by rfl) (pa_cons (pe_tup (pa_cons (pv 3) (pa_cons pe_int (pa_cons pe_int pa_nil)))) (pa_cons (pe_op op_sub (pv 5) (pv 6)) pa_nil)))) (nomark _))
            (pss_one (ps_expr (pe_bm PySem.F.plainAttrs_list PySem.F.slot_list_append PySem.F.type_list_append mt_append (pv 4) (pa_cons (pe_tup (pa_cons (pv 6) (pa_cons (pe_op op_sub (pv 5) (pv 6)) pa_nil))) pa_nil)))) pss_nil)))))
      (pss_one (ps_ret (pe_tup (pa_cons (pv 3) (pa_cons (pe_ix ix_list (pv 4) pe_int (fun _ _ => rfl)) pa_nil))))))))), ?_⟩
    refine ⟨_, rfl, r, 3, rfl, R, by decide, by decide, fun H1 d1 k1 R1 hd1 => ⟨_, _, rfl, rfl, ?_⟩⟩
    refine ⟨_, rfl, r, 3, rfl, R1, by decide, by decide, fun H2 d2 k2 R2 hd2 => ⟨_, _, rfl, rfl, _, _, rfl, ?_⟩⟩
    have k2 := k1.trans k2
    obtain ⟨a, ha⟩ : ∃ a : Int, a = 1 + (d1 : Int) := ⟨_, rfl⟩
    obtain ⟨m, hm⟩ : ∃ m : Int, m = 1 + (d2 : Int) := ⟨_, rfl⟩
    dsimp only
    rw [← ha, ← hm]
    refine ⟨_, rfl, small_len (by simp) |> Nat.le_of_lt, fun l1 hl1 => ?_⟩
    have l1r := R2.ne hl1
    have k3 := keepX_new (o := .lst [V.int a]) k2 (k2.free R R2 hl1)
    have R3 := R2.upd (o := .lst [V.int a]) l1r
    have h13 : upd H2 l1 (.lst [V.int a]) l1 = some (.lst [V.int a]) := upd_same
    generalize upd H2 l1 (.lst [V.int a]) = H3 at k3 R3 h13 ⊢
    refine ⟨_, rfl, r, 3, rfl, R3, by decide, by decide, fun H4 d4 k4 R4 hd4 => ⟨_, _, rfl, rfl, ?_⟩⟩
    have h14 := k4 _ _ l1r h13
    have k4 := k3.trans k4
    obtain ⟨k, hk⟩ : ∃ k : Nat, k = 1 + d4 := ⟨_, rfl⟩
    have ek : (1 : Int) + (d4 : Int) = (k : Int) := by omega
    dsimp only
    rw [ek]
    refine ⟨l1, k, _, rfl, rfl, h14, by omega, by omega, small_len (by simp; omega) |> Nat.le_of_lt, fun l2 hl2 => ?_⟩
    rw [show ((k : Nat) : Int).toNat = k from by omega]
    have k5 := keepX_new (o := .lst (List.replicate k [V.int a]).flatten) k4 (k4.free R R4 hl2)
    have R5 := R4.upd (o := .lst (List.replicate k [V.int a]).flatten) (R4.ne hl2)
    have h25 : upd H4 l2 (.lst (List.replicate k [V.int a]).flatten) l2 = some (.lst (List.replicate k [V.int a]).flatten) := upd_same
    generalize upd H4 l2 (.lst (List.replicate k [V.int a]).flatten) = H5 at k5 R5 h25 ⊢
    refine ⟨_, rfl, _, _, rfl, rfl, .inl ⟨by decide, by decide⟩, _, rfl, _, _, rfl, rfl, ?_⟩
    obtain ⟨c, hc⟩ : ∃ c : Int, c = 2 * a + m := ⟨_, rfl⟩
    dsimp only
    rw [← hc]
    refine ⟨small_len (by simp) |> Nat.le_of_lt, fun l3 hl3 => ?_⟩
    refine ⟨l2, l3, _, _, rfl, rfl, (upd_ne (ne_of_none h25 hl3)).trans h25, upd_same, small_len (by simp; omega) |> Nat.le_of_lt, fun s hs => ?_⟩
    have k6 := keepX_new (o := .lst [V.int c]) k5 (k5.free R R5 hl3)
    have R6 := R5.upd (o := .lst [V.int c]) (R5.ne hl3)
    generalize upd H5 l3 (.lst [V.int c]) = H6 at k6 R6 hs ⊢
    rw [bad_list]
    have hs0 := k6.free R R6 hs
    have k7 := keepX_new (o := .lst ((badV a c k).map V.int)) k6 hs0
    have R7 := R6.upd (o := .lst ((badV a c k).map V.int)) (R6.ne hs)
    have hs7 : upd H6 s (.lst ((badV a c k).map V.int)) s = some (.lst ((badV a c k).map V.int)) := upd_same
    generalize upd H6 s (.lst ((badV a c k).map V.int)) = H7 at k7 R7 hs7 ⊢
    refine ⟨small_len (by simp) |> Nat.le_of_lt, fun tb htb => ?_⟩
    have sm8 : Same H7 (upd H7 tb (.lst [])) := same_upd htb
    have htb8 : upd H7 tb (.lst []) tb = some (.lst []) := upd_same
    generalize upd H7 tb (.lst []) = H8 at sm8 htb8 ⊢
    refine ⟨_, rfl, s, _, rfl, .inl (SqL.of (sm8 _ _ hs7)), _, _, rfl, rfl, _, _, rfl, by rw [List.length_map, badV_length]; exact ⟨by omega, by omega, by omega, by omega⟩, ?_⟩
    rw [List.length_map, badV_length, show ((((k + 1 : Nat) : Int) + 2) - 2).toNat = k + 1 from by omega]
    obtain ⟨f, hf⟩ : ∃ f, f = vAt (badV a c k) 1 0 := ⟨_, rfl⟩
    have k1' : 1 ≤ k := by omega
    have k3' : k ≤ 3 := by omega
    refine for_it walk_range (fun i σ H' => ∃ x5 x6 ys, σ = [some (.ref r), some (.int a), some (.int m), some (.ref s), some (.ref tb), x5, x6] ∧ Same H7 H' ∧ H' tb = some (.lst ys) ∧ ys.length ≤ i * 10 ∧ (2 + i ≤ k + 1 → ys = []) ∧ (k + 1 < 2 + i → Head H' k ys)) ⟨none, none, [], rfl, sm8, htb8, by simp, fun _ => rfl, fun h => by omega⟩ (fun _ _ _ _ _ => trivial) ?_ ?_
    · rintro i x σ H9 H10 hi ⟨x5, x6, ys, rfl, sm9, hy9, hl9, n9, p9⟩ ⟨hH, rfl⟩
      rw [hH]
      clear hH H10
      refine ⟨_, rfl, _, _, rfl, rfl, ⟨by decide, by decide⟩, _, _, rfl, rfl, ?_⟩
      have e1 : ((2 : Int) + i).fdiv 2 = ((2 + i) / 2 : Nat) := by
        rw [Int.fdiv_eq_ediv_of_nonneg _ (by decide)]
        omega
      rw [e1]
      refine ⟨_, _, rfl, ⟨by omega, by omega, by omega, by omega⟩, ?_⟩
      refine for_it walk_range (fun j σ H' => ∃ x6 ys, σ = [some (.ref r), some (.int a), some (.int m), some (.ref s), some (.ref tb), some (.int (2 + (i : Nat))), x6] ∧ Same H7 H' ∧ H' tb = some (.lst ys) ∧ ys.length ≤ i * 10 + j ∧ (2 + i ≤ k → ys = []) ∧ (2 + i = k + 1 → j = 0 → ys = []) ∧ (2 + i = k + 1 → 1 ≤ j → Head H' k ys) ∧ (k + 1 < 2 + i → Head H' k ys))
        ⟨x6, ys, rfl, sm9, hy9, by omega, fun h => n9 (by omega), fun h _ => n9 (by omega), fun _ h => by omega, p9⟩ (fun _ _ _ _ _ => trivial) ?_ ?_
      · rintro j x σ H10 H11 hj ⟨x6, ys, rfl, sm10, hy10, hl10, n10, m10, o10, p10⟩ ⟨hH, rfl⟩
        rw [hH]
        clear hH H11
        have hsx := sm10 _ _ hs7
        refine ⟨_, rfl, small_len (by simp) |> Nat.le_of_lt, fun t1 h1 => ⟨_, rfl, t1, s, badV a c k, 1, 2 + i, 0, by simp [Int.natCast_add], SqT.of upd_same, SqL.of ((upd_ne (ne_of_none hsx h1)).trans hsx), by omega, by rw [badV_length]; omega, by omega, by omega, ?_⟩⟩
        have sm11 : Same H10 (upd H10 t1 (.tup [V.ref s, V.int 1, V.int 0])) := same_upd h1
        generalize upd H10 t1 (.tup [V.ref s, V.int 1, V.int 0]) = H11 at sm11 ⊢
        have hsx := sm11 _ _ hsx
        refine ⟨_, rfl, small_len (by simp) |> Nat.le_of_lt, fun t2 h2 => ⟨_, rfl, t2, s, badV a c k, 1, 1 + j, 0, by simp [Int.natCast_add], SqT.of upd_same, SqL.of ((upd_ne (ne_of_none hsx h2)).trans hsx), by omega, by rw [badV_length]; omega, by omega, by omega, ?_⟩⟩
        have sm12 : Same H10 (upd H11 t2 (.tup [V.ref s, V.int 1, V.int 0])) := sm11.trans (same_upd h2)
        have hsx : upd H11 t2 (.tup [V.ref s, V.int 1, V.int 0]) s = _ := (upd_ne (ne_of_none hsx h2)).trans hsx
        generalize upd H11 t2 (.tup [V.ref s, V.int 1, V.int 0]) = H12 at sm12 hsx ⊢
        refine ⟨_, rfl, small_len (by simp) |> Nat.le_of_lt, fun t3 h3 => ⟨_, rfl, _, rfl, _, _, rfl, rfl, t3, s, badV a c k, 1, 2 + i - (1 + j), 0, ?_, SqT.of upd_same, SqL.of ((upd_ne (ne_of_none hsx h3)).trans hsx), by omega, by rw [badV_length]; omega, by omega, by omega, ?_⟩⟩
        · have : ((2 : Int) + i - (1 + j)) = ((2 + i - (1 + j) : Nat) : Int) := by omega
          simp [this]
        have sm13 : Same H10 (upd H12 t3 (.tup [V.ref s, V.int 1, V.int 0])) := sm12.trans (same_upd h3)
        generalize upd H12 t3 (.tup [V.ref s, V.int 1, V.int 0]) = H13 at sm13 ⊢
        refine ⟨_, _, rfl, rfl, _, _, rfl, rfl, _, rfl, ?_⟩
        have hy13 := sm13 _ _ hy10
        by_cases c1 : vAt (badV a c k) 1 0 (2 + i) > vAt (badV a c k) 1 0 (1 + j) + vAt (badV a c k) 1 0 (2 + i - (1 + j))
        · have big : k + 1 ≤ 2 + i := by
            refine Nat.le_of_not_lt fun z => ?_
            rw [bad_at_lo (l := 2 + i) (by omega) (by omega), bad_at_lo (l := 1 + j) (by omega) (by omega), bad_at_lo (l := 2 + i - (1 + j)) (by omega) (by omega)] at c1
            omega
          refine ifT (decide_eq_true c1) ?_
          refine ⟨_, rfl, .inl ⟨rfl, _, SqL.of hy13⟩, _, rfl, _, rfl, _, rfl, _, _, rfl, rfl, small_len (by simp) |> Nat.le_of_lt, fun z hz => ?_⟩
          have hy14 : upd H13 z (.tup [V.int (1 + (j : Nat)), V.int (2 + (i : Nat) - (1 + (j : Nat)))]) tb = some (.lst ys) := (upd_ne (ne_of_none hy13 hz)).trans hy13
          refine ⟨tb, _, _, rfl, rfl, hy14, small_len (by omega), ?_⟩
          have sm14 : Same H10 (upd H13 z (.tup [V.int (1 + (j : Nat)), V.int (2 + (i : Nat) - (1 + (j : Nat)))])) := sm13.trans (same_upd hz)
          have hz14 : upd H13 z (.tup [V.int (1 + (j : Nat)), V.int (2 + (i : Nat) - (1 + (j : Nat)))]) z = some (.tup [V.int (1 + (j : Nat)), V.int (2 + (i : Nat) - (1 + (j : Nat)))]) := upd_same
          generalize upd H13 z (.tup [V.int (1 + (j : Nat)), V.int (2 + (i : Nat) - (1 + (j : Nat)))]) = H14 at hy14 sm14 hz14 ⊢
          have old : Head H10 k ys → Head (upd H14 tb (.lst (ys ++ [V.ref z]))) k (ys ++ [V.ref z]) := fun ⟨z', rest, e, hz'⟩ => ⟨z', rest ++ [V.ref z], by rw [e]; rfl, by
            rw [upd_ne (fun e => by rw [e, hy10] at hz'; cases hz')]
            exact sm14 _ _ hz'⟩
          refine ⟨_, ys ++ [V.ref z], rfl, same_set (sm10.trans sm14) htb, upd_same, ?_, fun h => by omega, fun h h0 => absurd h0 (by omega), fun h _ => ?_, fun h => old (p10 h)⟩
          · rw [List.length_append, List.length_singleton]
            omega
          · by_cases j0 : j = 0
            · subst j0
              rw [m10 h rfl]
              refine ⟨z, [], rfl, ?_⟩
              rw [upd_ne (fun e => by rw [e, hy14] at hz14; cases hz14), hz14]
              have e2 : (2 : Int) + (i : Nat) - (1 + (0 : Nat)) = (k : Int) := by omega
              rw [e2]
              rfl
            · exact old (o10 h (by omega))
        · refine ifF (decide_eq_false c1) ?_
          refine ⟨_, ys, rfl, sm10.trans sm13, hy13, by omega, n10, fun h h0 => absurd h0 (by omega), fun h _ => ?_, fun h => (p10 h).same sm13⟩
          exfalso
          apply c1
          rw [bad_at_hi (l := 2 + i) (by omega), bad_at_lo (l := 1 + j) (by omega) (by omega), bad_at_lo (l := 2 + i - (1 + j)) (by omega) (by omega)]
          omega
      · rintro σ H10 ⟨x6, ys, rfl, sm10, hy10, hl10, n10, m10, o10, p10⟩
        refine ⟨_, _, ys, rfl, sm10, hy10, by omega, fun h => n10 (by omega), fun h => ?_⟩
        by_cases e : 2 + i = k + 1
        · exact o10 e (by omega)
        · exact p10 (by omega)
    · rintro σ H9 ⟨x5, x6, ys, rfl, sm9, hy9, hl9, n9, p9⟩
      obtain ⟨z, rest, rfl, hz⟩ := p9 (by omega)
      refine ⟨_, rfl, _, rfl, tb, _, _, .ref z, rfl, rfl, SqL.of hy9, atI_nat (j := 0) rfl, small_len (by simp) |> Nat.le_of_lt, fun t ht => ?_⟩
      have k9 := k7.trans (KeepX.of sm9)
      have R9 := R7.same sm9
      have t0 := k9.free R R9 ht
      exact q _ t s z a c k (keepX_new k9 t0) (R9.upd (R9.ne ht)) t0 hs0 upd_same ((same_upd ht) _ _ (sm9 _ _ hs7)) ((same_upd ht) _ _ hz) (by omega) (by omega) (by omega) k1' k3'
end
end K23

/-! ## W12 -/
namespace K23
open PySem PySem.Spec PyProof.Rows L2
open C8 (Cal Met Mak pe_c pe_mk pe_mt pe_mt0)
theorem kbindsN {K : PySem.W.Frag} {x qual : Str} {params : Arguments} {body : List Stmt} {scope : Scope} {f : Addr} {fd : FuncData} {ps : List Str} (F : FunD K x qual params body scope [] [] f fd) (n : Nat) (ks : List Str) (g : {α : Type} → List α → List α → List α)
    (hrel : ∀ {vs zs : List V} {us ws : List Value}, Vals vs us → Vals zs ws → Vals (g vs zs) (g us ws))
    (h : ∀ (kV doc pm : Value) (an : Option Addr) (cdv ct : Value) (us ws : List Value), us.length = n → ws.length = ks.length → bindArgs (PySem.W.fnOf x qual params body scope .none kV doc pm an cdv ct) ⟨us, ks.zip ws⟩ = pure (ps.zip (g us ws))) :
    KBn K fd ps n ks (fun us ws => g us ws) (fun vs zs => g vs zs) := by
  obtain ⟨oc, od, dV, kV, doc, pm, an, cdv, ct, osl, rfl, lk, hcd, hD, hK⟩ := F.ex
  rcases hD with ⟨_, rfl⟩ | ⟨e, _⟩
  · exact ⟨fun s us ws X l1 l2 => .of_eq (h kV doc pm an cdv ct us ws l1 l2), fun r1 r2 => hrel r1 r2⟩
  · exact absurd rfl e
/-- two keywords, swapped, behind the positional ones -/
def swp {α : Type} (us : List α) (ws : List α) : List α := us ++ (ws.drop 1 ++ ws.take 1)
theorem swp_rel {vs zs : List V} {us ws : List Value} (r : Vals vs us) (q : Vals zs ws) : Vals (swp vs zs) (swp us ws) := by
  cases q with
  | nil => exact r.append .nil
  | cons h t => exact r.append (Vals.append t (.cons h .nil))
section
variable {P : Program} {w : World} {K : PySem.W.Frag} {mg : Str → Option Value} {base : Heap}
theorem kb_greedy (T : Txt K mg) {fd : FuncData} (F : Fn K "greedy" "greedy" s_greedy [] [] (He.ga K "greedy") fd) : KBn K fd ["curve", "ticks"] 0 ["ticks", "curve"] (fun us ws => swp us ws) (fun vs zs => swp vs zs) :=
  kbindsN F 0 ["ticks", "curve"] swp swp_rel fun _ _ _ _ _ _ us ws h1 h2 => match us, ws, h1, h2 with | [], [_, _], _, _ => rfl
theorem kb_police (T : Txt K mg) {fd : FuncData} (F : Fn K "__init__" "Police.__init__" s_Police_init [] [("queue", V.int 60)] (He.ma K (He.ga K "Police") "__init__") fd) :
    ∃ mv : List Value, KBn K fd ["self", "curve", "queue"] 1 ["queue", "curve"] (fun us ws => swp us ws) (fun vs zs => swp vs zs) :=
  FunD.kbinds0 F 1 ["queue", "curve"] [] (fun us _ ws => swp us ws) (by simp) (fun q hq => absurd hq List.not_mem_nil) (fun r _ q => swp_rel r q)
    fun D doc pm an cdv ct us mv ws h1 h2 h3 => match us, mv, ws, h1, h2, h3 with | [_], [], [_, _], _, _, _ => rfl
theorem kb_curve (T : Txt K mg) {fd : FuncData} (F : Fn K "__init__" "Curve.__init__" s_Curve_init [] [("period", V.int 1), ("gain", V.int 0)] (He.ma K (He.ga K "Curve") "__init__") fd) :
    ∃ mv : List Value, KBn K fd ["self", "values", "period", "gain"] 2 ["period", "gain"] (fun us ws => us ++ ws) (fun vs zs => vs ++ zs) :=
  FunD.kbinds0 F 2 ["period", "gain"] [] (fun us _ ws => us ++ ws) (by simp) (fun q hq => absurd hq List.not_mem_nil) (fun r _ q => r.append q)
    fun D doc pm an cdv ct us mv ws h1 h2 h3 => match us, mv, ws, h1, h2, h3 with | [_, _], [], [_, _], _, _, _ => rfl
theorem b_curve (T : Txt K mg) {fd : FuncData} (F : Fn K "__init__" "Curve.__init__" s_Curve_init [] [("period", V.int 1), ("gain", V.int 0)] (He.ma K (He.ga K "Curve") "__init__") fd) :
    ∃ ds, Vals [V.int 1, V.int 0] ds ∧ L2.Binds K fd ["self", "values", "period", "gain"] ds :=
  FunD.binds0 (ps := ["self", "values", "period", "gain"]) F 2 (by simp) rfl (fun D doc pm an cdv ct us ks h1 h2 => match us, ks, h1, h2 with | [_, _], [_, _], _, _ => ⟨_, _, _, _, _, _, rfl, rfl, _, _, _, _, _, _, rfl, rfl, rfl⟩)
/-- Curve(v), by the defaults -/
theorem mk_curve (T : Txt K mg) : Mak P w K mg base 4 "Curve" (cvA K) (spCInit K) [.int 1, .int 0] := by
  obtain ⟨fd, F⟩ := T.d_Curve_init
  obtain ⟨ds, hd, b⟩ := b_curve T F
  exact ⟨_, fd, ["self", "values", "period", "gain"], ds, T.mkC, ok_Curve_init T F, T.g_Curve, b, hd⟩
section
variable {X : Cx} {j : Nat} {p pos : Pos} {e : Expr} {es : List Expr} {kws : List Keyword} {t tk : TA}
/-- Curve(v, period = .., gain = ..) -/
theorem pe_curve (T : Txt X.K X.mg) (hr : Room j X.A) (hk : 5 ≤ j) (hg : Gl X "Curve") (ha : PA X (e :: es) t) (hkw : PK X kws tk)
    (hall : (backToKw pos (keywordEach kws X.env)).all (·.1.isSome) = true := by rfl) (hks : (backToKw pos (keywordEach kws X.env)).filterMap (·.1) = (["period", "gain"] : List Str) := by rfl)
    (he : starEach (e :: es) X.env = (false, eval e X.env) :: starEach es X.env := by rfl) (hpl : ((backTo pos (starEach (e :: es) X.env)).any (·.1) || (backToKw pos (keywordEach kws X.env)).any (·.1.isNone)) = false := by rfl) :
    PE X (.Call (.Name "Curve" p) (e :: es) kws pos) (tMakeK (cvA X.K) 1 2 (spCInit X.K) (fun vs zs => vs ++ zs) E0 t tk) := by
  obtain ⟨fd, F⟩ := T.d_Curve_init
  obtain ⟨mv, kb⟩ := kb_curve T F
  exact pe_makeK T.mkC (ok_Curve_init T F) (hr.mono hk) hg T.g_Curve kb pass0 ha hkw hall hks (by decide) he hpl
/-- Police(queue = .., curve = ..) -/
theorem pe_police (T : Txt X.K X.mg) (hr : Room j X.A) (hk : 7 ≤ j) (hg : Gl X "Police") (hkw : PK X kws tk)
    (hall : (backToKw pos (keywordEach kws X.env)).all (·.1.isSome) = true := by rfl) (hks : (backToKw pos (keywordEach kws X.env)).filterMap (·.1) = (["queue", "curve"] : List Str) := by rfl)
    (hpl : ((backTo pos (starEach [] X.env)).any (·.1) || (backToKw pos (keywordEach kws X.env)).any (·.1.isNone)) = false := by rfl) :
    PE X (.Call (.Name "Police" p) [] kws pos) (tMakeK (poA X.K) 0 2 (spPInit X.K) (fun vs zs => swp vs zs) E0 tNil tk) := by
  obtain ⟨fd, F⟩ := T.d_Police_init
  obtain ⟨mv, kb⟩ := kb_police T F
  exact pe_makeK0 T.mkP (ok_Police_init T F) (hr.mono hk) hg T.g_Police kb pass0 hkw hall hks (by decide) hpl
/-- greedy(ticks = .., curve = ..) -/
theorem pe_greedyK (T : Txt X.K X.mg) (hr : Room j X.A) (hk : 6 ≤ j) (hg : Gl X "greedy") (hkw : PK X kws tk)
    (hall : (backToKw pos (keywordEach kws X.env)).all (·.1.isSome) = true := by rfl) (hks : (backToKw pos (keywordEach kws X.env)).filterMap (·.1) = (["ticks", "curve"] : List Str) := by rfl)
    (hpl : ((backTo pos (starEach [] X.env)).any (·.1) || (backToKw pos (keywordEach kws X.env)).any (·.1.isNone)) = false := by rfl) :
    PE X (.Call (.Name "greedy" p) [] kws pos) (tCallN 0 2 (spGreedy X.K) (fun vs zs => swp vs zs) E0 tNil tk) := by
  obtain ⟨fd, F⟩ := T.d_greedy
  exact pe_callN0 (ok_greedy T F) (hr.mono hk) hg T.g_greedy F.kp (kb_greedy T F) pass0 hkw hall hks (by decide) hpl
end
/-! ### a police that lets a flood in -/
def spPoliced (K : PySem.W.Frag) : Sp := fun vs H Q _ => ∃ (c la : Addr) (f : Nat → Int) (m n : Nat) (F : Int), vs = [.ref c, .int n, .int F] ∧ CvAt K f m la H c ∧ Sub f ∧ Mono f ∧ f n ≤ F ∧ n ≤ 400 ∧ ∀ (H' : Hp) (t : Addr), Same H H' → H t = none → H' t = some (.lst ((due f n).map V.int)) → Q (.ref t) H'
theorem sc_law_policed : FnScope ["_law_line", "_law_span", "_law_flood", "_law_police", "_law_tick"] ["_law_line", "_law_span", "_law_flood"] (defScope s_law_policed) := ⟨rfl, rfl, rfl, by decide +kernel, rfl, by decide +kernel, by decide +kernel⟩
theorem c_law_policed (T : Txt K mg) : Cal P w K mg base 8 "_law_policed" (spPoliced K) [] := by
  obtain ⟨fd, F⟩ := T.d_law_policed
  have b := FunD.bindsN (ps := ["_law_line", "_law_span", "_law_flood"]) F fun _ _ _ _ _ _ us hl => match us, hl with | [_, _, _], _ => rfl
  refine ⟨_, fd, ["_law_line", "_law_span", "_law_flood"], [], ?_, T.g_law_policed, F.kp, b, .nil⟩
  refine FunD.ok F sc_law_policed (fun vs H Q E h => ?_) (fun cdv A outer s H vs Q E hr h => ?_)
  · obtain ⟨c, la, f, m, n, F, rfl, _⟩ := h
    rfl
  · obtain ⟨c, la, f, m, n, Fl, rfl, cv, hs, hm, hF, hn, q⟩ := h
    refine ⟨_, PSs.nox (pss_cons (ps_set (i := 3) sc_law_policed.nd rfl (Or.inl rfl) (pe_police T hr (by decide) (by rfl) (pk_cons (pv 2) (pk_cons (pv 0) pk_nil))))
      (pss_cons (ps_for PassesOwn.never rfl (pi_range1 (by rfl) T.f_range (pa_cons (pv 1) pa_nil)) (pg_name (i := 4) sc_law_policed.nd rfl (Or.inl rfl))
        (pss_one (ps_expr (pe_mt (m_step T) hr (by decide) (pv 3) (pa_cons (pe_ix ix_list (pe_lst (pa_cons pe_int (pa_cons (pv 2) pa_nil))) (pe_callTy call_int1 (by rfl) T.f_int boot_int (pa_cons (pe_cmpR op_eq (pv 4) pe_int (nomark _)) pa_nil)) (fun _ _ => rfl)) pa_nil)))))
      (pss_one (ps_ret (pe_mt0 (m_record T) hr (by decide) (pv 3)))))), ?_⟩
    have f0 := cv.zero
    have fnn : ∀ l, 0 ≤ f l := fun l => mono_nn hm f0 l
    have hFn := fnn n
    refine ⟨_, rfl, _, rfl, rfl, rfl, fun x dx hx hdx ndx => ?_⟩
    have sm1 : Same H (upd (upd H dx (.own x)) x (.ins (poA K) dx [])) := fun b o e => by
      rw [upd_ne (ne_of_none e hx), upd_ne (ne_of_none e hdx)]
      exact e
    refine ⟨x, dx, c, la, Fl, f, m, rfl, upd_same, by omega, cv.same sm1, hs, fun H1 e h1 he po => ?_⟩
    have he0 : H e = none := sm1.free he
    have sm2 : Same H H1 := fun b o e => h1 b o (ne_of_none e hx) (sm1 b o e)
    refine ⟨rfl, ?_⟩
    refine ⟨_, rfl, n, rfl, by omega, by omega, ?_⟩
    rw [show ((n : Nat) : Int).toNat = n from by omega]
    refine for_it walk_range (fun i σ H' => ∃ x4, σ = [some (.ref c), some (.int n), some (.int Fl), some (.ref x), x4] ∧ Same H H' ∧ ∃ op, PoAt K c Fl (wtAt Fl f i) 0 e (due f i) op H' x) ⟨none, rfl, sm2, false, po⟩ (fun _ _ _ _ _ => trivial) ?_ ?_
    · rintro i y σ H2 H3 hi ⟨x4, rfl, sm, op, pa⟩ ⟨hH, rfl⟩
      rw [hH]
      clear hH H3
      obtain ⟨dx', hx2, he2⟩ := pa
      refine ⟨_, rfl, x, dx', _, rfl, hx2, rfl, ?_⟩
      refine ⟨_, rfl, small_len (by simp) |> Nat.le_of_lt, fun z hz => ⟨_, rfl, rfl, .inr ⟨_, rfl, ?_⟩⟩⟩
      have hz3 : upd H2 z (.lst [V.int 0, V.int Fl]) z = some (.lst [V.int 0, V.int Fl]) := upd_same
      have sm3 : Same H2 (upd H2 z (.lst [V.int 0, V.int Fl])) := same_upd hz
      generalize upd H2 z (.lst [V.int 0, V.int Fl]) = H3 at hz3 sm3 ⊢
      have pa3 : PoAt K c Fl (wtAt Fl f i) 0 e (due f i) op H3 x := ⟨dx', sm3 _ _ hx2, sm3 _ _ he2⟩
      have go : ∀ u : Int, wtAt Fl f i + u = Fl - f i → 0 ≤ u → spStep K [.ref x, .int u, .int 0, .bl false] H3 (fun _ H' => ∃ x4, [some (V.ref c), some (V.int n), some (V.int Fl), some (V.ref x), some (V.int (0 + (i : Nat)))] = [some (V.ref c), some (V.int n), some (V.int Fl), some (V.ref x), x4] ∧ Same H H' ∧ ∃ op, PoAt K c Fl (wtAt Fl f (i + 1)) 0 e (due f (i + 1)) op H' x) E0 := fun u eu u0 => by
        refine ⟨x, c, la, e, Fl, wtAt Fl f i, 0, u, due f i, op, f, m, rfl, pa3, u0, (cv.same sm).same sm3, by rw [due_length]; omega, fun H4 t k4 p4 => ⟨_, rfl, fun b o hb => k4 b o (ne_of_none hb hx) (ne_of_none hb he0) (sm3 _ _ (sm _ _ hb)), true, ?_⟩⟩
        rw [due_may f0 hm hs, eu] at p4
        have l1 : f (i + 1) ≤ Fl := Int.le_trans (mono_le hm (by omega)) hF
        have l2 : f i ≤ f (i + 1) := hm i
        have l3 := fnn (i + 1)
        have e1 : min (Fl - f i) (f (i + 1) - f i + 0) = f (i + 1) - f i := by omega
        rw [e1] at p4
        have e2 : min (Fl - f i - (f (i + 1) - f i)) Fl = wtAt Fl f (i + 1) := by
          unfold wtAt
          rw [if_neg (by omega)]
          omega
        have e3 : wtAt Fl f (i + 1) = Fl - f i - (f (i + 1) - f i) := by
          unfold wtAt
          rw [if_neg (by omega)]
          omega
        rw [e2] at p4
        have e4 : 0 + (Fl - f i - (f (i + 1) - f i) - wtAt Fl f (i + 1)) = 0 := by omega
        rw [e4, ← due_succ] at p4
        exact p4
      by_cases e0 : i = 0
      · subst e0
        refine ⟨z, _, _, .int Fl, rfl, rfl, SqL.of hz3, rfl, go Fl ?_ (by omega)⟩
        unfold wtAt
        rw [if_pos rfl, f0]
        omega
      · have : decide (V.int (0 + (i : Nat)) = V.int 0) = false := by
          simp [e0]
        rw [this]
        refine ⟨z, _, _, .int 0, rfl, rfl, SqL.of hz3, rfl, go 0 ?_ (by omega)⟩
        unfold wtAt
        rw [if_neg e0]
        omega
    · rintro σ H2 ⟨x4, rfl, sm, op, dx', hx2, he2⟩
      refine ⟨_, rfl, x, dx', _, rfl, hx2, rfl, x, c, e, _, _, _, _, op, rfl, ⟨dx', hx2, he2⟩, fun t ht => ?_⟩
      exact q _ t (sm.trans (same_upd ht)) (sm.free ht) upd_same
end
end K23

/-! ## W13 -/
namespace K23
open PySem PySem.Spec PyProof.Rows L2
open C8 (Cal Met Mak pe_c pe_mk pe_mt pe_mt0)
theorem reB_ok {K : PySem.W.Frag} {C : Addr} (h : reB K C = true) : ∃ nm q N bs sn sub ab col dd k0 k1 k2 k3 k5, K.lookup C = some (excClassObj nm q C N bs reTail true sn sub ab col dd k0 k1 k2 k3 k5 "RuntimeError.__new__") := by
  unfold reB at h
  split at h
  · rename_i dd cd sl e
    split at h
    · rename_i D a b c d k0 k1 k2 k3 n k5 hm hs
      simp only [Bool.and_eq_true, decide_eq_true_eq, Bool.not_eq_true'] at h
      obtain ⟨rfl, rfl, h1, h2, rfl, rfl, rfl, rfl⟩ := h
      obtain ⟨nm, bs, mro, ns, q, hd, sn, sub, ab, col, hdl⟩ := cd
      dsimp only at hm h1 h2
      subst hm h1 h2
      obtain ⟨sl⟩ := sl
      dsimp only at hs
      subst hs
      exact ⟨nm, q, ns, bs, sn, sub, ab, col, dd, k0, k1, k2, k3, k5, e⟩
    · cases h
  · cases h
theorem re_vV {K : PySem.W.Frag} : PySem.W.findCls K (.type "RuntimeError") (.type "type") "__init__" = some (.val (.builtin "RuntimeError.__init__")) := by
  first
    | rfl
    | kernel_rfl
    | decide +kernel
section
variable {P : Program} {w : World} {K : PySem.W.Frag} {mg : Str → Option Value} {base : Heap}
theorem reC_of (T : Txt K mg) : ReC K (ngC K) where
  cls := reB_ok (ex_at T.ex 0 rfl)
  sa := He.eqO_ok (ex_at T.ex 1 rfl)
  exC := of_decide_eq_true (ex_at T.ex 2 rfl)
  tyC := of_decide_eq_true (ex_at T.ex 3 rfl)
  kC := ex_at T.ex 4 rfl
/-! ### NotGood.__init__ -/
def spNG (K : PySem.W.Frag) : Sp := fun vs H Q _ => ∃ (a : Addr) (x y : Int), vs = [.ref a, .int x, .int y] ∧ x.natAbs < 1000 ∧ y.natAbs < 1000 ∧ H a = some (exo a (ngC K) none) ∧
  ∀ (H' : Hp) (d : Addr), (∀ b o, b ≠ a → H b = some o → H' b = some o) → H d = none → H' a = some (exo a (ngC K) (some d)) → H' d = some (exd d [("second", .int y), ("first", .int x)]) → Q .non H'
theorem sc_NotGood_init : FnScope ["self", "first", "second"] ["self", "first", "second"] (defScope s_NotGood_init) := ⟨rfl, rfl, rfl, by decide +kernel, rfl, by decide +kernel, by decide +kernel⟩
theorem txt_len {i : Int} (h : i.natAbs < 1000) : (Str.ofString (toString i)).length ≤ 1002 := by
  have := PyProof.Rows.len_str_of_int i
  omega
theorem log_small {i : Int} (h : i.natAbs < 1000) : i.natAbs.log2 < 1920 := by
  have : i.natAbs.log2 ≤ i.natAbs := Nat.log2_le_self _
  omega
theorem ok_NotGood_init (T : Txt K mg) {fd : FuncData} (F : Fn K "__init__" "NotGood.__init__" s_NotGood_init [] [] (He.ma K (He.ga K "NotGood") "__init__") fd) :
    FnOk P w K mg base CX0 1 (He.ma K (He.ga K "NotGood") "__init__") fd ["self", "first", "second"] (spNG K) := by
  refine FunD.ok F sc_NotGood_init (fun vs H Q E h => ?_) (fun cdv A outer s H vs Q E hr h => ?_)
  · obtain ⟨a, x, y, rfl, _⟩ := h
    rfl
  · obtain ⟨a, x, y, rfl, hx, hy, ha, q⟩ := h
    refine ⟨_, PSs.nox (pss_cons (ps_expr (pe_reinit (by rfl) T.f_RuntimeError re_vV (pa_cons (pv 0) (pa_cons (pe_joined (.cons pe_str (.cons (pe_fmtR (pv 1)) (.cons pe_str (.cons (pe_fmtR (pv 2)) .nil))))) pa_nil))))
      (pss_cons (ps_rst (pv 0) (pv 1)) (pss_one (ps_rst (pv 0) (pv 2))))), ?_⟩
    have lx := txt_len hx
    have ly := txt_len hy
    have sl : sizeLine = 16777216 := sizeLine_eq
    refine ⟨_, rfl, _, rfl, ?_, _, rfl, .inr ⟨x, rfl, log_small hx, _, rfl, ?_, _, rfl, ?_, _, rfl, .inr ⟨y, rfl, log_small hy, _, rfl, ?_, ?_⟩⟩⟩
    · decide +kernel
    · rw [PySem.Str.length_append]
      have : (Str.empty ++ Str.ofString "not good: ").length = 10 := by decide +kernel
      omega
    · rw [PySem.Str.length_append, PySem.Str.length_append]
      have : (Str.empty ++ Str.ofString "not good: ").length = 10 := by decide +kernel
      have : (Str.ofString ", ").length = 2 := by decide +kernel
      omega
    · rw [PySem.Str.length_append, PySem.Str.length_append, PySem.Str.length_append]
      have : (Str.empty ++ Str.ofString "not good: ").length = 10 := by decide +kernel
      have : (Str.ofString ", ").length = 2 := by decide +kernel
      omega
    refine ⟨a, ngC K, _, rfl, by simp, reC_of T, ha, ?_⟩
    refine ⟨_, rfl, _, rfl, a, ngC K, rfl, reC_of T, He.eqO_ok (ex_at T.ex 5 rfl), .inl ⟨ha, fun d hd hda => ?_⟩⟩
    refine ⟨_, rfl, _, rfl, a, ngC K, rfl, reC_of T, He.eqO_ok (ex_at T.ex 6 rfl), .inr ⟨d, _, upd_same, (upd_ne hda).trans upd_same, (show 1 ≤ 900 by decide), ?_⟩⟩
    refine q _ d (fun b o hb e => ?_) hd ((upd_ne (Ne.symm hda)).trans upd_same) upd_same
    have nd := ne_of_none e hd
    rw [upd_ne nd, upd_ne hb, upd_ne nd]
    exact e
/-! ### require_good, greedy, of a curve that is not good -/
def NotG (f : Nat → Int) (m : Nat) : Prop := ¬ ∀ b o, 2 ≤ b → b ≤ 2 * m → max 1 (b - m) ≤ o → o ≤ b / 2 → f b ≤ f o + f (b - o)
def OutNG (K : PySem.W.Frag) (f : Nat → Int) (m : Nat) (H : Hp) (E : XK) : Prop := ∀ (b o : Nat), FBr f m b o → ∀ (H' : Hp) (d : Addr), Same H H' → H d = none → H' d = some (.xd [("second", .int ((b : Int) - o)), ("first", .int o)]) → E (.ref (ngC K)) (some d) H'
def spRGX (K : PySem.W.Frag) : Sp := fun vs H _ E => ∃ (c la : Addr) (f : Nat → Int) (m : Nat), vs = [.ref c] ∧ CvAt K f m la H c ∧ NotG f m ∧ OutNG K f m H E
theorem b_ng (T : Txt K mg) {fd : FuncData} (F : Fn K "__init__" "NotGood.__init__" s_NotGood_init [] [] (He.ma K (He.ga K "NotGood") "__init__") fd) : L2.Binds K fd ["self", "first", "second"] [] :=
  FunD.bindsN (ps := ["self", "first", "second"]) F fun _ _ _ _ _ _ us hl => match us, hl with | [_, _, _], _ => rfl
theorem ok_require_goodX (T : Txt K mg) {fd : FuncData} (F : Fn K "require_good" "require_good" s_require_good [] [] (He.ga K "require_good") fd) : FnOk P w K mg base (L2.CX P w) 5 (He.ga K "require_good") fd ["curve"] (spRGX K) := by
  obtain ⟨fdN, FN⟩ := T.d_NotGood_init
  refine FunD.ok F sc_require_good (fun vs H Q E h => ?_) (fun cdv A outer s H vs Q E hr h => ?_)
  · obtain ⟨c, la, f, m, rfl, _⟩ := h
    rfl
  · obtain ⟨c, la, f, m, rfl, cv, hn, q⟩ := h
    obtain ⟨dx, gv, qq, G, hc, hl, FF, hm⟩ := cv
    have cv : CvAt K f m la H c := ⟨dx, gv, qq, G, hc, hl, FF, hm⟩
    have hm36 : m ≤ 36 := hm ▸ FF.len
    refine ⟨_, pss_cons (ps_set (i := 1) sc_require_good.nd rfl (Or.inl rfl) (pe_mt0 (m_find_break T) hr (by decide) (pv 0)))
      (pss_one (ps_if (pt_cmpR op_notN (pv 1) pe_non (nomark _)) (pss_one (ps_raise rfl (takes_of rfl rfl rfl rfl)
        (pmk_re (reC_of T) (He.eqO_ok (ex_at T.ex 7 rfl)) (of_decide_eq_true (ex_at T.ex 8 rfl)) (ok_NotGood_init T FN) (hr.mono (by decide)) (b_ng T FN) pass0 (by rfl) T.g_NotGood (pa_cons (pe_ix ix_tup (pv 1) pe_int (fun _ _ => rfl)) (pa_cons (pe_ix ix_tup (pv 1) pe_int (fun _ _ => rfl)) pa_nil))))) pss_nil)), ?_⟩
    refine ⟨_, rfl, c, dx, _, rfl, hc, rfl, c, la, f, m, rfl, cv, fun h => absurd h hn, fun b o t fb ht => ?_⟩
    have ob : b ≤ 72 ∧ o ≤ b := by
      obtain ⟨⟨h1, h2, h3, h4, h5⟩, _⟩ := fb
      omega
    refine ⟨_, rfl, rfl, true, rfl, iteT ?_⟩
    have hT : SqT K (upd H t (.tup [.int o, .int ((b : Int) - o)])) t [.int o, .int ((b : Int) - o)] := SqT.of upd_same
    have smT : Same H (upd H t (.tup [.int o, .int ((b : Int) - o)])) := same_upd ht
    generalize upd H t (.tup [.int o, .int ((b : Int) - o)]) = H1 at hT smT ⊢
    refine ⟨_, rfl, t, _, _, .int o, rfl, rfl, hT, rfl, _, rfl, t, _, _, .int ((b : Int) - o), rfl, rfl, hT, rfl, by simp, fun a ha => ?_⟩
    refine ⟨a, o, (b : Int) - o, rfl, by omega, by omega, upd_same, fun H' d k hd hea hed => ⟨rfl, d, _, hea, hed, ?_, ?_⟩⟩
    · by_cases e : d = a
      · rw [e]
        exact ha
      · rw [upd_ne e] at hd
        exact hd
    · have hda : d ≠ a := fun e => by
        rw [e, upd_same] at hd
        cases hd
      have hd1 : H1 d = none := by
        rw [upd_ne hda] at hd
        exact hd
      refine q b o fb _ d (fun b' o' e => ?_) (smT.free hd1) upd_same
      have e1 := smT _ _ e
      have na := ne_of_none e1 ha
      rw [upd_ne (ne_of_none e1 hd1), del_ne na]
      exact k _ _ na ((upd_ne na).trans e1)
def spGreedyX (K : PySem.W.Frag) : Sp := fun vs H _ E => ∃ (c la : Addr) (f : Nat → Int) (m : Nat) (n : V), vs = [.ref c, n] ∧ CvAt K f m la H c ∧ NotG f m ∧ OutNG K f m H E
theorem ok_greedyX (T : Txt K mg) {fd : FuncData} (F : Fn K "greedy" "greedy" s_greedy [] [] (He.ga K "greedy") fd) : FnOk P w K mg base (L2.CX P w) 6 (He.ga K "greedy") fd ["curve", "ticks"] (spGreedyX K) := by
  obtain ⟨fdR, FR⟩ := T.d_require_good
  have bR := FunD.bindsN (ps := ["curve"]) FR fun _ _ _ _ _ _ us hl => match us, hl with | [_], _ => rfl
  refine FunD.ok F sc_greedy (fun vs H Q E h => ?_) (fun cdv A outer s H vs Q E hr h => ?_)
  · obtain ⟨c, la, f, m, n, rfl, _⟩ := h
    rfl
  · obtain ⟨c, la, f, m, n, rfl, cv, hn, q⟩ := h
    refine ⟨_, pss_cons (ps_expr (pe_call (ok_require_goodX T FR) (hr.mono (by decide)) (by rfl) T.g_require_good FR.kp bR .nil (passes_call (takes_of rfl rfl rfl rfl) fun _ _ _ _ h => h) (pa_cons (pv 0) pa_nil))) pss_never, ?_⟩
    exact ⟨_, rfl, c, la, f, m, rfl, cv, hn, q⟩
end
end K23

/-! ## W14 -/
namespace K23
open PySem PySem.Spec PyProof.Rows L2
open C8 (Cal Met Mak pe_c pe_mk pe_mt pe_mt0)
theorem call_isE2 {X : Cx} {K : PySem.W.Frag} {a D : Addr} {cls : Value} {d : Option Addr} {oe : Obj} {pn : List (Addr × Obj)} (hK : X.K = K) (hcl : (PySem.W.clsIn K D).isSome = true) (C : ExcC K D) (hz : Zc cls d oe) (hf : ∃ vs, oe.data = .fields vs) :
    CallR (X.suite a ((a, oe) :: pn)) (.builtin "isinstance") (fun xs H Q => cls = .ref D ∧ rIsET K D a d xs H Q) := by
  subst hK
  intro pins s σ H xs us Q I r h
  obtain ⟨e, h⟩ := h
  subst e
  exact call_isET hcl C hz hf pins s σ H xs us Q I r h
section
variable {P : Program} {w : World} {K : PySem.W.Frag} {mg : Str → Option Value} {base : Heap}
theorem excC_of (T : Txt K mg) : ExcC K (ngC K) := by
  have X := xfB_ok (ex_at T.ex 9 rfl)
  exact ⟨X.ga, X.gg, X.exC, X.hdC, He.eqO_ok (ex_at T.ex 10 rfl), He.eqO_ok (ex_at T.ex 11 rfl), of_decide_eq_true (ex_at T.ex 12 rfl), of_decide_eq_true (ex_at T.ex 13 rfl)⟩
theorem clsN_of (T : Txt K mg) : (PySem.W.clsIn K (ngC K)).isSome = true := by
  obtain ⟨nm, bs, ns, q, sn, sub, ab, col, h⟩ := (reC_of T).cd
  rw [h]
  rfl
def spRefused (K : PySem.W.Frag) : Sp := fun vs H Q _ => ∃ (s : Addr) (n : V) (a c : Int) (k : Nat), vs = [.ref s, n] ∧ H s = some (.lst ((badV a c k).map V.int)) ∧ 0 < a ∧ 2 * a < c ∧ c ≤ 2000 ∧ 1 ≤ k ∧ k ≤ 3 ∧ ∀ (H' : Hp) (t : Addr), Same H H' → H t = none → H' t = some (.tup [.int 1, .int k]) → Q (.ref t) H'
theorem sc_law_refused : FnScope ["_law_steps", "_law_span", "_law_told", "e"] ["_law_steps", "_law_span"] (defScope s_law_refused) := ⟨rfl, rfl, rfl, by decide +kernel, rfl, by decide +kernel, by decide +kernel⟩
theorem c_law_refused (T : Txt K mg) : Cal P w K mg base 7 "_law_refused" (spRefused K) [] := by
  obtain ⟨fd, F⟩ := T.d_law_refused
  obtain ⟨fdG, FG⟩ := T.d_greedy
  have b := FunD.bindsN (ps := ["_law_steps", "_law_span"]) F fun _ _ _ _ _ _ us hl => match us, hl with | [_, _], _ => rfl
  have bG := FunD.bindsN (ps := ["curve", "ticks"]) FG fun _ _ _ _ _ _ us hl => match us, hl with | [_, _], _ => rfl
  have EC := excC_of T
  have CN := clsN_of T
  have XF := xfB_ok (ex_at T.ex 9 rfl)
  have n1 : PySem.W.findIn K (.ref (ngC K)) "first" = some none := He.eqO_ok (ex_at T.ex 5 rfl)
  have n2 : PySem.W.findIn K (.ref (ngC K)) "second" = some none := He.eqO_ok (ex_at T.ex 6 rfl)
  refine ⟨_, fd, ["_law_steps", "_law_span"], [], ?_, T.g_law_refused, F.kp, b, .nil⟩
  refine FunD.ok F sc_law_refused (fun vs H Q E h => ?_) (fun cdv A outer s H vs Q E hr h => ?_)
  · obtain ⟨s, n, a, c, k, rfl, _⟩ := h
    rfl
  · obtain ⟨s, n, a, c, k, rfl, hs, ha, hc, hc2, hk, hk3, q⟩ := h
    refine ⟨_, PSs.nox (pss_cons (ps_set (i := 2) sc_law_refused.nd rfl (Or.inl rfl) pe_str)
      (pss_cons (ps_try_as (i := 3) rfl rfl sc_law_refused.nd rfl rfl ⟨rfl, by decide, .inl T.g_NotGood⟩ takes0
          (fun W pn xe tk _ => pss_one (ps_expr (pe_callS (ok_greedyX T FG) (hr.mono (by decide)) rfl T.g_greedy FG.kp bG (fun σ => passAt tk σ) (pa_cons (pe_mk (mk_curve T) hr (by decide) (by rfl) (pa_cons (pv 0) pa_nil)) (pa_cons (pv 1) pa_nil)))))
          (fun a oe cls d pn hz hf => pss_cons (ps_set (i := 2) sc_law_refused.nd rfl (Or.inl rfl) pe_str)
            (pss_one (ps_if (PW.pt (pw_and (pt_val (pe_callB (call_isE2 (K := K) (D := ngC K) rfl CN EC hz hf) (by rfl) T.f_isinstance (by decide +kernel) (pa_cons (pv 3) (pa_cons (pe_bltn (v := .ty "RuntimeError") (by rfl) T.f_RuntimeError (by decide +kernel) rfl) pa_nil))))
                (pw_and1 (pt_not (pt_val (pe_callB (call_isE2 (K := K) (D := ngC K) rfl CN EC hz hf) (by rfl) T.f_isinstance (by decide +kernel) (pa_cons (pv 3) (pa_cons (pe_tup (pa_cons (pe_glob (v := .ref (He.ga K "DueError")) (by rfl) T.g_DueError rfl) (pa_cons (pe_glob (v := .ref (He.ga K "InvalidCount")) (by rfl) T.g_InvalidCount rfl) (pa_cons (pe_glob (v := .ref (He.ga K "InvalidRecord")) (by rfl) T.g_InvalidRecord rfl) pa_nil)))) pa_nil))))))))
              (pss_one (ps_set (i := 2) sc_law_refused.nd rfl (Or.inl rfl) (pe_tup (pa_cons (pe_xf XF n1 hz hf (pv 3)) (pa_cons (pe_xf XF n2 hz hf (pv 3)) pa_nil))))) pss_nil))))
      (pss_one (ps_ret (pv 2))))), ?_⟩
    have hk' : 1 ≤ k := hk
    have RB : RowB (badV a c k) 1 0 := bad_row (by omega) (by omega) hc2 hk hk3
    refine ⟨_, rfl, fun x dx hx hdx ndx => ?_⟩
    have sm1 : Same H (upd (upd H dx (.own x)) x (.ins (cvA K) dx [])) := fun b o e => by
      rw [upd_ne (ne_of_none e hx), upd_ne (ne_of_none e hdx)]
      exact e
    refine ⟨x, dx, s, badV a c k, 1, 0, rfl, upd_same, sm1 _ _ hs, RB, fun H1 la m k1 hla cv => ⟨rfl, ?_⟩⟩
    have sm2 : Same H H1 := fun b o e => k1 b o (ne_of_none e hx) (sm1 b o e)
    have hmk : k + 1 ≤ m := by
      obtain ⟨dx', gv, qq, G, h1, h2, FF, hm⟩ := cv
      rw [← hm]
      exact bad_form ha (by omega) FF.q1 FF.ql FF.wr
    refine ⟨_, rfl, x, la, _, m, _, rfl, cv, fun hall => ?_, fun b o fb H2 d sm3 hd hD => ?_⟩
    · have := hall (k + 1) 1 (by omega) (by omega) (by omega) (by omega)
      rw [bad_at_hi (by omega), bad_at_lo (l := 1) (by omega) hk, bad_at_lo (l := k + 1 - 1) (by omega) (by omega)] at this
      omega
    obtain ⟨rfl, rfl⟩ := bad_break ha hc hk hmk fb
    refine ⟨true, of_decide_eq_true (ex_at T.ex 14 rfl), fun _ ea hea => ?_, fun z => nomatch z⟩
    refine ⟨_, rfl, rfl, d, _, true, .ty "RuntimeError", rfl, rfl, hD, .inl ⟨_, fun u h => h, of_decide_eq_true (ex_at T.ex 15 rfl)⟩, true, rfl, iteT ?_⟩
    refine ⟨_, rfl, small_len (by simp) |> Nat.le_of_lt, fun tp htp => ⟨rfl, d, _, false, .ref tp, rfl, rfl, (upd_ne (ne_of_none hD htp)).trans hD, .inr ⟨tp, _, _, rfl, upd_same, .cons (.own _) (.cons (.own _) (.cons (.own _) .nil)), of_decide_eq_true (ex_at T.ex 16 rfl)⟩, false, rfl, iteT ?_⟩⟩
    have sm4 := (sm2.trans sm3).trans (same_upd (o := .tup [V.ref (He.ga K "DueError"), V.ref (He.ga K "InvalidCount"), V.ref (He.ga K "InvalidRecord")]) htp)
    have hD4 := (same_upd (o := .tup [V.ref (He.ga K "DueError"), V.ref (He.ga K "InvalidCount"), V.ref (He.ga K "InvalidRecord")]) htp) _ _ hD
    generalize upd H2 tp (.tup [V.ref (He.ga K "DueError"), V.ref (He.ga K "InvalidCount"), V.ref (He.ga K "InvalidRecord")]) = H4 at sm4 hD4 ⊢
    refine ⟨_, rfl, rfl, rfl, d, _, .int ((1 : Nat) : Int), rfl, hD4, rfl, _, rfl, rfl, rfl, d, _, .int (((k + 1 : Nat) : Int) - (1 : Nat)), rfl, hD4, rfl, small_len (by simp) |> Nat.le_of_lt, fun t ht => ?_⟩
    refine ⟨_, rfl, q _ t (sm4.trans (same_upd ht)) (sm4.free ht) ?_⟩
    rw [upd_same]
    have e : ((k + 1 : Nat) : Int) - (1 : Nat) = (k : Int) := by omega
    rw [e]
    rfl
end
end K23

/-! ## W15 -/
namespace K23
open PySem PySem.Spec PyProof.Rows L2
/-! ### the texts of lists of numbers -/
def dI (xs : List Int) : PyData := .list (xs.map .int)
def dT (xs : List Int) : PyData := .tuple (xs.map .int)
/-- not negative, under 10^9 -/
def Sml (xs : List Int) : Prop := ∀ x ∈ xs, 0 ≤ x ∧ x < 1000000000
theorem textFrom_le {B : Nat} : ∀ (ts : List Str) (k : Nat) (acc : Str), (∀ t ∈ ts, t.length ≤ B) → (textFrom k acc ts).length ≤ acc.length + ts.length * (B + 2)
  | [], k, acc, _ => by
    show acc.length ≤ _
    omega
  | t :: r, k, acc, h => by
    have ih := textFrom_le r (k + 1) (acc ++ (if k > 0 then ", " else "" : String) ++ t) fun x hx => h x (List.mem_cons_of_mem _ hx)
    have ht := h t List.mem_cons_self
    have e : (acc ++ (if k > 0 then ", " else "" : String) ++ t).length ≤ acc.length + 2 + t.length := by
      rw [Str.length_append, Str.length_append]
      have e1 : ((", " : String) : Str).length = 2 := rfl
      have e2 : (("" : String) : Str).length = 0 := rfl
      split
      · rw [e1]
        omega
      · rw [e2]
        omega
    show (textFrom (k + 1) (acc ++ (if k > 0 then ", " else "" : String) ++ t) r).length ≤ _
    rw [List.length_cons, Nat.add_mul, Nat.one_mul]
    omega
theorem listText_le {B : Nat} {ts : List Str} (h : ∀ t ∈ ts, t.length ≤ B) : (listText ts).length ≤ ts.length * (B + 2) + 2 := by
  unfold listText
  rw [Str.length_append]
  have := textFrom_le ts 0 "[" h
  have e1 : (("[" : String) : Str).length = 1 := rfl
  have e2 : (("]" : String) : Str).length = 1 := rfl
  rw [e1] at this
  rw [e2]
  omega
theorem shownAll_ints : ∀ xs : List Int, PyData.shownAll (xs.map .int) = xs.map fun i => Str.ofString (toString i)
  | [] => by simp only [List.map_nil, PyData.shownAll]
  | x :: xs => by
    have ih := shownAll_ints xs
    simp only [List.map_cons, PyData.shownAll, PyData.shown, ih]
theorem sml_texts {xs : List Int} (h : Sml xs) : ∀ t ∈ xs.map (fun i => Str.ofString (toString i)), t.length ≤ 9 := by
  intro t ht
  obtain ⟨i, hi, rfl⟩ := List.mem_map.mp ht
  obtain ⟨h0, h1⟩ := h i hi
  exact toString_length_le h0 (by decide) (by omega)
theorem dI_len {xs : List Int} (h : Sml xs) (hl : xs.length ≤ 200) : (dI xs).shown.length ≤ 2300 := by
  unfold dI
  simp only [PyData.shown]
  rw [shownAll_ints]
  have := listText_le (sml_texts h)
  rw [List.length_map] at this
  omega
theorem dT_len {xs : List Int} (h : Sml xs) (hl : xs.length ≤ 200) : (dT xs).shown.length ≤ 2300 := by
  unfold dT
  simp only [PyData.shown]
  rw [shownAll_ints]
  have hb := sml_texts h
  generalize hts : xs.map (fun i => Str.ofString (toString i)) = ts at hb
  have hlt : ts.length ≤ 200 := by
    rw [← hts, List.length_map]
    exact hl
  have hp : ∀ us : List Str, (∀ t ∈ us, t.length ≤ 9) → piled us ≤ us.length * 11 := by
    intro us
    induction us with
    | nil => intro _; exact Nat.le_refl _
    | cons u us ih =>
      intro hu
      rw [piled_cons, List.length_cons]
      have h1 := hu u List.mem_cons_self
      have h2 := ih fun t ht => hu t (List.mem_cons_of_mem _ ht)
      omega
  have hj : (Str.join ", " ts).length ≤ piled ts := by
    by_cases e : ts = []
    · subst e
      exact Nat.le_refl _
    · have := join_length_add ts e
      omega
  have h2 := hp ts hb
  unfold tupleText
  rw [Str.length_append, Str.length_append]
  have e1 : (("(" : String) : Str).length = 1 := rfl
  have e2 : ((",)" : String) : Str).length = 2 := rfl
  have e3 : ((")" : String) : Str).length = 1 := rfl
  rw [e1]
  split
  · rw [e2]
    omega
  · rw [e3]
    omega
theorem showable_ints {xs : List Int} (h : Sml xs) : PyData.showableAll (xs.map .int) = true := by
  induction xs with
  | nil => simp only [List.map_nil, PyData.showableAll]
  | cons x xs ih =>
    have h1 := h x List.mem_cons_self
    have h2 := ih fun y hy => h y (List.mem_cons_of_mem _ hy)
    simp only [List.map_cons, PyData.showableAll, PyData.showable, h2, Bool.and_true, decide_eq_true_eq]
    have h3 : x.natAbs < 2 ^ 30 := by
      have : (2 : Nat) ^ 30 = 1073741824 := by decide
      omega
    by_cases z : x.natAbs = 0
    · rw [z]
      decide
    · have := (Nat.log2_lt z).mpr h3
      omega
theorem noDict_ints : ∀ xs : List Int, PyData.hasDictAll (xs.map .int) = false
  | [] => by simp only [List.map_nil, PyData.hasDictAll]
  | x :: xs => by
    have ih := noDict_ints xs
    simp only [List.map_cons, PyData.hasDictAll, PyData.hasDict, ih, Bool.or_self]
theorem depth_intsK : ∀ xs : List Int, PyData.depthAll (xs.map .int) = 0
  | [] => by simp only [List.map_nil, PyData.depthAll]
  | x :: xs => by
    have ih := depth_intsK xs
    simp only [List.map_cons, PyData.depthAll, PyData.depth, ih, Nat.max_self]
theorem dp_ints {K : PySem.W.Frag} {H : Hp} : ∀ xs : List Int, DpAll K H (xs.map V.int) (xs.map .int)
  | [] => .nil
  | x :: xs => .cons (.int x) (dp_ints xs)
theorem dp_I {K : PySem.W.Frag} {H : Hp} {a : Addr} {xs : List Int} (h : H a = some (.lst (xs.map V.int))) : Dp K H (.ref a) (dI xs) := .lst (SqL.of h) (dp_ints xs)
theorem dp_T {K : PySem.W.Frag} {H : Hp} {a : Addr} {xs : List Int} (h : H a = some (.tup (xs.map V.int))) : Dp K H (.ref a) (dT xs) := .tup (SqT.of h) (dp_ints xs)
theorem rep_I {K : PySem.W.Frag} {H : Hp} {a : Addr} {xs : List Int} {Q : VK} (h : H a = some (.lst (xs.map V.int))) (s : Sml xs) (hl : xs.length ≤ 200) (q : Q (.str (dI xs).shown) H) : rRepr K [.ref a] H Q := by
  refine ⟨a, dI xs, rfl, dp_I h, ?_, ?_, ?_, ?_, q⟩
  · unfold dI
    simp only [PyData.showable]
    exact showable_ints s
  · unfold dI
    simp only [PyData.hasDict]
    exact noDict_ints xs
  · unfold dI
    simp only [PyData.depth]
    rw [depth_intsK]
    decide
  · have := dI_len s hl
    rw [sizeLine_eq]
    omega
theorem rep_T {K : PySem.W.Frag} {H : Hp} {a : Addr} {xs : List Int} {Q : VK} (h : H a = some (.tup (xs.map V.int))) (s : Sml xs) (hl : xs.length ≤ 200) (q : Q (.str (dT xs).shown) H) : rRepr K [.ref a] H Q := by
  refine ⟨a, dT xs, rfl, dp_T h, ?_, ?_, ?_, ?_, q⟩
  · unfold dT
    simp only [PyData.showable]
    exact showable_ints s
  · unfold dT
    simp only [PyData.hasDict]
    exact noDict_ints xs
  · unfold dT
    simp only [PyData.depth]
    rw [depth_intsK]
    decide
  · have := dT_len s hl
    rw [sizeLine_eq]
    omega
/-- three lists of the same numbers in a list -/
theorem rep_3 {K : PySem.W.Frag} {H : Hp} {l a b c : Addr} {xs : List Int} {Q : VK} (hl0 : H l = some (.lst [.ref a, .ref b, .ref c])) (ha : H a = some (.lst (xs.map V.int))) (hb : H b = some (.lst (xs.map V.int))) (hc : H c = some (.lst (xs.map V.int))) (s : Sml xs) (hl : xs.length ≤ 200)
    (q : Q (.str (PyData.list [dI xs, dI xs, dI xs]).shown) H) : rRepr K [.ref l] H Q := by
  have s1 : (dI xs).showable = true := by
    unfold dI
    simp only [PyData.showable]
    exact showable_ints s
  have s2 : (dI xs).hasDict = false := by
    unfold dI
    simp only [PyData.hasDict]
    exact noDict_ints xs
  have s3 : (dI xs).depth = 1 := by
    unfold dI
    simp only [PyData.depth]
    rw [depth_intsK]
  refine ⟨l, _, rfl, .lst (SqL.of hl0) (.cons (dp_I ha) (.cons (dp_I hb) (.cons (dp_I hc) .nil))), ?_, ?_, ?_, ?_, q⟩
  · simp only [PyData.showable, PyData.showableAll, s1, Bool.and_self]
  · simp only [PyData.hasDict, PyData.hasDictAll, s2, Bool.or_self]
  · simp only [PyData.depth, PyData.depthAll, s3]
    decide
  · have := dI_len s hl
    simp only [PyData.shown, PyData.shownAll]
    have h3 := listText_le (B := 2300) (ts := [(dI xs).shown, (dI xs).shown, (dI xs).shown]) fun t ht => by
      simp only [List.mem_cons, List.not_mem_nil, or_false] at ht
      rcases ht with rfl | rfl | rfl <;> exact this
    rw [sizeLine_eq]
    simp only [List.length_cons, List.length_nil] at h3
    omega
end K23

/-! ## W16 -/
namespace K23
open PySem PySem.Spec PyProof.Rows L2
open C8 (Cal Met Mak pe_c pe_mk pe_mt pe_mt0)
theorem KeepX.skip {r s : Addr} {H H1 H2 : Hp} (k : KeepX r H H1) (k2 : KeepX s H1 H2) (hs : H s = none) : KeepX r H H2 := fun b o n e => k2 b o (ne_of_none e hs) (k b o n e)
theorem CvAt.keep {K : PySem.W.Frag} {f : Nat → Int} {m : Nat} {la c r : Addr} {H H' : Hp} (h : CvAt K f m la H c) (k : KeepX r H H') (n1 : c ≠ r) (n2 : la ≠ r) : CvAt K f m la H' c := h.to fun b o hb e => k b o (hb.elim (fun z => by rw [z]; exact n1) fun z => by rw [z]; exact n2) e
theorem due_sml {fv : List Int} {p : Nat} {g : Int} (R : RowB fv p g) {n : Nat} (hn : n ≤ 200) : Sml (due (vAt fv p g) n) := by
  intro x hx
  refine ⟨due_nn R.mono x hx, ?_⟩
  unfold due at hx
  obtain ⟨t, ht, rfl⟩ := List.mem_map.mp hx
  rw [List.mem_range] at ht
  have h1 := R.nn t
  have h2 := R.bound (t + 1)
  omega
theorem flood_list (F : Int) (n : Nat) (hn : 1 ≤ n) : [V.int F] ++ (List.replicate (n - 1) [V.int 0]).flatten = ((F :: List.replicate (n - 1) 0).map V.int) := by
  rw [List.map_cons, List.map_replicate]
  generalize n - 1 = k
  have : (List.replicate k [V.int 0]).flatten = List.replicate k (V.int 0) := by
    induction k with
    | zero => rfl
    | succ k ih => rw [List.replicate_succ, List.flatten_cons, ih, List.replicate_succ]; rfl
  rw [this]
  rfl
theorem flood_get (F : Int) {n i : Nat} (hn : 1 ≤ n) (h : i < n) : (F :: List.replicate (n - 1) (0 : Int))[i]? = some (if i = 0 then F else 0) := by
  cases i with
  | zero => rfl
  | succ i =>
    rw [List.getElem?_cons_succ, List.getElem?_replicate, if_pos (by omega), if_neg (by omega)]
theorem CvAt.ne {K : PySem.W.Frag} {f : Nat → Int} {m : Nat} {la c D : Addr} {H : Hp} (h : CvAt K f m la H c) (hD : H D = none) : c ≠ D ∧ la ≠ D := by
  obtain ⟨dx, gv, q, G, h1, h2, _⟩ := h
  exact ⟨ne_of_none h1 hD, ne_of_none h2 hD⟩
theorem dueOne_set (f : Nat → Int) (j : Nat) : ((due f (j + 1)).map V.int).set j (V.int ((due f (j + 1)).getD (j + 1 - 1) 0 + 1)) = (dueOne f j).map V.int := by
  have e : (due f (j + 1)).getD (j + 1 - 1) 0 = f (j + 1) - f j := by
    rw [List.getD_eq_getElem?_getD, Nat.add_sub_cancel, due_get f (by omega)]
    rfl
  rw [e, due_succ, List.map_append]
  unfold dueOne
  rw [List.map_append, List.set_append_right _ _ (by rw [List.length_map, due_length]; exact Nat.le_refl _), List.length_map, due_length, Nat.sub_self]
  rfl
theorem dueOne_nn {f : Nat → Int} (hm : Mono f) {j : Nat} : ∀ x ∈ dueOne f j, 0 ≤ x := by
  intro x hx
  rcases List.mem_append.mp hx with h | h
  · exact due_nn hm x h
  · rw [List.mem_singleton.mp h]
    have := hm j
    omega
def Big (f : Nat → Int) (n s : Nat) : Prop := f n - f (n - s) + 1 > f s
section
variable {P : Program} {w : World} {K : PySem.W.Frag} {mg : Str → Option Value} {base : Heap}
def spTrue : Sp := fun vs H Q _ => ∃ r : Addr, vs = [.ref r] ∧ RngAt H r ∧ ∀ H', KeepX r H H' → Q (.bl true) H'
theorem sc_law_long_right : FnScope ["_law_rng_here", "_law_row_here", "_law_span", "_law_line", "_law_found", "_law_due", "_law_flood", "_law_told", "_law_size", "_law_tick"] ["_law_rng_here"] (defScope s_law_long_right) := ⟨rfl, rfl, rfl, by decide +kernel, rfl, by decide +kernel, by decide +kernel⟩
theorem ok_law_long_right (T : Txt K mg) {fd : FuncData} (F : Fn K "_law_long_right" "_law_long_right" s_law_long_right [] [] (He.ga K "_law_long_right") fd) : FnG P w K mg base CX0 9 (He.ga K "_law_long_right") fd ["_law_rng_here"] spTrue := by
  refine FunD.okG F sc_law_long_right (fun vs H Q E h => ?_) (fun cdv A outer s H vs Q E hgu hr h => ?_)
  · obtain ⟨r, rfl, _⟩ := h
    rfl
  · obtain ⟨r, rfl, R, q⟩ := h
    refine ⟨_, PSs.nox (pss_cons (ps_asg (pe_tup (pa_cons (pe_c (c_law_row T) hr (by decide) (by rfl) (pa_cons (pv 0) pa_nil)) (pa_cons (pe_op op_add pe_int (pe_c (c_law_draw T) hr (by decide) (by rfl) (pa_cons (pv 0) (pa_cons pe_int pa_nil)))) pa_nil))) (pg_tup (by rfl) (pgs_cons (pg_name (i := 1) sc_law_long_right.nd rfl (Or.inr rfl)) (pgs_cons (pg_name (i := 2) sc_law_long_right.nd rfl (Or.inl rfl)) pgs_nil))))
      (pss_cons (ps_par (by rfl) sc_law_long_right.nd (i := 3) (j := 4) rfl rfl (by decide) rfl rfl (pa_cons
          (pe_curve T hr (by decide) (by rfl) (pa_cons (pe_callTy call_list_of (by rfl) T.f_list (by decide +kernel) (pa_cons (pe_ix ix_tup (pv 1) pe_int (fun _ _ => rfl)) pa_nil)) pa_nil) (pk_cons (pe_ix ix_tup (pv 1) pe_int (fun _ _ => rfl)) (pk_cons (pe_ix ix_tup (pv 1) pe_int (fun _ _ => rfl)) pk_nil)))
          (pa_cons (pe_lst pa_nil) pa_nil)) (by rfl))
      (pss_cons (ps_setLc (i := 5) (own := [("_law_tick", 9)]) (g := gName 9) (by rfl) sc_law_long_right.nd rfl rfl (sw_true rfl rfl rfl (by decide +kernel)) (pi_range1 (by rfl) T.f_range (pa_cons (pv 2) pa_nil))
          (blkOk_by (own := [("_law_tick", 9)]) (N := ["_law_rng_here", "_law_row_here", "_law_span", "_law_line", "_law_found", "_law_due", "_law_flood", "_law_told", "_law_size", "_law_tick"]) (sc := defScope s_law_long_right) (by decide +kernel)) (fun _ _ _ _ _ => pg_name (i := 9) sc_law_long_right.nd rfl (Or.inl rfl))
          (fun _ _ _ _ _ => pts_nil)
          (fun _ _ _ _ _ => pe_op op_sub (pe_c (c_law_at T) hr (by decide) (by rfl) (pa_cons (pv 1) (pa_cons (pe_op op_add (pv 9) pe_int) pa_nil))) (pe_c (c_law_at T) hr (by decide) (by rfl) (pa_cons (pv 1) (pa_cons (pv 9) pa_nil)))))
      (pss_cons (ps_set (i := 6) sc_law_long_right.nd rfl (Or.inl rfl) (pe_op op_add (pe_callB (cr_sum rfl) (by rfl) T.f_sum (by decide +kernel) (pa_cons (pv 5) pa_nil)) (pe_c (c_law_draw T) hr (by decide) (by rfl) (pa_cons (pv 0) (pa_cons pe_int pa_nil)))))
      (pss_cons (ps_set (i := 7) sc_law_long_right.nd rfl (Or.inl rfl) (pe_lst (pa_cons (pe_c (c_greedy T) hr (by decide) (by rfl) (pa_cons (pv 3) (pa_cons (pv 2) pa_nil)))
          (pa_cons (pe_c (c_shaped T) hr (by decide) (by rfl) (pa_cons (pe_op op_cat (pe_lst (pa_cons (pv 6) pa_nil)) (pe_op op_rep (pe_lst (pa_cons pe_int pa_nil)) (pe_op op_sub (pv 2) pe_int))) (pa_cons (pv 3) pa_nil)))
          (pa_cons (pe_c (c_law_policed T) hr (by decide) (by rfl) (pa_cons (pv 3) (pa_cons (pv 2) (pa_cons (pv 6) pa_nil)))) pa_nil)))))
      (pss_cons (ps_if (PW.pt (pw_or (pt_cmpR op_ne (pe_callB (call_reprD hgu hr) (by rfl) T.f_repr (by decide +kernel) (pa_cons (pv 7) pa_nil)) (pe_callB (call_reprD hgu hr) (by rfl) T.f_repr (by decide +kernel) (pa_cons (pe_lst (pa_cons (pv 5) (pa_cons (pv 5) (pa_cons (pv 5) pa_nil)))) pa_nil)) (nomark _))
          (pw_or1 (pt_not (pt_val (pe_c (c_keeps T) hr (by decide) (by rfl) (pa_cons (pv 5) (pa_cons (pv 3) pa_nil)))))))) (pss_one (ps_ret pe_bl)) pss_nil)
      (pss_cons (ps_for PassesOwn.never rfl (pi_range2 (by rfl) T.f_range (pa_cons pe_int (pa_cons (pe_op op_add (pv 2) pe_int) pa_nil))) (pg_name (i := 8) sc_law_long_right.nd rfl (Or.inl rfl))
        (pss_one (ps_if (pt_cmpR op_gt (pe_op op_add (pe_callB (cr_sum rfl) (by rfl) T.f_sum (by decide +kernel) (pa_cons (pe_slice sl_list (pv 5) (po_some (pe_op op_sub (pv 2) (pv 8))) po_none) pa_nil)) pe_int) (pe_c (c_law_at T) hr (by decide) (by rfl) (pa_cons (pv 1) (pa_cons (pv 8) pa_nil))) (nomark _))
          (pss_one (ps_expr (pe_bm PySem.F.plainAttrs_list PySem.F.slot_list_append PySem.F.type_list_append mt_append (pv 4) (pa_cons (pv 8) pa_nil)))) pss_nil)))
      (pss_cons (ps_asg (pe_op op_add (pe_ix ix_list (pv 5) (pe_un un_neg pe_int) (fun _ _ => rfl)) pe_int) (pg_sub (pv 5) (pe_un un_neg pe_int) set_list))
      (pss_one (ps_ret (pe_and (pe_cmpR op_eq (pe_callB (call_reprD hgu hr) (by rfl) T.f_repr (by decide +kernel) (pa_cons (pe_c (c_breach T) hr (by decide) (by rfl) (pa_cons (pv 5) (pa_cons (pv 3) pa_nil))) pa_nil))
          (pe_callB (call_reprD hgu hr) (by rfl) T.f_repr (by decide +kernel) (pa_cons (pe_tup (pa_cons (pe_ix ix_list (pv 4) pe_int (fun _ _ => rfl)) (pa_cons (pe_op op_sub (pv 2) (pe_ix ix_list (pv 4) pe_int (fun _ _ => rfl))) (pa_cons pe_int pa_nil)))) pa_nil)) (nomark _))
        (pe_one (pe_not (pe_c (c_keeps T) hr (by decide) (by rfl) (pa_cons (pv 5) (pa_cons (pv 3) pa_nil)))))))))))))))), ?_⟩
    -- the row, the span
    refine ⟨_, rfl, r, rfl, R, fun H1 v k1 R1 g1 => ⟨_, rfl, r, 84, rfl, R1, by decide, by decide, fun H2 d2 k2 R2 hd2 => ⟨_, _, rfl, rfl, small_len (by simp) |> Nat.le_of_lt, fun tp htp => ?_⟩⟩⟩
    obtain ⟨t, a, fv, p, g, rfl, row, ha0, ht0, RB, SB⟩ := g1.keep R k2
    have ar := R.ne ha0
    obtain ⟨n, hn⟩ : ∃ n : Nat, n = 37 + d2 := ⟨_, rfl⟩
    have en : (37 : Int) + (d2 : Int) = (n : Int) := by omega
    dsimp only
    rw [en]
    refine ⟨tp, _, rfl, SqT.of upd_same, rfl, _, _, rfl, _, _, rfl, rfl, ?_⟩
    have k3 := (k1.trans k2).trans (KeepX.of (same_upd (o := .tup [.ref t, .int (n : Nat)]) htp))
    have R3 := R2.same (same_upd (o := .tup [.ref t, .int (n : Nat)]) htp)
    have row := row.same (same_upd (o := .tup [.ref t, .int (n : Nat)]) htp)
    generalize upd H2 tp (.tup [.ref t, .int (n : Nat)]) = H3 at k3 R3 row ⊢
    clear k1 k2 R1 R2 g1 htp
    -- the curve
    refine ⟨_, rfl, t, _, _, .ref a, rfl, rfl, SqT.of row.1, rfl, a, _, rfl, .inl (SqL.of row.2), fun l hl => ?_⟩
    have k4 := k3.trans (KeepX.of (same_upd (o := .lst (fv.map V.int)) hl))
    have R4 := R3.same (same_upd (o := .lst (fv.map V.int)) hl)
    have row := row.same (same_upd (o := .lst (fv.map V.int)) hl)
    have hl4 : upd H3 l (.lst (fv.map V.int)) l = some (.lst (fv.map V.int)) := upd_same
    generalize upd H3 l (.lst (fv.map V.int)) = H4 at k4 R4 row hl4 ⊢
    clear k3 R3 hl
    refine ⟨_, rfl, t, _, _, .int p, rfl, rfl, SqT.of row.1, rfl, _, rfl, t, _, _, .int g, rfl, rfl, SqT.of row.1, rfl, rfl, rfl, fun c dc hc hdc ndc => ?_⟩
    have sm5 : Same H4 (upd (upd H4 dc (.own c)) c (.ins (cvA K) dc [])) := fun b o e => by
      rw [upd_ne (ne_of_none e hc), upd_ne (ne_of_none e hdc)]
      exact e
    refine ⟨c, dc, l, fv, p, g, rfl, upd_same, sm5 _ _ hl4, RB, fun H5 la m kk hla cv => ⟨rfl, ?_⟩⟩
    have sm5 : Same H4 H5 := fun b o e => kk b o (ne_of_none e hc) (sm5 b o e)
    have cr := R4.ne hc
    have lar : la ≠ r := fun e => by
      obtain ⟨A0, B0, h1, _⟩ := R4
      rw [e, upd_ne (Ne.symm cr), upd_ne (fun e => by rw [← e, h1] at hdc; cases hdc), h1] at hla
      cases hla
    have k5 := k4.trans (KeepX.of sm5)
    have R5 := R4.same sm5
    have row := row.same sm5
    clear k4 R4 hl4 kk sm5 hla
    refine ⟨small_len (by simp) |> Nat.le_of_lt, fun fl hfl => ⟨_, _, rfl, ?_⟩⟩
    have flr := R5.ne hfl
    have fl0 := k5.free R R5 hfl
    have smF : Same H5 (upd H5 fl (.lst [])) := same_upd hfl
    have tfl : t ≠ fl := ne_of_none row.1 hfl
    have afl : a ≠ fl := ne_of_none row.2 hfl
    obtain ⟨cfl, lafl⟩ := cv.ne hfl
    have k6 := k5.trans (KeepX.of smF)
    have R6 := R5.same smF
    have row := row.same smF
    have cv := cv.same smF
    have hf6 : upd H5 fl (.lst []) fl = some (.lst []) := upd_same
    generalize upd H5 fl (.lst []) = H6 at k6 R6 row cv hf6 ⊢
    clear k5 R5 smF hfl
    -- due
    obtain ⟨f, hf⟩ : ∃ f, f = vAt fv p g := ⟨_, rfl⟩
    have f0 : f 0 = 0 := by rw [hf]; exact vAt_zero _ _ _
    have fm : Mono f := by rw [hf]; exact RB.mono
    have SB : Sub f := by rw [hf]; exact SB
    have sml : ∀ j, j ≤ 200 → Sml (due f j) := fun j hj => by rw [hf]; exact due_sml RB hj
    have fbd : ∀ j, f j ≤ 2000 * ((j : Int) + 1) := fun j => by rw [hf]; exact RB.bound j
    have fnn : ∀ j, 0 ≤ f j := fun j => mono_nn fm f0 j
    have cv : CvAt K f m la H6 c := by rw [hf]; exact cv
    have p1 := RB.p1
    have pn := RB.pn
    have n24 := RB.n24
    refine ⟨_, rfl, n, rfl, by omega, by omega, ?_⟩
    rw [show ((n : Nat) : Int).toNat = n from by omega]
    refine fun D hD => lc_range (lo := 0) (n := n) (fun i H' => H' = upd H6 D (.lst ((due f i).map V.int))) rfl ?_ ?_
    · rintro i H' hi rfl
      refine ⟨rfl, ?_⟩
      dsimp only [tYes]
      refine iteT ?_
      have row2 := row.same (same_upd hD (o := .lst ((due f i).map V.int)))
      have hD2 : upd H6 D (.lst ((due f i).map V.int)) D = some (.lst ((due f i).map V.int)) := upd_same
      refine ⟨_, rfl, _, rfl, _, _, rfl, rfl, t, a, fv, p, i + 1, g, by simp [Int.natCast_add], SqT.of row2.1, SqL.of row2.2, p1, pn, by omega, by omega, ?_⟩
      refine ⟨_, rfl, _, rfl, t, a, fv, p, i, g, by simp, SqT.of row2.1, SqL.of row2.2, p1, pn, by omega, by omega, _, _, rfl, rfl, ?_⟩
      rw [← hf]
      refine ⟨_, hD2, small_len (by rw [List.length_map, due_length]; omega), ?_⟩
      rw [upd_upd, due_succ, List.map_append]
      rfl
    · rintro H' rfl
      have Dr := R6.ne hD
      have D0 := k6.free R R6 hD
      have flD : fl ≠ D := ne_of_none hf6 hD
      obtain ⟨cD, laD⟩ := cv.ne hD
      have smD : Same H6 (upd H6 D (.lst ((due f n).map V.int))) := same_upd hD
      have k7 := k6.trans (KeepX.of smD)
      have R7 := R6.same smD
      have row := row.same smD
      have cv := cv.same smD
      have hf7 := smD _ _ hf6
      have hD7 : upd H6 D (.lst ((due f n).map V.int)) D = some (.lst ((due f n).map V.int)) := upd_same
      generalize upd H6 D (.lst ((due f n).map V.int)) = H7 at k7 R7 row cv hf7 hD7 ⊢
      clear k6 R6 smD hD hf6
      -- flood
      refine ⟨_, rfl, D, _, rfl, SqL.of hD7, _, rfl, r, 2, rfl, R7, by decide, by decide, fun H8 d8 k8 R8 hd8 => ⟨_, _, rfl, rfl, ?_⟩⟩
      obtain ⟨Fl, hFl⟩ : ∃ Fl, Fl = (due f n).sum + (d8 : Int) := ⟨_, rfl⟩
      have leF : f n ≤ Fl := by
        rw [hFl, due_sum f0]
        omega
      dsimp only
      rw [← hFl]
      have row := row.keep k8 R7 ar
      have cv := cv.keep k8 cr lar
      have hf8 := k8 _ _ flr hf7
      have hD8 := k8 _ _ Dr hD7
      have k8 := k7.trans k8
      clear k7 R7 hf7 hD7
      -- told
      refine ⟨_, rfl, _, rfl, c, la, f, m, n, rfl, by omega, cv, SB, fun g1 hg1 => ?_⟩
      have sm9 : Same H8 (upd H8 g1 (.lst ((due f n).map V.int))) := same_upd hg1
      have hg9 : upd H8 g1 (.lst ((due f n).map V.int)) g1 = some (.lst ((due f n).map V.int)) := upd_same
      generalize upd H8 g1 (.lst ((due f n).map V.int)) = H9 at sm9 hg9 ⊢
      refine ⟨_, rfl, small_len (by simp) |> Nat.le_of_lt, fun z1 hz1 => ⟨small_len (by simp) |> Nat.le_of_lt, fun z2 hz2 => ?_⟩⟩
      have sm10 : Same H9 (upd (upd H9 z1 (.lst [V.int Fl])) z2 (.lst [V.int 0])) := (same_upd hz1).trans (same_upd hz2)
      have hz1' : upd (upd H9 z1 (.lst [V.int Fl])) z2 (.lst [V.int 0]) z1 = some (.lst [V.int Fl]) := (same_upd hz2) _ _ upd_same
      have hz2' : upd (upd H9 z1 (.lst [V.int Fl])) z2 (.lst [V.int 0]) z2 = some (.lst [V.int 0]) := upd_same
      generalize upd (upd H9 z1 (.lst [V.int Fl])) z2 (.lst [V.int 0]) = H10 at sm10 hz1' hz2' ⊢
      refine ⟨_, rfl, _, _, rfl, rfl, z2, (n : Int) - 1, _, rfl, rfl, hz2', by omega, by omega, small_len (by rw [List.length_singleton]; omega) |> Nat.le_of_lt, fun z3 hz3 => ?_⟩
      rw [show ((n : Int) - 1).toNat = n - 1 from by omega]
      refine ⟨z1, z3, _, _, rfl, rfl, (same_upd hz3) _ _ hz1', upd_same, small_len (by simp; omega) |> Nat.le_of_lt, fun z4 hz4 => ?_⟩
      rw [flood_list Fl n (by omega)]
      have s11 := sm10.trans (same_upd (o := .lst (List.replicate (n - 1) [V.int 0]).flatten) hz3)
      generalize upd H10 z3 (.lst (List.replicate (n - 1) [V.int 0]).flatten) = H11 at s11 hz4 ⊢
      have s12 := s11.trans (same_upd (o := .lst ((Fl :: List.replicate (n - 1) 0).map V.int)) hz4)
      have hz5 : upd H11 z4 (.lst ((Fl :: List.replicate (n - 1) 0).map V.int)) z4 = some (.lst ((Fl :: List.replicate (n - 1) 0).map V.int)) := upd_same
      generalize upd H11 z4 (.lst ((Fl :: List.replicate (n - 1) 0).map V.int)) = H12 at s12 hz5 ⊢
      have xl : (Fl :: List.replicate (n - 1) (0 : Int)).length = n := by
        rw [List.length_cons, List.length_replicate]
        omega
      refine ⟨_, rfl, z4, c, la, Fl :: List.replicate (n - 1) 0, f, m, Fl, rfl, hz5, fun i hi => flood_get Fl (by omega) (by rw [xl] at hi; exact hi), by rw [xl]; omega, (cv.same sm9).same s12, SB, fm, by rw [xl]; exact leF, fun H13 t2 s13 ht2 hT2 => ?_⟩
      rw [xl] at hT2
      have s13 := s12.trans s13
      refine ⟨_, rfl, _, rfl, _, rfl, c, la, f, m, n, Fl, rfl, (cv.same sm9).same s13, SB, fm, leF, by omega, fun H14 t3 s14 ht3 hT3 => ⟨small_len (by simp) |> Nat.le_of_lt, fun L hL => ?_⟩⟩
      have hT2 := s14 _ _ hT2
      have s14 := s13.trans s14
      have sL : Same H14 (upd H14 L (.lst [.ref g1, .ref t2, .ref t3])) := same_upd hL
      have s15 := sm9.trans (s14.trans sL)
      have hgL := sL _ _ (s14 _ _ hg9)
      have hT2 := sL _ _ hT2
      have hT3 := sL _ _ hT3
      have hLL : upd H14 L (.lst [.ref g1, .ref t2, .ref t3]) L = some (.lst [.ref g1, .ref t2, .ref t3]) := upd_same
      generalize upd H14 L (.lst [.ref g1, .ref t2, .ref t3]) = H15 at s15 hgL hT2 hT3 hLL ⊢
      clear s14 s13 s12 s11 sm10 sL hg9 sm9
      have row := row.same s15
      have cv := cv.same s15
      have hf8 := s15 _ _ hf8
      have hD8 := s15 _ _ hD8
      have R8 := R8.same s15
      have k8 := k8.trans (KeepX.of s15)
      have sd : Sml (due f n) := sml n (by omega)
      have ld : (due f n).length ≤ 200 := by rw [due_length]; omega
      clear s15
      -- the same three
      refine ⟨_, rfl, ?_⟩
      dsimp only [tNil]
      refine rep_3 hLL hgL hT2 hT3 sd ld ?_
      refine ⟨_, rfl, _, rfl, _, rfl, small_len (by simp) |> Nat.le_of_lt, fun z5 hz5 => ?_⟩
      have s16 : Same H15 (upd H15 z5 (.lst [.ref D, .ref D, .ref D])) := same_upd hz5
      dsimp only [tNil]
      refine rep_3 upd_same (s16 _ _ hD8) (s16 _ _ hD8) (s16 _ _ hD8) sd ld ?_
      generalize upd H15 z5 (.lst [.ref D, .ref D, .ref D]) = H16 at s16 ⊢
      refine ⟨rfl, _, rfl, ifF (by simp) ?_⟩
      refine ⟨_, rfl, _, rfl, D, c, la, due f n, f, m, rfl, s16 _ _ hD8, due_nn fm, by rw [due_length]; omega, cv.same s16, fun _ H17 s17 => ⟨true, rfl, iteF ?_⟩, fun hk => absurd (due_keeps f0 SB n) hk⟩
      have s17 := s16.trans s17
      have row := row.same s17
      have cv := cv.same s17
      have hf8 := s17 _ _ hf8
      have hD8 := s17 _ _ hD8
      have R8 := R8.same s17
      have k8 := k8.trans (KeepX.of s17)
      clear s17 s16
      -- the sizes with too many
      refine ⟨_, rfl, _, _, rfl, rfl, _, _, rfl, ⟨by omega, by omega, by omega, by omega⟩, ?_⟩
      rw [show ((n : Int) + 1 - 1).toNat = n from by omega]
      refine for_it walk_range (fun i σ H' => ∃ x8, ∃ os : List Nat, σ = [some (.ref r), some (.ref t), some (.int n), some (.ref c), some (.ref fl), some (.ref D), some (.int Fl), some (.ref L), x8, none] ∧ KeepX fl H17 H' ∧ H' fl = some (.lst (os.map fun n : Nat => V.int (n : Int))) ∧ os.length ≤ i ∧
          ((os = [] ∧ ∀ s, 1 ≤ s → s < 1 + i → ¬ Big f n s) ∨ ∃ L rest, os = L :: rest ∧ 1 ≤ L ∧ L < 1 + i ∧ Big f n L ∧ ∀ s, 1 ≤ s → s < L → ¬ Big f n s)) ⟨none, [], rfl, KeepX.refl _ _, hf8, Nat.le_refl _, .inl ⟨rfl, fun s h1 h2 => by omega⟩⟩ (fun _ _ _ _ _ => trivial) ?_ ?_
      · rintro i x σ H18 H19 hi ⟨x8, os, rfl, k18, hf18, hol, hos⟩ ⟨hH, rfl⟩
        rw [hH]
        clear hH H19
        have hD18 := k18 _ _ (Ne.symm flD) hD8
        have row18 : RowAt K H18 t a fv p g := ⟨k18 _ _ tfl row.1, k18 _ _ afl row.2⟩
        refine ⟨_, rfl, _, rfl, _, rfl, _, _, rfl, rfl, _, rfl, D, _, rfl, SqL.of hD18, fun z hz => ?_⟩
        rw [cut_lo (i := n - (1 + i)) (by omega) (by rw [due_length]; omega)]
        have sz : Same H18 (upd H18 z (.lst (((due f n).drop (n - (1 + i))).map V.int))) := same_upd hz
        refine ⟨z, _, rfl, SqL.of upd_same, _, _, rfl, rfl, ?_⟩
        have row19 := row18.same sz
        have hf19 := sz _ _ hf18
        have k19 := k18.trans (KeepX.of sz)
        generalize upd H18 z (.lst (((due f n).drop (n - (1 + i))).map V.int)) = H19 at row19 hf19 k19 ⊢
        refine ⟨_, rfl, _, rfl, t, a, fv, p, 1 + i, g, by simp [Int.natCast_add], SqT.of row19.1, SqL.of row19.2, p1, pn, by omega, by omega, _, _, rfl, rfl, _, rfl, ?_⟩
        have e1 : ((due f n).drop (n - (1 + i))).sum = f n - f (n - (1 + i)) := by
          rw [drop_sum, due_sum f0, due_pre f0 (by omega)]
        rw [e1, ← hf]
        by_cases big : Big f n (1 + i)
        · refine ifT (decide_eq_true big) ?_
          refine ⟨_, rfl, .inl ⟨rfl, _, SqL.of hf19⟩, _, rfl, fl, _, _, rfl, rfl, hf19, small_len (by rw [List.length_map]; omega), ?_⟩
          refine ⟨_, os ++ [1 + i], rfl, keepX_upd k19, ?_, ?_, ?_⟩
          · rw [upd_same, List.map_append]
            simp [Int.natCast_add]
          · rw [List.length_append, List.length_singleton]
            omega
          · rcases hos with ⟨rfl, hno⟩ | ⟨L', rest, rfl, h1, h2, h3, h4⟩
            · exact .inr ⟨1 + i, [], rfl, by omega, by omega, big, fun s h1 h2 => hno s h1 (by omega)⟩
            · exact .inr ⟨L', rest ++ [1 + i], rfl, h1, by omega, h3, h4⟩
        · refine ifF (decide_eq_false big) ?_
          refine ⟨_, os, rfl, k19, hf19, by omega, ?_⟩
          rcases hos with ⟨rfl, hno⟩ | ⟨L', rest, rfl, h1, h2, h3, h4⟩
          · refine .inl ⟨rfl, fun s h1 h2 => ?_⟩
            by_cases e : s = 1 + i
            · rw [e]
              exact big
            · exact hno s h1 (by omega)
          · exact .inr ⟨L', rest, rfl, h1, by omega, h3, h4⟩
      · rintro σ H18 ⟨x8, os, rfl, k18, hf18, hol, hos⟩
        have bigN : Big f n n := by
          unfold Big
          rw [Nat.sub_self, f0]
          omega
        obtain ⟨L', rest, rfl, L1, L2, LB, Lno⟩ : ∃ L rest, os = L :: rest ∧ 1 ≤ L ∧ L < 1 + n ∧ Big f n L ∧ ∀ s, 1 ≤ s → s < L → ¬ Big f n s := by
          rcases hos with ⟨_, hno⟩ | h
          · exact absurd bigN (hno n (by omega) (by omega))
          · exact h
        have hD18 := k18 _ _ (Ne.symm flD) hD8
        have cv18 := cv.to (fun b o hb e => k18 b o (hb.elim (fun z => by rw [z]; exact cfl) fun z => by rw [z]; exact lafl) e)
        have k18 := k8.skip k18 fl0
        -- one unit more
        refine ⟨_, rfl, _, rfl, D, _, _, _, rfl, rfl, SqL.of hD18, at_neg (j := n - 1) (by rw [due_length]; omega) (by rw [due_length]; omega), _, _, rfl, rfl, ?_⟩
        obtain ⟨j, rfl⟩ : ∃ j, n = j + 1 := ⟨n - 1, by omega⟩
        refine ⟨_, rfl, _, rfl, D, _, _, j, rfl, rfl, hD18, ?_, ?_⟩
        · unfold ixN
          rw [List.length_map, due_length, if_neg (by omega), if_pos (by omega)]
          congr 1
          omega
        rw [dueOne_set]
        have k19 := keepX_new (o := .lst ((dueOne f j).map V.int)) k18 D0
        have hD19 : upd H18 D (.lst ((dueOne f j).map V.int)) D = some (.lst ((dueOne f j).map V.int)) := upd_same
        have hf19 := (upd_ne (H := H18) (o := .lst ((dueOne f j).map V.int)) flD).trans hf18
        have cv19 := cv18.to (H' := upd H18 D (.lst ((dueOne f j).map V.int))) (fun b o hb e => (upd_ne (hb.elim (fun z => by rw [z]; exact cD) fun z => by rw [z]; exact laD)).trans e)
        generalize upd H18 D (.lst ((dueOne f j).map V.int)) = H19 at k19 hD19 hf19 cv19 ⊢
        have bk := dueOne_brk f0 SB (k := j) (L := L') L1 (by omega) LB fun l h1 h2 => by
          have := Lno l h1 h2
          unfold Big at this
          omega
        refine ⟨_, rfl, _, rfl, D, c, la, dueOne f j, f, m, rfl, hD19, dueOne_nn fm, by rw [dueOne_length]; omega, cv19, fun hk => absurd hk bk.not, fun Lx sx ex H20 tt bk2 s20 htt0 htt => ?_⟩
        obtain ⟨rfl, rfl, rfl⟩ := bk2.one bk
        dsimp only [tNil]
        have sT : Sml [(Lx : Int), ((j + 1 - Lx : Nat) : Int), 1] := fun x hx => by
          simp only [List.mem_cons, List.not_mem_nil, or_false] at hx
          rcases hx with rfl | rfl | rfl <;> omega
        refine rep_T (xs := [(Lx : Int), ((j + 1 - Lx : Nat) : Int), 1]) htt sT (by simp) ?_
        have hf20 := s20 _ _ hf19
        refine ⟨_, rfl, fl, _, _, .int (Lx : Nat), rfl, rfl, SqL.of hf20, atI_nat (j := 0) rfl, _, rfl, _, rfl, fl, _, _, .int (Lx : Nat), rfl, rfl, SqL.of hf20, atI_nat (j := 0) rfl, _, _, rfl, rfl, small_len (by simp) |> Nat.le_of_lt, fun u hu => ?_⟩
        have eS : (((j + 1 : Nat) : Int) - (Lx : Nat)) = ((j + 1 - Lx : Nat) : Int) := by omega
        dsimp only [tNil]
        rw [eS]
        refine rep_T (xs := [(Lx : Int), ((j + 1 - Lx : Nat) : Int), 1]) upd_same sT (by simp) ?_
        have s21 := s20.trans (same_upd (o := .tup [V.int (Lx : Nat), V.int ((j + 1 - Lx : Nat) : Int), V.int 1]) hu)
        refine ⟨rfl, _, rfl, ifT (by simp) ?_⟩
        refine ⟨_, rfl, _, rfl, D, c, la, dueOne f j, f, m, rfl, s21 _ _ hD19, dueOne_nn fm, by rw [dueOne_length]; omega, cv19.same s21, fun hk => absurd hk bk.not, fun _ H22 s22 => ⟨false, rfl, q H22 (k19.trans (KeepX.of (s21.trans s22)))⟩⟩
end
end K23

/-! ## W17 -/
namespace K23
open PySem PySem.Spec PyProof.Rows L2
open C8 (Cal Met Mak pe_c pe_mk pe_mt pe_mt0)
theorem flood_list0 (F : Int) (n : Nat) : [V.int F] ++ (List.replicate ((n : Int) - 1).toNat [V.int 0]).flatten = ((F :: List.replicate (n - 1) 0).map V.int) := by
  have e : ((n : Int) - 1).toNat = n - 1 := by omega
  rw [e]
  by_cases h : 1 ≤ n
  · exact flood_list F n h
  · have : n - 1 = 0 := by omega
    rw [this]
    rfl
theorem room64 {k : Nat} {A : Around} (r : Room k A) : A.units + 64 < cLine := by
  have := r.un
  omega
theorem cums_get (xs : List Int) {n i : Nat} (h : i < n) : (cums xs n)[i]? = some (pre xs (i + 1)) := by
  simp [cums, h]
section
variable {P : Program} {w : World} {K : PySem.W.Frag} {mg : Str → Option Value} {base : Heap}
theorem sc_law_right : FnScope ["_law_rng_here", "_law_row_here", "_law_span", "_law_line", "_law_due", "_law_told", "_law_turn", "_law_other", "_law_flood", "_law_steps", "_law_at_here", "_law_tick", "_law_one", "_law_most"] ["_law_rng_here"] (defScope s_law_right) := ⟨rfl, rfl, rfl, by decide +kernel, rfl, by decide +kernel, by decide +kernel⟩
theorem ok_law_right (T : Txt K mg) {fd : FuncData} (F : Fn K "_law_right" "_law_right" s_law_right [] [] (He.ga K "_law_right") fd) : FnG P w K mg base CX0 10 (He.ga K "_law_right") fd ["_law_rng_here"] spTrue := by
  obtain ⟨fdL, FL⟩ := T.d_law_long_right
  have bL := FunD.bindsN (ps := ["_law_rng_here"]) FL fun _ _ _ _ _ _ us hl => match us, hl with | [_], _ => rfl
  refine FunD.okG F sc_law_right (fun vs H Q E h => ?_) (fun cdv A outer s H vs Q E hgu hr h => ?_)
  · obtain ⟨r, rfl, _⟩ := h
    rfl
  · obtain ⟨r, rfl, R, q⟩ := h
    refine ⟨_, PSs.nox (pss_cons (ps_asg (pe_tup (pa_cons (pe_c (c_law_row T) hr (by decide) (by rfl) (pa_cons (pv 0) pa_nil)) (pa_cons (pe_c (c_law_draw T) hr (by decide) (by rfl) (pa_cons (pv 0) (pa_cons pe_int pa_nil))) pa_nil))) (pg_tup (by rfl) (pgs_cons (pg_name (i := 1) sc_law_right.nd rfl (Or.inr rfl)) (pgs_cons (pg_name (i := 2) sc_law_right.nd rfl (Or.inl rfl)) pgs_nil))))
      (pss_cons (ps_set (i := 3) sc_law_right.nd rfl (Or.inl rfl) (pe_curve T hr (by decide) (by rfl) (pa_cons (pe_callTy call_list_of (by rfl) T.f_list (by decide +kernel) (pa_cons (pe_ix ix_tup (pv 1) pe_int (fun _ _ => rfl)) pa_nil)) pa_nil) (pk_cons (pe_ix ix_tup (pv 1) pe_int (fun _ _ => rfl)) (pk_cons (pe_ix ix_tup (pv 1) pe_int (fun _ _ => rfl)) pk_nil))))
      (pss_cons (ps_setLc (i := 4) (own := [("_law_tick", 11)]) (g := gName 11) (by rfl) sc_law_right.nd rfl rfl (sw_true rfl rfl rfl (by decide +kernel)) (pi_range1 (by rfl) T.f_range (pa_cons (pv 2) pa_nil))
          (blkOk_by (own := [("_law_tick", 11)]) (N := ["_law_rng_here", "_law_row_here", "_law_span", "_law_line", "_law_due", "_law_told", "_law_turn", "_law_other", "_law_flood", "_law_steps", "_law_at_here", "_law_tick", "_law_one", "_law_most"]) (sc := defScope s_law_right) (by decide +kernel)) (fun _ _ _ _ _ => pg_name (i := 11) sc_law_right.nd rfl (Or.inl rfl))
          (fun _ _ _ _ _ => pts_nil)
          (fun _ _ _ _ _ => pe_op op_sub (pe_c (c_law_at T) hr (by decide) (by rfl) (pa_cons (pv 1) (pa_cons (pe_op op_add (pv 11) pe_int) pa_nil))) (pe_c (c_law_at T) hr (by decide) (by rfl) (pa_cons (pv 1) (pa_cons (pv 11) pa_nil)))))
      (pss_cons (ps_set (i := 5) sc_law_right.nd rfl (Or.inl rfl) (pe_c (c_greedy T) hr (by decide) (by rfl) (pa_cons (pv 3) (pa_cons (pv 2) pa_nil))))
      (pss_cons (ps_if (PW.pt (pw_or (pt_cmpR op_ne (pe_callB (call_reprD hgu hr) (by rfl) T.f_repr (by decide +kernel) (pa_cons (pv 5) pa_nil)) (pe_callB (call_reprD hgu hr) (by rfl) T.f_repr (by decide +kernel) (pa_cons (pv 4) pa_nil)) (nomark _))
          (pw_or (pt_not (pt_val (pe_c (c_keeps T) hr (by decide) (by rfl) (pa_cons (pv 5) (pa_cons (pv 3) pa_nil))))) (pw_or1 (pt_cmpR op_notN (pe_c (c_breach T) hr (by decide) (by rfl) (pa_cons (pv 5) (pa_cons (pv 3) pa_nil))) pe_non (nomark _)))))) (pss_one (ps_ret pe_bl)) pss_nil)
      (pss_cons (ps_for PassesOwn.never rfl (pi_range1 (by rfl) T.f_range (pa_cons (pe_op op_add pe_int (pe_c (c_law_draw T) hr (by decide) (by rfl) (pa_cons (pv 0) (pa_cons pe_int pa_nil)))) pa_nil)) (pg_name (i := 6) sc_law_right.nd rfl (Or.inl rfl))
        (pss_cons (ps_set (i := 7) sc_law_right.nd rfl (Or.inl rfl) (pe_c (c_law_kept T) hr (by decide) (by rfl) (pa_cons (pv 0) (pa_cons (pv 1) (pa_cons (pv 2) pa_nil)))))
        (pss_cons (ps_if (pt_not (pt_val (pe_c (c_keeps T) hr (by decide) (by rfl) (pa_cons (pv 7) (pa_cons (pv 3) pa_nil))))) (pss_one (ps_ret pe_bl)) pss_nil)
        (pss_one (ps_if (pt_not (pt_val (pe_callB (cr_all rfl) (by rfl) T.f_all (by decide +kernel) (pa_cons
            (pe_lc (own := [("_law_one", 12), ("_law_most", 13)]) (g := gTup K 2 (gCons (gName 12) (gCons (gName 13) gNil))) (by rfl) sc_law_right.nd (pi_zip (by rfl) T.f_zip (pa_cons (pe_c (c_law_sums T) hr (by decide) (by rfl) (pa_cons (pv 7) pa_nil)) (pa_cons (pe_c (c_law_sums T) hr (by decide) (by rfl) (pa_cons (pv 5) pa_nil)) pa_nil)))
              (blkOk_by (own := [("_law_one", 12), ("_law_most", 13)]) (N := ["_law_rng_here", "_law_row_here", "_law_span", "_law_line", "_law_due", "_law_told", "_law_turn", "_law_other", "_law_flood", "_law_steps", "_law_at_here", "_law_tick", "_law_one", "_law_most"]) (sc := defScope s_law_right) (by decide +kernel))
              (fun _ _ _ _ _ => pg_tup (by rfl) (pgs_cons (pg_name (i := 12) sc_law_right.nd rfl (Or.inl rfl)) (pgs_cons (pg_name (i := 13) sc_law_right.nd rfl (Or.inl rfl)) pgs_nil)))
              (fun _ _ _ _ _ => pts_nil)
              (fun _ _ _ _ _ => pe_cmpR op_le (pv 12) (pv 13) (nomark _))) pa_nil)))) (pss_one (ps_ret pe_bl)) pss_nil))))
      )
      (pss_cons (ps_set (i := 8) sc_law_right.nd rfl (Or.inl rfl) (pe_op op_cat (pe_lst (pa_cons (pe_op op_add (pe_callB (cr_sum rfl) (by rfl) T.f_sum (by decide +kernel) (pa_cons (pv 4) pa_nil)) (pe_c (c_law_draw T) hr (by decide) (by rfl) (pa_cons (pv 0) (pa_cons pe_int pa_nil)))) pa_nil)) (pe_op op_rep (pe_lst (pa_cons pe_int pa_nil)) (pe_op op_sub (pv 2) pe_int))))
      (pss_cons (ps_if (PW.pt (pw_and (pt_cmpR op_gt (pv 2) pe_int (nomark _)) (pw_and1 (pt_cmpR op_ne (pe_callB (call_reprD hgu hr) (by rfl) T.f_repr (by decide +kernel) (pa_cons (pe_c (c_shaped T) hr (by decide) (by rfl) (pa_cons (pv 8) (pa_cons (pv 3) pa_nil))) pa_nil)) (pe_callB (call_reprD hgu hr) (by rfl) T.f_repr (by decide +kernel) (pa_cons (pv 4) pa_nil)) (nomark _))))) (pss_one (ps_ret pe_bl)) pss_nil)
      (pss_cons (ps_expr (pe_bm PySem.F.plainAttrs_list PySem.F.slot_list_append PySem.F.type_list_append mt_append (pv 5) (pa_cons pe_int pa_nil)))
      (pss_cons (ps_asg (pe_c (c_law_bad T) hr (by decide) (by rfl) (pa_cons (pv 0) pa_nil)) (pg_tup (by rfl) (pgs_cons (pg_name (i := 9) sc_law_right.nd rfl (Or.inl rfl)) (pgs_cons (pg_name (i := 10) sc_law_right.nd rfl (Or.inl rfl)) pgs_nil))))
      (pss_cons (ps_if (PW.pt (pw_or (pt_cmpR op_ne (pe_callB (call_reprD hgu hr) (by rfl) T.f_repr (by decide +kernel) (pa_cons (pe_c (c_law_refused T) hr (by decide) (by rfl) (pa_cons (pv 9) (pa_cons (pv 2) pa_nil))) pa_nil)) (pe_callB (call_reprD hgu hr) (by rfl) T.f_repr (by decide +kernel) (pa_cons (pv 10) pa_nil)) (nomark _))
          (pw_or1 (pt_not (pt_val (pe_callG (ok_law_long_right T FL) hgu (hr.mono (by decide)) (by rfl) T.g_law_long_right FL.kp bL .nil pass0 (pa_cons (pv 0) pa_nil))))))) (pss_one (ps_ret pe_bl)) pss_nil)
      (pss_one (ps_ret (pe_and (pe_cmpR op_eq (pe_callB (call_reprD hgu hr) (by rfl) T.f_repr (by decide +kernel) (pa_cons (pe_greedyK T hr (by decide) (by rfl) (pk_cons (pv 2) (pk_cons (pv 3) pk_nil))) pa_nil)) (pe_callB (call_reprD hgu hr) (by rfl) T.f_repr (by decide +kernel) (pa_cons (pv 4) pa_nil)) (nomark _))
        (pe_one (pe_cmpR (op_eqD (room64 hr)) (pe_c (c_greedy T) hr (by decide) (by rfl) (pa_cons (pv 3) (pa_cons pe_int pa_nil))) (pe_lst pa_nil) (nomark _))))))))))))))))), ?_⟩
    -- the row, the span
    refine ⟨_, rfl, r, rfl, R, fun H1 v k1 R1 g1 => ⟨_, rfl, r, 25, rfl, R1, by decide, by decide, fun H2 n k2 R2 hd2 => ⟨small_len (by simp) |> Nat.le_of_lt, fun tp htp => ?_⟩⟩⟩
    obtain ⟨t, a, fv, p, g, rfl, row, ha0, ht0, RB, SB⟩ := g1.keep R k2
    have ar := R.ne ha0
    refine ⟨tp, _, rfl, SqT.of upd_same, rfl, _, _, rfl, _, _, rfl, rfl, ?_⟩
    have k3 := (k1.trans k2).trans (KeepX.of (same_upd (o := .tup [.ref t, .int (n : Nat)]) htp))
    have R3 := R2.same (same_upd (o := .tup [.ref t, .int (n : Nat)]) htp)
    have row := row.same (same_upd (o := .tup [.ref t, .int (n : Nat)]) htp)
    generalize upd H2 tp (.tup [.ref t, .int (n : Nat)]) = H3 at k3 R3 row ⊢
    clear k1 k2 R1 R2 g1 htp
    -- the curve
    refine ⟨_, rfl, t, _, _, .ref a, rfl, rfl, SqT.of row.1, rfl, a, _, rfl, .inl (SqL.of row.2), fun l hl => ?_⟩
    have k4 := k3.trans (KeepX.of (same_upd (o := .lst (fv.map V.int)) hl))
    have R4 := R3.same (same_upd (o := .lst (fv.map V.int)) hl)
    have row := row.same (same_upd (o := .lst (fv.map V.int)) hl)
    have hl4 : upd H3 l (.lst (fv.map V.int)) l = some (.lst (fv.map V.int)) := upd_same
    generalize upd H3 l (.lst (fv.map V.int)) = H4 at k4 R4 row hl4 ⊢
    clear k3 R3 hl
    refine ⟨_, rfl, t, _, _, .int p, rfl, rfl, SqT.of row.1, rfl, _, rfl, t, _, _, .int g, rfl, rfl, SqT.of row.1, rfl, rfl, rfl, fun c dc hc hdc ndc => ?_⟩
    have sm5 : Same H4 (upd (upd H4 dc (.own c)) c (.ins (cvA K) dc [])) := fun b o e => by
      rw [upd_ne (ne_of_none e hc), upd_ne (ne_of_none e hdc)]
      exact e
    refine ⟨c, dc, l, fv, p, g, rfl, upd_same, sm5 _ _ hl4, RB, fun H6 la m kk hla cv => ⟨rfl, ?_⟩⟩
    have sm5 : Same H4 H6 := fun b o e => kk b o (ne_of_none e hc) (sm5 b o e)
    have cr := R4.ne hc
    have lar : la ≠ r := fun e => by
      obtain ⟨A0, B0, h1, _⟩ := R4
      rw [e, upd_ne (Ne.symm cr), upd_ne (fun e => by rw [← e, h1] at hdc; cases hdc), h1] at hla
      cases hla
    have k6 := k4.trans (KeepX.of sm5)
    have R6 := R4.same sm5
    have row := row.same sm5
    clear k4 R4 hl4 kk sm5 hla
    -- due
    obtain ⟨f, hf⟩ : ∃ f, f = vAt fv p g := ⟨_, rfl⟩
    have f0 : f 0 = 0 := by rw [hf]; exact vAt_zero _ _ _
    have fm : Mono f := by rw [hf]; exact RB.mono
    have SB : Sub f := by rw [hf]; exact SB
    have sml : ∀ j, j ≤ 200 → Sml (due f j) := fun j hj => by rw [hf]; exact due_sml RB hj
    have fnn : ∀ j, 0 ≤ f j := fun j => mono_nn fm f0 j
    have cv : CvAt K f m la H6 c := by rw [hf]; exact cv
    have p1 := RB.p1
    have pn := RB.pn
    have n24 := RB.n24
    refine ⟨_, rfl, n, rfl, by omega, by omega, ?_⟩
    rw [show ((n : Nat) : Int).toNat = n from by omega]
    refine fun D hD => lc_range (lo := 0) (n := n) (fun i H' => H' = upd H6 D (.lst ((due f i).map V.int))) rfl ?_ ?_
    · rintro i H' hi rfl
      refine ⟨rfl, ?_⟩
      dsimp only [tYes]
      refine iteT ?_
      have row2 := row.same (same_upd hD (o := .lst ((due f i).map V.int)))
      have hD2 : upd H6 D (.lst ((due f i).map V.int)) D = some (.lst ((due f i).map V.int)) := upd_same
      refine ⟨_, rfl, _, rfl, _, _, rfl, rfl, t, a, fv, p, i + 1, g, by simp [Int.natCast_add], SqT.of row2.1, SqL.of row2.2, p1, pn, by omega, by omega, ?_⟩
      refine ⟨_, rfl, _, rfl, t, a, fv, p, i, g, by simp, SqT.of row2.1, SqL.of row2.2, p1, pn, by omega, by omega, _, _, rfl, rfl, ?_⟩
      rw [← hf]
      refine ⟨_, hD2, small_len (by rw [List.length_map, due_length]; omega), ?_⟩
      rw [upd_upd, due_succ, List.map_append]
      rfl
    · rintro H' rfl
      have Dr := R6.ne hD
      have D0 := k6.free R R6 hD
      have smD : Same H6 (upd H6 D (.lst ((due f n).map V.int))) := same_upd hD
      have k7 := k6.trans (KeepX.of smD)
      have R7 := R6.same smD
      have row := row.same smD
      have cv := cv.same smD
      have hD7 : upd H6 D (.lst ((due f n).map V.int)) D = some (.lst ((due f n).map V.int)) := upd_same
      generalize upd H6 D (.lst ((due f n).map V.int)) = H7 at k7 R7 row cv hD7 ⊢
      clear k6 R6 smD hD
      have sd : Sml (due f n) := sml n (by omega)
      have ld : (due f n).length ≤ 200 := by rw [due_length]; omega
      have nnd := due_nn fm (k := n)
      have kpd := due_keeps f0 SB n
      -- told
      refine ⟨_, rfl, _, rfl, c, la, f, m, n, rfl, by omega, cv, SB, fun tl htl => ?_⟩
      have tlr := R7.ne htl
      have tl0 := k7.free R R7 htl
      have Dtl : D ≠ tl := ne_of_none hD7 htl
      obtain ⟨ctl, latl⟩ := cv.ne htl
      have sm8 : Same H7 (upd H7 tl (.lst ((due f n).map V.int))) := same_upd htl
      have k8 := k7.trans (KeepX.of sm8)
      have R8 := R7.same sm8
      have row := row.same sm8
      have cv := cv.same sm8
      have hD8 := sm8 _ _ hD7
      have ht8 : upd H7 tl (.lst ((due f n).map V.int)) tl = some (.lst ((due f n).map V.int)) := upd_same
      generalize upd H7 tl (.lst ((due f n).map V.int)) = H8 at k8 R8 row cv hD8 ht8 ⊢
      clear k7 R7 sm8 htl hD7
      refine ⟨_, rfl, ?_⟩
      dsimp only [tNil]
      refine rep_I ht8 sd ld ?_
      refine ⟨_, rfl, ?_⟩
      dsimp only [tNil]
      refine rep_I hD8 sd ld ?_
      refine ⟨rfl, _, rfl, ifF (by simp) ?_⟩
      refine ⟨_, rfl, _, rfl, tl, c, la, due f n, f, m, rfl, ht8, nnd, by rw [due_length]; omega, cv, fun _ H9 s9 => ⟨true, rfl, iteF ?_⟩, fun hk => absurd kpd hk⟩
      refine ⟨_, rfl, _, rfl, tl, c, la, due f n, f, m, rfl, s9 _ _ ht8, nnd, by rw [due_length]; omega, cv.same s9, fun _ H10 s10 => ⟨rfl, _, rfl, iteF ?_⟩, fun L s e H' t' bk _ _ _ => absurd kpd bk.not⟩
      have s10 := s9.trans s10
      have k10 := k8.trans (KeepX.of s10)
      have R10 := R8.same s10
      have row := row.same s10
      have cv := cv.same s10
      have hD10 := s10 _ _ hD8
      have ht10 := s10 _ _ ht8
      clear k8 R8 hD8 ht8 s10 s9
      -- the other records
      refine ⟨_, rfl, r, 6, rfl, R10, by decide, by decide, fun H11 d11 k11 R11 hd11 => ⟨_, _, rfl, rfl, _, rfl, by omega, by omega, ?_⟩⟩
      have row := row.keep k11 R10 ar
      have cv := cv.keep k11 cr lar
      have hD11 := k11 _ _ Dr hD10
      have ht11 := k11 _ _ tlr ht10
      have k11 := k10.trans k11
      clear k10 R10 hD10 ht10
      refine for_it walk_range (fun i σ H' => ∃ x6 x7, σ = [some (.ref r), some (.ref t), some (.int n), some (.ref c), some (.ref D), some (.ref tl), x6, x7, none, none, none, none, none, none] ∧ KeepX r H11 H' ∧ RngAt H' r) ⟨none, none, rfl, KeepX.refl _ _, R11⟩ (fun _ _ _ _ _ => trivial) ?_ ?_
      · rintro i x σ H12 H13 hi ⟨x6, x7, rfl, k12, R12⟩ ⟨hH, rfl⟩
        rw [hH]
        clear hH H13
        have row12 := row.keep k12 R11 ar
        refine ⟨_, rfl, _, rfl, _, rfl, r, t, a, fv, p, g, n, rfl, R12, row12, ar, RB, by omega, fun H13 o xs k13 R13 ho hO hk hxn hxl => ?_⟩
        rw [← hf] at hk
        have or_ := R12.ne ho
        have k13 := k12.trans k13
        have cv13 := cv.keep k13 cr lar
        have ht13 := k13 _ _ tlr ht11
        refine ⟨_, rfl, _, rfl, o, c, la, xs, f, m, rfl, hO, hxn, by omega, cv13, fun _ H14 s14 => ⟨true, rfl, iteF ?_⟩, fun h => absurd hk h⟩
        have hO14 := s14 _ _ hO
        have ht14 := s14 _ _ ht13
        refine ⟨_, rfl, o, xs, rfl, hO14, by omega, fun H15 u1 s15 hu1 hU1 => ?_⟩
        refine ⟨_, rfl, tl, due f n, rfl, s15 _ _ ht14, by omega, fun H16 u2 s16 hu2 hU2 => ?_⟩
        rw [hxl] at hU1
        rw [due_length] at hU2
        have hU1 := s16 _ _ hU1
        have s16 := (s14.trans s15).trans s16
        refine ⟨u1, u2, _, _, rfl, SqL.of hU1, SqL.of hU2, fun D2 hD2 => lc_it (walk_zip (K := K) (a := u1) (b := u2) (xs := (cums xs n).map V.int) (ys := (cums (due f n) n).map V.int) (n := n) (by rw [List.length_map, List.length_map, cums_length, cums_length, Nat.min_self]))
          (fun i H' => Same H16 H' ∧ H' D2 = some (.lst ((List.replicate i true).map V.bl))) ⟨same_upd hD2, upd_same⟩ (fun i H' _ ⟨sm, _⟩ => ⟨SqL.of (sm _ _ hU1), SqL.of (sm _ _ hU2)⟩) ?_ ?_⟩
        · rintro i x H17 H18 hi ⟨s17, hD17⟩ ⟨T2, y, z, rfl, hT2, rfl, ey, ez⟩
          have ey : ((cums xs n).map V.int)[i]? = some y := ey
          have ez : ((cums (due f n) n).map V.int)[i]? = some z := ez
          obtain ⟨y', ey', rfl⟩ := getInt ey
          obtain ⟨z', ez', rfl⟩ := getInt ez
          rw [cums_get _ hi] at ey' ez'
          have hle : y' ≤ z' := by
            rw [← Option.some.inj ey', ← Option.some.inj ez', ← hxl]
            exact due_ahead f0 hk (by omega)
          refine ⟨T2, _, rfl, SqT.of upd_same, rfl, _, _, rfl, _, _, rfl, rfl, ?_⟩
          refine ⟨rfl, ?_⟩
          dsimp only [tYes]
          refine iteT ?_
          refine ⟨_, rfl, _, rfl, _, _, rfl, rfl, _, (upd_ne (ne_of_none hD17 hT2)).trans hD17, small_len (by rw [List.length_map, List.length_replicate]; omega), same_set (s17.trans (same_upd hT2)) hD2, ?_⟩
          rw [upd_same]
          dsimp only
          rw [decide_eq_true hle, List.replicate_succ', List.map_append]
          rfl
        · rintro H17 ⟨s17, hD17⟩
          refine ⟨D2, _, rfl, SqL.of hD17, true, congrArg V.bl (by simp), iteF ?_⟩
          have s17 := s16.trans s17
          exact ⟨_, _, rfl, k13.trans (KeepX.of s17), R13.same s17⟩
      · rintro σ H12 ⟨x6, x7, rfl, k12, R12⟩
        have row := row.keep k12 R11 ar
        have cv := cv.keep k12 cr lar
        have hD12 := k12 _ _ Dr hD11
        have ht12 := k12 _ _ tlr ht11
        have k12 := k11.trans k12
        clear k11 R11 hD11 ht11
        -- flood
        refine ⟨_, rfl, D, _, rfl, SqL.of hD12, _, rfl, r, 3, rfl, R12, by decide, by decide, fun H13 d13 k13 R13 hd13 => ⟨_, _, rfl, rfl, ?_⟩⟩
        obtain ⟨Fl, hFl⟩ : ∃ Fl, Fl = (due f n).sum + (d13 : Int) := ⟨_, rfl⟩
        have leF : f n ≤ Fl := by
          rw [hFl, due_sum f0]
          omega
        dsimp only
        rw [← hFl]
        have cv := cv.keep k13 cr lar
        have hD13 := k13 _ _ Dr hD12
        have ht13 := k13 _ _ tlr ht12
        have k13 := k12.trans k13
        clear k12 R12 hD12 ht12
        refine ⟨small_len (by simp) |> Nat.le_of_lt, fun z1 hz1 => ⟨small_len (by simp) |> Nat.le_of_lt, fun z2 hz2 => ?_⟩⟩
        have s14 : Same H13 (upd (upd H13 z1 (.lst [V.int Fl])) z2 (.lst [V.int 0])) := (same_upd hz1).trans (same_upd hz2)
        have hz1' : upd (upd H13 z1 (.lst [V.int Fl])) z2 (.lst [V.int 0]) z1 = some (.lst [V.int Fl]) := (same_upd hz2) _ _ upd_same
        have hz2' : upd (upd H13 z1 (.lst [V.int Fl])) z2 (.lst [V.int 0]) z2 = some (.lst [V.int 0]) := upd_same
        generalize upd (upd H13 z1 (.lst [V.int Fl])) z2 (.lst [V.int 0]) = H14 at s14 hz1' hz2' ⊢
        refine ⟨_, rfl, _, _, rfl, rfl, z2, (n : Int) - 1, _, rfl, rfl, hz2', by omega, by omega, small_len (by rw [List.length_singleton]; omega) |> Nat.le_of_lt, fun z3 hz3 => ?_⟩
        refine ⟨z1, z3, _, _, rfl, rfl, (same_upd hz3) _ _ hz1', upd_same, small_len (by simp; omega) |> Nat.le_of_lt, fun z4 hz4 => ?_⟩
        rw [flood_list0 Fl n]
        have s15 := s14.trans (same_upd (o := .lst (List.replicate ((n : Int) - 1).toNat [V.int 0]).flatten) hz3)
        generalize upd H14 z3 (.lst (List.replicate ((n : Int) - 1).toNat [V.int 0]).flatten) = H15 at s15 hz4 ⊢
        have s16 := s15.trans (same_upd (o := .lst ((Fl :: List.replicate (n - 1) 0).map V.int)) hz4)
        have hz5 : upd H15 z4 (.lst ((Fl :: List.replicate (n - 1) 0).map V.int)) z4 = some (.lst ((Fl :: List.replicate (n - 1) 0).map V.int)) := upd_same
        generalize upd H15 z4 (.lst ((Fl :: List.replicate (n - 1) 0).map V.int)) = H16 at s16 hz5 ⊢
        have xl : (Fl :: List.replicate (n - 1) (0 : Int)).length ≤ 400 := by
          rw [List.length_cons, List.length_replicate]
          omega
        refine ⟨_, rfl, _, _, rfl, rfl, _, rfl, ?_⟩
        by_cases c0 : 0 < n
        · refine ifT (decide_eq_true (by omega)) ?_
          have xe : (Fl :: List.replicate (n - 1) (0 : Int)).length = n := by
            rw [List.length_cons, List.length_replicate]
            omega
          refine ⟨_, rfl, _, rfl, z4, c, la, Fl :: List.replicate (n - 1) 0, f, m, Fl, rfl, hz5, fun i hi => flood_get Fl (by omega) (by rw [xe] at hi; exact hi), xl, cv.same s16, SB, fm, by rw [xe]; exact leF, fun H17 t2 s17 ht2 hT2 => ?_⟩
          rw [xe] at hT2
          dsimp only [tNil]
          refine rep_I hT2 sd ld ?_
          refine ⟨_, rfl, ?_⟩
          dsimp only [tNil]
          refine rep_I ((s16.trans s17) _ _ hD13) sd ld ?_
          refine ⟨rfl, _, rfl, ifF (by simp) ?_⟩
          have s17 := s16.trans s17
          -- the list that it gave is its own
          have R17 := R13.same s17
          have k17 := k13.trans (KeepX.of s17)
          have cv17 := cv.same s17
          have hD17 := s17 _ _ hD13
          have ht17 := s17 _ _ ht13
          refine ⟨_, rfl, .inl ⟨rfl, _, SqL.of ht17⟩, tl, _, _, rfl, rfl, ht17, small_len (by rw [List.length_map, due_length]; omega), ?_⟩
          have k18 := keepX_new (o := .lst ((due f n).map V.int ++ [V.int 7])) k17 tl0
          have R18 := R17.upd (o := .lst ((due f n).map V.int ++ [V.int 7])) tlr
          have hD18 := (upd_ne (H := H17) (o := .lst ((due f n).map V.int ++ [V.int 7])) Dtl).trans hD17
          have cv18 := cv17.to (H' := upd H17 tl (.lst ((due f n).map V.int ++ [V.int 7]))) (fun b o hb e => (upd_ne (hb.elim (fun z => by rw [z]; exact ctl) fun z => by rw [z]; exact latl)).trans e)
          generalize upd H17 tl (.lst ((due f n).map V.int ++ [V.int 7])) = H18 at k18 R18 hD18 cv18 ⊢
          -- a curve that is not good
          refine ⟨_, rfl, r, rfl, R18, fun H19 bt bs bz ba bc bk k19 R19 hbt0 hbs0 hbt hbs hbz b1 b2 b3 b4 b5 => ?_⟩
          have bzr : bz ≠ r := fun e => by
            obtain ⟨A0, B0, h1, _⟩ := R19
            rw [e, h1] at hbz
            cases hbz
          have cv19 := cv18.keep k19 cr lar
          have hD19 := k19 _ _ Dr hD18
          have k19 := k18.trans k19
          refine ⟨bt, _, rfl, SqT.of hbt, rfl, _, _, rfl, _, _, rfl, rfl, ?_⟩
          refine ⟨_, rfl, _, rfl, bs, _, ba, bc, bk, rfl, hbs, b1, b2, b3, b4, b5, fun H20 rt s20 hrt0 hrt => ?_⟩
          have sb : Sml [1, (bk : Int)] := fun x hx => by
            simp only [List.mem_cons, List.not_mem_nil, or_false] at hx
            rcases hx with rfl | rfl <;> omega
          dsimp only [tNil]
          refine rep_T (xs := [1, (bk : Int)]) hrt sb (by simp) ?_
          refine ⟨_, rfl, ?_⟩
          dsimp only [tNil]
          refine rep_T (xs := [1, (bk : Int)]) (s20 _ _ hbz) sb (by simp) ?_
          refine ⟨rfl, _, rfl, ifF (by simp) ?_⟩
          have R20 := R19.same s20
          refine ⟨_, rfl, r, rfl, R20, fun H21 k21 => ⟨true, rfl, iteF ?_⟩⟩
          have cv21 := (cv19.same s20).keep k21 cr lar
          have hD21 := k21 _ _ Dr (s20 _ _ hD19)
          have k21 := (k19.trans (KeepX.of s20)).trans k21
          -- the same again
          refine ⟨_, rfl, _, rfl, rfl, rfl, c, la, f, m, n, rfl, by omega, cv21, SB, fun g1 hg1 => ?_⟩
          dsimp only [tNil]
          refine rep_I upd_same sd ld ?_
          have s22 : Same H21 (upd H21 g1 (.lst ((due f n).map V.int))) := same_upd hg1
          refine ⟨_, rfl, ?_⟩
          dsimp only [tNil]
          refine rep_I (s22 _ _ hD21) sd ld ?_
          refine ⟨rfl, _, rfl, ifT (by simp) ?_⟩
          generalize upd H21 g1 (.lst ((due f n).map V.int)) = H22 at s22 ⊢
          refine ⟨_, rfl, c, la, f, m, 0, rfl, by omega, cv21.same s22, SB, fun g2 hg2 => ⟨small_len (by simp) |> Nat.le_of_lt, fun g3 hg3 => ?_⟩⟩
          have s23 := s22.trans (same_upd (o := .lst ((due f 0).map V.int)) hg2)
          have s24 := s23.trans (same_upd (o := .lst []) hg3)
          exact ⟨.list [], .list [], .lst (SqL.of ((same_upd hg3) _ _ upd_same)) .nil, .lst (SqL.of upd_same) .nil, rfl, rfl, q _ (k21.trans (KeepX.of s24))⟩
        · refine ifF (decide_eq_false (by omega)) ?_
          refine iteF ?_
          obtain ⟨H17, s17⟩ : ∃ H17, H17 = H16 := ⟨_, rfl⟩
          rw [← s17]
          have s17 : Same H13 H17 := by rw [s17]; exact s16
          -- the list that it gave is its own
          have R17 := R13.same s17
          have k17 := k13.trans (KeepX.of s17)
          have cv17 := cv.same s17
          have hD17 := s17 _ _ hD13
          have ht17 := s17 _ _ ht13
          refine ⟨_, rfl, .inl ⟨rfl, _, SqL.of ht17⟩, tl, _, _, rfl, rfl, ht17, small_len (by rw [List.length_map, due_length]; omega), ?_⟩
          have k18 := keepX_new (o := .lst ((due f n).map V.int ++ [V.int 7])) k17 tl0
          have R18 := R17.upd (o := .lst ((due f n).map V.int ++ [V.int 7])) tlr
          have hD18 := (upd_ne (H := H17) (o := .lst ((due f n).map V.int ++ [V.int 7])) Dtl).trans hD17
          have cv18 := cv17.to (H' := upd H17 tl (.lst ((due f n).map V.int ++ [V.int 7]))) (fun b o hb e => (upd_ne (hb.elim (fun z => by rw [z]; exact ctl) fun z => by rw [z]; exact latl)).trans e)
          generalize upd H17 tl (.lst ((due f n).map V.int ++ [V.int 7])) = H18 at k18 R18 hD18 cv18 ⊢
          -- a curve that is not good
          refine ⟨_, rfl, r, rfl, R18, fun H19 bt bs bz ba bc bk k19 R19 hbt0 hbs0 hbt hbs hbz b1 b2 b3 b4 b5 => ?_⟩
          have bzr : bz ≠ r := fun e => by
            obtain ⟨A0, B0, h1, _⟩ := R19
            rw [e, h1] at hbz
            cases hbz
          have cv19 := cv18.keep k19 cr lar
          have hD19 := k19 _ _ Dr hD18
          have k19 := k18.trans k19
          refine ⟨bt, _, rfl, SqT.of hbt, rfl, _, _, rfl, _, _, rfl, rfl, ?_⟩
          refine ⟨_, rfl, _, rfl, bs, _, ba, bc, bk, rfl, hbs, b1, b2, b3, b4, b5, fun H20 rt s20 hrt0 hrt => ?_⟩
          have sb : Sml [1, (bk : Int)] := fun x hx => by
            simp only [List.mem_cons, List.not_mem_nil, or_false] at hx
            rcases hx with rfl | rfl <;> omega
          dsimp only [tNil]
          refine rep_T (xs := [1, (bk : Int)]) hrt sb (by simp) ?_
          refine ⟨_, rfl, ?_⟩
          dsimp only [tNil]
          refine rep_T (xs := [1, (bk : Int)]) (s20 _ _ hbz) sb (by simp) ?_
          refine ⟨rfl, _, rfl, ifF (by simp) ?_⟩
          have R20 := R19.same s20
          refine ⟨_, rfl, r, rfl, R20, fun H21 k21 => ⟨true, rfl, iteF ?_⟩⟩
          have cv21 := (cv19.same s20).keep k21 cr lar
          have hD21 := k21 _ _ Dr (s20 _ _ hD19)
          have k21 := (k19.trans (KeepX.of s20)).trans k21
          -- the same again
          refine ⟨_, rfl, _, rfl, rfl, rfl, c, la, f, m, n, rfl, by omega, cv21, SB, fun g1 hg1 => ?_⟩
          dsimp only [tNil]
          refine rep_I upd_same sd ld ?_
          have s22 : Same H21 (upd H21 g1 (.lst ((due f n).map V.int))) := same_upd hg1
          refine ⟨_, rfl, ?_⟩
          dsimp only [tNil]
          refine rep_I (s22 _ _ hD21) sd ld ?_
          refine ⟨rfl, _, rfl, ifT (by simp) ?_⟩
          generalize upd H21 g1 (.lst ((due f n).map V.int)) = H22 at s22 ⊢
          refine ⟨_, rfl, c, la, f, m, 0, rfl, by omega, cv21.same s22, SB, fun g2 hg2 => ⟨small_len (by simp) |> Nat.le_of_lt, fun g3 hg3 => ?_⟩⟩
          have s23 := s22.trans (same_upd (o := .lst ((due f 0).map V.int)) hg2)
          have s24 := s23.trans (same_upd (o := .lst []) hg3)
          exact ⟨.list [], .list [], .lst (SqL.of ((same_upd hg3) _ _ upd_same)) .nil, .lst (SqL.of upd_same) .nil, rfl, rfl, q _ (k21.trans (KeepX.of s24))⟩
end
end K23

/-! ## W18 -/
namespace K23
open PySem PySem.Spec PyProof.Rows L2
open C8 (Cal Met Mak pe_c pe_mk pe_mt pe_mt0)
section
variable {P : Program} {w : World} {K : PySem.W.Frag} {mg : Str → Option Value} {base : Heap}
def spLaw (K : PySem.W.Frag) : Sp := fun vs H Q _ => ∃ (a : Addr) (ns : List Int), vs = [.ref a] ∧ SqL K H a (ns.map V.int) ∧ ∀ H', Q (.bl true) H'
theorem sc_law : FnScope ["_law_script", "_law_k"] ["_law_script"] (defScope s_law) := ⟨rfl, rfl, rfl, by decide +kernel, rfl, by decide +kernel, by decide +kernel⟩
theorem ok_law (T : Txt K mg) {fd : FuncData} (F : Fn K "law" "law" s_law [] [] (He.ga K "law") fd) : FnG P w K mg base CX0 11 (He.ga K "law") fd ["_law_script"] (spLaw K) := by
  obtain ⟨fdR, FR⟩ := T.d_law_right
  have bR := FunD.bindsN (ps := ["_law_rng_here"]) FR fun _ _ _ _ _ _ us hl => match us, hl with | [_], _ => rfl
  refine FunD.okG F sc_law (fun vs H Q E h => ?_) (fun cdv A outer s H vs Q E hgu hr h => ?_)
  · obtain ⟨a, ns, rfl, _⟩ := h
    rfl
  · obtain ⟨a, ns, rfl, hS, q⟩ := h
    refine ⟨_, PSs.nox (pss_one (ps_ret (pe_callB (cr_all rfl) (by rfl) T.f_all (by decide +kernel) (pa_cons
        (pe_lc (own := [("_law_k", 1)]) (g := gName 1) (by rfl) sc_law.nd (pi_range1 (by rfl) T.f_range (pa_cons (pe_callB (call_max2 rfl) (by rfl) T.f_max (by decide +kernel) (pa_cons pe_int (pa_cons (pe_callB (call_min2 rfl) (by rfl) T.f_min (by decide +kernel) (pa_cons (pe_callB call_len_seq (by rfl) T.f_len PySem.boot_len (pa_cons (pv 0) pa_nil)) (pa_cons pe_int pa_nil))) pa_nil))) pa_nil))
          (blkOk_by (own := [("_law_k", 1)]) (N := ["_law_script", "_law_k"]) (sc := defScope s_law) (by decide +kernel)) (fun _ _ _ _ _ => pg_name (i := 1) sc_law.nd rfl (Or.inl rfl))
          (fun _ _ _ _ _ => pts_nil)
          (fun _ _ _ _ _ => pe_callG (ok_law_right T FR) hgu hr (by rfl) T.g_law_right FR.kp bR .nil pass0 (pa_cons (pe_c (c_law_rng T) hr (by decide) (by rfl) (pa_cons (pv 0) (pa_cons (pv 1) pa_nil))) pa_nil))) pa_nil)))), ?_⟩
    refine ⟨_, rfl, a, _, rfl, .inl hS, _, _, rfl, ?_⟩
    rw [minE, List.length_map]
    refine ⟨_, _, rfl, ?_⟩
    rw [maxE]
    obtain ⟨m, hm⟩ : ∃ m : Nat, (m : Int) = max 2 (min (ns.length : Int) 5) := ⟨(max 2 (min (ns.length : Int) 5)).toNat, by omega⟩
    rw [← hm]
    refine ⟨_, rfl, by omega, by omega, ?_⟩
    rw [show ((m : Nat) : Int).toNat = m from by omega]
    refine fun D hD => lc_range (lo := 0) (n := m) (fun i H' => Same H H' ∧ H' D = some (.lst ((List.replicate i true).map V.bl))) ⟨same_upd hD, upd_same⟩ ?_ ?_
    · rintro i H' hi ⟨s1, hD'⟩
      have hS' := s1.seq hS
      refine ⟨rfl, ?_⟩
      dsimp only [tYes]
      refine iteT ?_
      refine ⟨_, rfl, _, rfl, a, ns, i, by simp, hS', by omega, fun H1 r sm hr0 R => ?_⟩
      refine ⟨r, rfl, R, fun H2 k2 => ?_⟩
      have s2 : Same H' H2 := fun b o e => k2 b o (ne_of_none e hr0) (sm b o e)
      refine ⟨_, s2 _ _ hD', small_len (by rw [List.length_map, List.length_replicate]; omega), same_set (s1.trans s2) hD, ?_⟩
      rw [upd_same, List.replicate_succ', List.map_append]
      rfl
    · rintro H' ⟨_, hD'⟩
      refine ⟨D, _, rfl, SqL.of hD', ?_⟩
      have : (List.replicate m true).all id = true := by simp
      rw [this]
      exact q H'
end
end K23

/-! ## W19 -/
namespace K23
open PySem PySem.Spec PyProof.Rows L2
theorem facts {P : Program} {w : World} {K : PySem.W.Frag} {h : Heap} {mg : Str → Option Value} {f : Addr} (X : K.In h) (G : h.Ns mainGlobals mg) (hfa : mg ("law" : Str) = some (.ref f)) (c : He.SaysX faL fnL [] [] exB w h K) :
    ∃ fd : FuncData, (∀ (s : Shared) (v : Value), BindsTo s fd ⟨[v], []⟩ [("_law_script", v)]) ∧ ∀ base : Heap, K.In base → base.Ns mainGlobals mg → FnG P w K mg base CX0 11 f fd ["_law_script"] (spLaw K) := by
  have T := txt_of X G c
  obtain ⟨fd, F⟩ := T.d_law
  have e := hfa.symm.trans T.g_law
  cases e
  have b := FunD.bindsA (ps := ["_law_script"]) F fun _ _ _ _ _ _ us hl => match us, hl with | [_], _ => rfl
  exact ⟨fd, fun s v => b s [v] rfl, fun base _ _ => ok_law T F⟩
end K23
open PySem PySem.W PySem.Calls PyProof.Rows
theorem PySem.Challenge.cw_dueways_k23_whole_greedy_is_ahead_holds : PySem.Challenge.rw_dueways_k23_whole_greedy_is_ahead.Holds := by
  w_on; o_law
  refine HandSHeadRun.head_any (r := OpenLaw.row PySem.Challenge.rw_dueways_k23_whole_greedy_is_ahead) (q := view (OpenLaw.row PySem.Challenge.rw_dueways_k23_whole_greedy_is_ahead).prog [52]) (H := K23.hk) (ob := K23.ob) (M := 60000) (loose := K23.looseL) (d := HandSHeadRun.topDef (OpenLaw.row PySem.Challenge.rw_dueways_k23_whole_greedy_is_ahead).prog 52) (kwd := []) K23.ob_eq
    (by kernel_rfl) (fun s => by kernel_rfl) K23.run (by kernel_rfl) (by kernel_rfl) (by kernel_rfl) (by rfl) (by first | assumption | decide +kernel) (by decide +kernel) ⟨rfl, rfl, rfl, rfl, rfl, by decide +kernel⟩ ?hw ?hc
  case hw => w_witness2
  case hc =>
    refine L2.walk_ofG (l := PySem.Challenge.rw_dueways_k23_whole_greedy_is_ahead) (n := 63) (k := 11) (x := "_law_script") (CX := L2.CX0) rfl (by decide) (by kernel_rfl) ⟨rfl, by decide, by decide⟩ ?F (fun _ _ _ _ z => z)
    intro w mg fa h Y G hmg0
    obtain ⟨K, KX, c⟩ := Y
    have hmg : mg ("law" : PySem.Str) = some (.ref fa) := by
      have e : (HandSHeadRun.topDef (OpenLaw.row PySem.Challenge.rw_dueways_k23_whole_greedy_is_ahead).prog 52).name = ("law" : PySem.Str) := by kernel_rfl
      rw [← e]
      exact hmg0
    obtain ⟨fd, hb, hF⟩ := K23.facts (P := (PySem.Challenge.rw_dueways_k23_whole_greedy_is_ahead).prog) (w := w) KX G hmg c
    exact ⟨K, fd, K23.spLaw K, KX, hb, fun H a ns hl _ hS => ⟨a, ns, rfl, hS, fun _ => rfl⟩, hF⟩
