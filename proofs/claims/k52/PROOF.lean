import PyProof.Rows.All
import Wide.All
import OpenK.AllK
import Wide.FinOn
import KE.KDictZip
import KE.KDictList
import HandS.ForMost
import HandS.Zip0
import HandS.Zip
import HandS.DictComp
import HandS.Flow
import HandS.Wide
import HandS.Style
import HandS.Defaults
import HandS.MakeKwOnly
import HandS.Property
import HandS.Star
import HandS.OwnEq
import HandS.More
import HandS.Walk
import PySem.Challenge.RW_rotatedlogs_k52_whole_design_of_many_len
import HandS.Codes
import HandS.FStrTup
set_option Elab.async false
set_option linter.all false
set_option maxRecDepth 100000
set_option maxHeartbeats 4000000
namespace G24
/-! The mathematics of rotated logs: no program in sight. -/

/-! ### least items of lists -/
def minL : List Int → Int
  | [] => 0
  | [a] => a
  | a :: b :: r => min a (minL (b :: r))

theorem minL_mem : ∀ {xs : List Int}, xs ≠ [] → minL xs ∈ xs
  | [], h => absurd rfl h
  | [a], _ => List.mem_cons_self
  | a :: b :: r, _ => by
    have ih := minL_mem (xs := b :: r) (by simp)
    show min a (minL (b :: r)) ∈ a :: b :: r
    rcases Int.le_total a (minL (b :: r)) with h | h
    · rw [Int.min_eq_left h]; exact List.mem_cons_self
    · rw [Int.min_eq_right h]; exact List.mem_cons_of_mem _ ih

theorem minL_le : ∀ {xs : List Int} {y : Int}, y ∈ xs → minL xs ≤ y
  | [a], y, h => by
    have : y = a := by simpa using h
    subst this; exact Int.le_refl _
  | a :: b :: r, y, h => by
    show min a (minL (b :: r)) ≤ y
    rcases List.mem_cons.mp h with rfl | h
    · exact Int.min_le_left _ _
    · exact Int.le_trans (Int.min_le_right _ _) (minL_le h)

theorem minL_eq {xs : List Int} {m : Int} (h : m ∈ xs) (h2 : ∀ y ∈ xs, m ≤ y) : m = minL xs := by
  have hne : xs ≠ [] := fun e => by subst e; cases h
  have a := h2 _ (minL_mem hne)
  have b := minL_le h
  omega

/-- least of a map -/
theorem minL_map_ge {α : Type} {xs : List α} {f : α → Int} {m : Int} (hne : xs ≠ []) (h : ∀ x ∈ xs, m ≤ f x) : m ≤ minL (xs.map f) := by
  have := minL_mem (xs := xs.map f) (by simpa using hne)
  obtain ⟨x, hx, e⟩ := List.mem_map.mp this
  rw [← e]; exact h x hx

theorem minL_map_le {α : Type} {xs : List α} {f : α → Int} {x : α} (h : x ∈ xs) : minL (xs.map f) ≤ f x := minL_le (List.mem_map_of_mem h)

theorem minL_map_at {α : Type} {xs : List α} (f : α → Int) (hne : xs ≠ []) : ∃ x ∈ xs, minL (xs.map f) = f x := by
  have := minL_mem (xs := xs.map f) (by simpa using hne)
  obtain ⟨x, hx, e⟩ := List.mem_map.mp this
  exact ⟨x, hx, e.symm⟩

theorem minL_add {α : Type} {xs : List α} {f g : α → Int} {d : Int} (hne : xs ≠ []) (h : ∀ x ∈ xs, f x = g x + d) : minL (xs.map f) = minL (xs.map g) + d := by
  obtain ⟨x, hx, e⟩ := minL_map_at f hne
  obtain ⟨y, hy, e'⟩ := minL_map_at g hne
  have a := minL_map_le (f := f) hy
  have b := minL_map_le (f := g) hx
  rw [h y hy] at a
  rw [h x hx] at e
  omega

theorem minL_congr {α : Type} {xs : List α} {f g : α → Int} (h : ∀ x ∈ xs, f x = g x) : minL (xs.map f) = minL (xs.map g) := by
  rw [List.map_congr_left h]

/-! ### fills that a file with a given first line can have -/
inductive Reach (ls : List Int) (f : Int) : Int → Prop where
  | base : Reach ls f f
  | step {t l : Int} : Reach ls f t → l ∈ ls → Reach ls f (t + l)

theorem Reach.mono {ls ls' : List Int} {f t : Int} (hs : ∀ l ∈ ls', l ∈ ls) (h : Reach ls' f t) : Reach ls f t := by
  induction h with
  | base => exact .base
  | step _ hl ih => exact .step ih (hs _ hl)

theorem Reach.ge {ls : List Int} {f t : Int} (lo : ∀ l ∈ ls, 1 ≤ l) (h : Reach ls f t) : f ≤ t := by
  induction h with
  | base => exact Int.le_refl _
  | step _ hl ih => have := lo _ hl; omega

theorem Reach.inv {ls : List Int} {f t : Int} (h : Reach ls f t) : t = f ∨ ∃ l ∈ ls, Reach ls f (t - l) := by
  cases h with
  | base => exact .inl rfl
  | step h hl =>
    refine .inr ⟨_, hl, ?_⟩
    rename_i t l
    have : t + l - l = t := by omega
    rw [this]; exact h

structure Rules (size : Int) (ls : List Int) : Prop where
  ne : ls ≠ []
  asc : ls.Pairwise (· < ·)
  lo : ∀ l ∈ ls, 1 ≤ l
  hi : ∀ l ∈ ls, l ≤ size

/-- the least fill of a turn -/
structure IsCost (size : Int) (ls : List Int) (f l c : Int) : Prop where
  reach : Reach ls f c
  above : size - l < c
  most : c ≤ size
  least : ∀ t, Reach ls f t → size - l < t → c ≤ t

theorem IsCost.inj {size : Int} {ls : List Int} {f l c d : Int} (a : IsCost size ls f l c) (b : IsCost size ls f l d) : c = d := by
  have := a.least _ b.reach b.above
  have := b.least _ a.reach a.above
  omega

theorem reach_above {size : Int} {ls : List Int} (R : Rules size ls) {f l : Int} (hf : f ≤ size) (hl : l ∈ ls) : ∃ t, Reach ls f t ∧ size - l < t ∧ t ≤ size := by
  have key : ∀ n : Nat, ∀ t, Reach ls f t → t ≤ size → size - t ≤ n → ∃ u, Reach ls f u ∧ size - l < u ∧ u ≤ size := by
    intro n
    induction n with
    | zero =>
      intro t h1 h2 h3
      have := R.lo _ hl
      exact ⟨t, h1, by omega, h2⟩
    | succ n ih =>
      intro t h1 h2 h3
      have := R.lo _ hl
      by_cases hc : size - l < t
      · exact ⟨t, h1, hc, h2⟩
      · exact ih (t + l) (.step h1 hl) (by omega) (by omega)
  exact key (size - f).toNat f .base hf (by omega)

theorem cost_ex {size : Int} {ls : List Int} (R : Rules size ls) {f l : Int} (hf : f ≤ size) (hl : l ∈ ls) : ∃ c, IsCost size ls f l c := by
  have key : ∀ n : Nat, ∀ t, Reach ls f t → size - l < t → t ≤ size → t - (size - l) ≤ n → ∃ c, IsCost size ls f l c := by
    intro n
    induction n with
    | zero => intro t _ h2 _ h4; omega
    | succ n ih =>
      intro t h1 h2 h3 h4
      by_cases hc : ∃ u, Reach ls f u ∧ size - l < u ∧ u < t
      · obtain ⟨u, a, b, c⟩ := hc
        exact ih u a b (by omega) (by omega)
      · refine ⟨t, h1, h2, h3, fun u a b => ?_⟩
        rcases Int.lt_or_le u t with h | h
        · exact absurd ⟨u, a, b, h⟩ hc
        · exact h
  obtain ⟨t, a, b, c⟩ := reach_above R hf hl
  exact key (t - (size - l)).toNat t a b c (by omega)

open Classical in
noncomputable def cost (size : Int) (ls : List Int) (f l : Int) : Int := if h : ∃ c, IsCost size ls f l c then h.choose else 0

theorem cost_is {size : Int} {ls : List Int} (R : Rules size ls) {f l : Int} (hf : f ∈ ls) (hl : l ∈ ls) : IsCost size ls f l (cost size ls f l) := by
  have h := cost_ex R (R.hi _ hf) hl
  unfold cost
  rw [dif_pos h]
  exact h.choose_spec

/-- what the rows need of the costs -/
structure Cst (size : Int) (ls : List Int) (c : Int → Int → Int) : Prop where
  lo : ∀ f ∈ ls, ∀ l ∈ ls, 1 ≤ c f l
  hi : ∀ f ∈ ls, ∀ l ∈ ls, c f l ≤ size
  mono : ∀ f ∈ ls, ∀ l ∈ ls, ∀ l' ∈ ls, l ≤ l' → c f l' ≤ c f l

theorem cost_cst {size : Int} {ls : List Int} (R : Rules size ls) : Cst size ls (cost size ls) where
  lo := fun f hf l hl => by
    have a := (cost_is R hf hl).reach.ge R.lo
    have b := R.lo _ hf
    omega
  hi := fun f hf l hl => (cost_is R hf hl).most
  mono := fun f hf l hl l' hl' h => by
    have a := cost_is R hf hl
    exact (cost_is R hf hl').least _ a.reach (by have := a.above; omega)

theorem cost_sub {size : Int} {ls ls' : List Int} (R : Rules size ls) (R' : Rules size ls') (hs : ∀ l ∈ ls', l ∈ ls) {f l : Int} (hf : f ∈ ls') (hl : l ∈ ls') : cost size ls f l ≤ cost size ls' f l := by
  have a := cost_is R' hf hl
  exact (cost_is R (hs _ hf) (hs _ hl)).least _ (a.reach.mono hs) a.above

/-! ### the rows -/
def xr (c : Int → Int → Int) (ls : List Int) : Nat → Int → Int
  | 0, _ => 0
  | n + 1, l => minL (ls.map fun f => xr c ls n f + c f l)
/-- the row behind n files, as the program has it -/
def rowN (c : Int → Int → Int) (ls : List Int) (n : Nat) : List Int := ls.map (xr c ls n)
/-- the fewest bytes of n files and a line behind them -/
def le (c : Int → Int → Int) (ls : List Int) (n : Nat) : Int := minL (ls.map fun f => xr c ls n f + f)

theorem rowN_length (c : Int → Int → Int) (ls : List Int) (n : Nat) : (rowN c ls n).length = ls.length := by simp [rowN]

section
variable {size : Int} {ls : List Int} {c : Int → Int → Int}

theorem xr_shift (hne : ls ≠ []) {a b : Nat} {d : Int} (h : ∀ l ∈ ls, xr c ls b l = xr c ls a l + d) : ∀ t : Nat, ∀ l ∈ ls, xr c ls (b + t) l = xr c ls (a + t) l + d
  | 0, l, hl => h l hl
  | t + 1, l, hl => by
    show minL (ls.map fun f => xr c ls (b + t) f + c f l) = minL (ls.map fun f => xr c ls (a + t) f + c f l) + d
    refine minL_add hne fun f hf => ?_
    have := xr_shift hne h t f hf
    omega

theorem xr_up (C : Cst size ls c) (hne : ls ≠ []) : ∀ n : Nat, ∀ l ∈ ls, xr c ls n l + 1 ≤ xr c ls (n + 1) l
  | 0, l, hl => by
    refine minL_map_ge hne fun f hf => ?_
    have := C.lo f hf l hl
    show (0 : Int) + 1 ≤ 0 + c f l
    omega
  | n + 1, l, hl => by
    refine minL_map_ge hne fun f hf => ?_
    have h1 := xr_up C hne n f hf
    have h2 : xr c ls (n + 1) l ≤ xr c ls n f + c f l := minL_map_le (f := fun f => xr c ls n f + c f l) hf
    omega

theorem xr_noninc (C : Cst size ls c) (hne : ls ≠ []) : ∀ n : Nat, ∀ l ∈ ls, ∀ l' ∈ ls, l ≤ l' → xr c ls n l' ≤ xr c ls n l
  | 0, _, _, _, _, _ => Int.le_refl _
  | n + 1, l, hl, l', hl', h => by
    obtain ⟨f, hf, e⟩ := minL_map_at (fun f => xr c ls n f + c f l) hne
    have h1 : xr c ls (n + 1) l' ≤ xr c ls n f + c f l' := minL_map_le (f := fun f => xr c ls n f + c f l') hf
    have h2 := C.mono f hf l hl l' hl' h
    have h3 : xr c ls (n + 1) l = xr c ls n f + c f l := e
    omega

theorem xr_near (C : Cst size ls c) (hne : ls ≠ []) (hs : 1 ≤ size) : ∀ n : Nat, ∀ l ∈ ls, ∀ l' ∈ ls, xr c ls n l ≤ xr c ls n l' + (size - 1)
  | 0, _, _, _, _ => by show (0 : Int) ≤ 0 + (size - 1); omega
  | n + 1, l, hl, l', hl' => by
    obtain ⟨f, hf, e⟩ := minL_map_at (fun f => xr c ls n f + c f l') hne
    have h1 : xr c ls (n + 1) l ≤ xr c ls n f + c f l := minL_map_le (f := fun f => xr c ls n f + c f l) hf
    have h2 := C.hi f hf l hl
    have h3 := C.lo f hf l' hl'
    have h4 : xr c ls (n + 1) l' = xr c ls n f + c f l' := e
    omega

theorem xr_most (C : Cst size ls c) (hne : ls ≠ []) : ∀ n : Nat, ∀ l ∈ ls, xr c ls n l ≤ n * size
  | 0, _, _ => by show (0 : Int) ≤ ((0 : Nat) : Int) * size; simp
  | n + 1, l, hl => by
    have h1 : xr c ls (n + 1) l ≤ xr c ls n l + c l l := minL_map_le (f := fun f => xr c ls n f + c f l) hl
    have h2 := C.hi l hl l hl
    have h3 := xr_most C hne n l hl
    have h4 : ((n + 1 : Nat) : Int) * size = (n : Int) * size + size := by
      rw [Int.natCast_add, Int.add_mul]; simp
    omega

theorem xr_nonneg (C : Cst size ls c) (hne : ls ≠ []) : ∀ n : Nat, ∀ l ∈ ls, (n : Int) ≤ xr c ls n l
  | 0, _, _ => Int.le_refl _
  | n + 1, l, hl => by
    have h1 := xr_nonneg C hne n l hl
    have h2 := xr_up C hne n l hl
    omega

theorem le_up (C : Cst size ls c) (hne : ls ≠ []) (n : Nat) : le c ls n + 1 ≤ le c ls (n + 1) := by
  refine minL_map_ge hne fun f hf => ?_
  have h1 := xr_up C hne n f hf
  have h2 : le c ls n ≤ xr c ls n f + f := minL_map_le (f := fun f => xr c ls n f + f) hf
  omega

theorem le_ge (C : Cst size ls c) (hne : ls ≠ []) (lo : ∀ l ∈ ls, 1 ≤ l) (n : Nat) : (n : Int) + 1 ≤ le c ls n := by
  refine minL_map_ge hne fun f hf => ?_
  have h1 := xr_nonneg C hne n f hf
  have h2 := lo f hf
  omega

theorem le_shift (hne : ls ≠ []) {a b : Nat} {d : Int} (h : ∀ l ∈ ls, xr c ls b l = xr c ls a l + d) : le c ls b = le c ls a + d :=
  minL_add hne fun f hf => by have := h f hf; omega

/-- a shift by a period, many times -/
theorem xr_times (hne : ls ≠ []) {r p : Nat} {b : Int} (h : ∀ l ∈ ls, xr c ls (r + p) l = xr c ls r l + b) : ∀ (j n : Nat), r ≤ n → ∀ l ∈ ls, xr c ls (n + j * p) l = xr c ls n l + j * b
  | 0, n, _, l, _ => by simp
  | j + 1, n, hn, l, hl => by
    have h1 := xr_times hne h j n hn l hl
    have h2 := xr_shift hne h (n + j * p - r) l hl
    have e1 : r + p + (n + j * p - r) = n + (j + 1) * p := by
      have : (j + 1) * p = j * p + p := by rw [Nat.add_mul, Nat.one_mul]
      omega
    have e2 : r + (n + j * p - r) = n + j * p := by omega
    rw [e1, e2] at h2
    have e3 : ((j + 1 : Nat) : Int) * b = (j : Int) * b + b := by rw [Int.natCast_add, Int.add_mul]; simp
    rw [h2, h1, e3]; omega

theorem le_times (hne : ls ≠ []) {r p : Nat} {b : Int} (h : ∀ l ∈ ls, xr c ls (r + p) l = xr c ls r l + b) (j n : Nat) (hn : r ≤ n) : le c ls (n + j * p) = le c ls n + j * b :=
  le_shift hne fun l hl => xr_times hne h j n hn l hl
end

/-! ### fewer lengths -/
theorem xr_sub {ls ls' : List Int} {c c' : Int → Int → Int} (hne : ls' ≠ []) (hs : ∀ l ∈ ls', l ∈ ls) (hc : ∀ f ∈ ls', ∀ l ∈ ls', c f l ≤ c' f l) : ∀ n : Nat, ∀ l ∈ ls', xr c ls n l ≤ xr c' ls' n l
  | 0, _, _ => Int.le_refl _
  | n + 1, l, hl => by
    refine minL_map_ge hne fun f hf => ?_
    have h1 := xr_sub hne hs hc n f hf
    have h2 : xr c ls (n + 1) l ≤ xr c ls n f + c f l := minL_map_le (f := fun f => xr c ls n f + c f l) (hs _ hf)
    have h3 := hc f hf l hl
    omega

theorem le_sub {ls ls' : List Int} {c c' : Int → Int → Int} (hne : ls' ≠ []) (hs : ∀ l ∈ ls', l ∈ ls) (hc : ∀ f ∈ ls', ∀ l ∈ ls', c f l ≤ c' f l) (n : Nat) : le c ls n ≤ le c' ls' n := by
  refine minL_map_ge hne fun f hf => ?_
  have h1 := xr_sub hne hs hc n f hf
  have h2 : le c ls n ≤ xr c ls n f + f := minL_map_le (f := fun f => xr c ls n f + f) (hs _ hf)
  omega

/-! ### shapes -/
def shape (row : List Int) : List Int := row.map fun x => x - minL row
/-- iterated sums -/
def sumTo (f : Nat → Nat) : Nat → Nat
  | 0 => 0
  | n + 1 => sumTo f n + f (n + 1)
def T : Nat → Nat → Nat
  | 0 => fun _ => 1
  | k + 1 => sumTo (T k)
theorem T_succ (k n : Nat) : T (k + 1) (n + 1) = T (k + 1) n + T k (n + 1) := rfl
theorem T_mono (k : Nat) : ∀ {n m : Nat}, n ≤ m → T k n ≤ T k m := by
  intro n m h
  induction h with
  | refl => exact Nat.le_refl _
  | step h ih =>
    rename_i m
    cases k with
    | zero => exact Nat.le_refl _
    | succ k =>
      refine Nat.le_trans ih ?_
      show T (k + 1) m ≤ T (k + 1) (m + 1)
      rw [T_succ]
      exact Nat.le_add_right _ _
theorem T1 : ∀ n, T 1 n = n
  | 0 => rfl
  | n + 1 => by rw [T_succ, T1 n]; rfl
theorem T2 : ∀ n, 2 * T 2 n = n * (n + 1)
  | 0 => rfl
  | n + 1 => by
    have h := T2 n
    have e := T_succ 1 n
    rw [T1] at e
    rw [e]; grind
theorem T3 : ∀ n, 6 * T 3 n = n * (n + 1) * (n + 2)
  | 0 => rfl
  | n + 1 => by
    have h := T3 n
    have h2 := T2 (n + 1)
    have e := T_succ 2 n
    rw [e]; grind
theorem T4 : ∀ n, 24 * T 4 n = n * (n + 1) * (n + 2) * (n + 3)
  | 0 => rfl
  | n + 1 => by
    have h := T4 n
    have h2 := T3 (n + 1)
    have e := T_succ 3 n
    rw [e]; grind
theorem T5 : ∀ n, 120 * T 5 n = n * (n + 1) * (n + 2) * (n + 3) * (n + 4)
  | 0 => rfl
  | n + 1 => by
    have h := T5 n
    have h2 := T4 (n + 1)
    have e := T_succ 4 n
    rw [e]; grind

def code : List Nat → Nat
  | [] => 0
  | [_] => 0
  | d :: e :: r => T (r.length + 1) d + code (e :: r)

theorem code_cons (d e : Nat) (r : List Nat) : code (d :: e :: r) = T (r.length + 1) d + code (e :: r) := rfl

theorem code_lt : ∀ (r : List Nat) (d N : Nat), (d :: r).Pairwise (· ≥ ·) → d < N → code (d :: r) < T r.length N
  | [], d, N, _, _ => by show 0 < 1; omega
  | e :: r, d, N, hp, hd => by
    have hde : e ≤ d := (List.pairwise_cons.mp hp).1 e List.mem_cons_self
    have h1 := code_lt r e (d + 1) (List.pairwise_cons.mp hp).2 (by omega)
    have h2 := T_mono (r.length + 1) (show d + 1 ≤ N by omega)
    rw [T_succ] at h2
    rw [code_cons]
    show T (r.length + 1) d + code (e :: r) < T (r.length + 1) N
    omega

theorem code_inj : ∀ (r s : List Nat) (d e : Nat), (d :: r).Pairwise (· ≥ ·) → (e :: s).Pairwise (· ≥ ·) → r.length = s.length → (d :: r).getLast? = some 0 → (e :: s).getLast? = some 0 →
    code (d :: r) = code (e :: s) → d :: r = e :: s
  | [], [], d, e, _, _, _, h1, h2, _ => by
    simp at h1 h2; rw [h1, h2]
  | [], _ :: _, _, _, _, _, h, _, _, _ => by simp at h
  | _ :: _, [], _, _, _, _, h, _, _, _ => by simp at h
  | d' :: r, e' :: s, d, e, hp, hq, hl, h1, h2, hc => by
    have hl' : r.length = s.length := by simpa using hl
    have lt1 := code_lt r d' (d + 1) (List.pairwise_cons.mp hp).2 (by have := (List.pairwise_cons.mp hp).1 d' List.mem_cons_self; omega)
    have lt2 := code_lt s e' (e + 1) (List.pairwise_cons.mp hq).2 (by have := (List.pairwise_cons.mp hq).1 e' List.mem_cons_self; omega)
    rw [code_cons, code_cons] at hc
    have hde : d = e := by
      rcases Nat.lt_trichotomy d e with h | h | h
      · have m := T_mono (r.length + 1) (show d + 1 ≤ e by omega)
        rw [T_succ] at m; rw [← hl'] at hc; omega
      · exact h
      · have m := T_mono (s.length + 1) (show e + 1 ≤ d by omega)
        rw [T_succ] at m; rw [hl'] at hc; omega
    subst hde
    rw [hl'] at hc
    have ih := code_inj r s d' e' (List.pairwise_cons.mp hp).2 (List.pairwise_cons.mp hq).2 hl' (by simpa using h1) (by simpa using h2) (by omega)
    rw [ih]

/-! ### how many shapes there are -/
section
variable {size : Int} {ls : List Int} {c : Int → Int → Int}
/-- the shape as natural numbers -/
def sN (c : Int → Int → Int) (ls : List Int) (n : Nat) : List Nat := ls.map fun l => (xr c ls n l - minL (rowN c ls n)).toNat

theorem getLast_mem' {α : Type} : ∀ {l : List α}, l ≠ [] → ∃ x ∈ l, l.getLast? = some x
  | [], h => absurd rfl h
  | [a], _ => ⟨a, List.mem_cons_self, rfl⟩
  | a :: b :: r, _ => by
    obtain ⟨x, hx, e⟩ := getLast_mem' (l := b :: r) (by simp)
    exact ⟨x, List.mem_cons_of_mem _ hx, by rw [List.getLast?_cons_cons]; exact e⟩

theorem asc_last : ∀ {l : List Int}, l.Pairwise (· < ·) → ∀ {x}, l.getLast? = some x → ∀ y ∈ l, y ≤ x
  | [], _, x, h => by simp at h
  | [a], _, x, h => by
    intro y hy
    simp at h hy; omega
  | a :: b :: r, hp, x, h => by
    intro y hy
    rw [List.getLast?_cons_cons] at h
    have ih := asc_last (List.pairwise_cons.mp hp).2 h
    rcases List.mem_cons.mp hy with rfl | hy
    · have h1 := (List.pairwise_cons.mp hp).1 b List.mem_cons_self
      have h2 := ih b List.mem_cons_self
      omega
    · exact ih y hy

theorem min_last (R : Rules size ls) (C : Cst size ls c) (n : Nat) {x : Int} (h : ls.getLast? = some x) : x ∈ ls ∧ minL (rowN c ls n) = xr c ls n x := by
  obtain ⟨y, hy, e⟩ := getLast_mem' R.ne
  rw [h] at e
  cases e
  refine ⟨hy, (minL_eq (List.mem_map_of_mem hy) fun z hz => ?_).symm⟩
  obtain ⟨l, hl, rfl⟩ := List.mem_map.mp hz
  exact xr_noninc C R.ne n l hl x hy (asc_last R.asc h l hl)

theorem row_ge_min (n : Nat) {l : Int} (hl : l ∈ ls) : minL (rowN c ls n) ≤ xr c ls n l := minL_map_le hl

theorem pairwise_map_of {α β : Type} {r : α → α → Prop} {q : β → β → Prop} {f : α → β} : ∀ {l : List α}, l.Pairwise r → (∀ a ∈ l, ∀ b ∈ l, r a b → q (f a) (f b)) → (l.map f).Pairwise q
  | [], _, _ => .nil
  | a :: l, h, k => by
    rw [List.map_cons]
    refine List.pairwise_cons.mpr ⟨fun b hb => ?_, pairwise_map_of (List.pairwise_cons.mp h).2 fun x hx y hy => k x (List.mem_cons_of_mem _ hx) y (List.mem_cons_of_mem _ hy)⟩
    obtain ⟨y, hy, rfl⟩ := List.mem_map.mp hb
    exact k a List.mem_cons_self y (List.mem_cons_of_mem _ hy) ((List.pairwise_cons.mp h).1 y hy)

theorem sN_noninc (R : Rules size ls) (C : Cst size ls c) (n : Nat) : (sN c ls n).Pairwise (· ≥ ·) := by
  refine pairwise_map_of R.asc fun a ha b hb h => ?_
  have := xr_noninc C R.ne n a ha b hb (by omega)
  show (xr c ls n b - minL (rowN c ls n)).toNat ≤ (xr c ls n a - minL (rowN c ls n)).toNat
  omega

theorem sN_last (R : Rules size ls) (C : Cst size ls c) (n : Nat) : (sN c ls n).getLast? = some 0 := by
  obtain ⟨x, hx, e⟩ := getLast_mem' R.ne
  have := (min_last R C n e).2
  unfold sN
  rw [List.getLast?_map, e, Option.map_some, this]
  simp

theorem sN_lt (R : Rules size ls) (C : Cst size ls c) (hs : 1 ≤ size) (n : Nat) : ∀ d ∈ sN c ls n, d < size.toNat := by
  intro d hd
  obtain ⟨l, hl, rfl⟩ := List.mem_map.mp hd
  obtain ⟨x, hx, e⟩ := getLast_mem' R.ne
  rw [(min_last R C n e).2]
  have := xr_near C R.ne hs n l hl x hx
  omega

theorem sN_code (R : Rules size ls) (C : Cst size ls c) (hs : 1 ≤ size) (n : Nat) : code (sN c ls n) < T (ls.length - 1) size.toNat := by
  have h1 := sN_noninc R C n
  have h2 := sN_lt R C hs n
  have h3 : (sN c ls n).length = ls.length := by simp [sN]
  cases e : sN c ls n with
  | nil => rw [e] at h3; exact absurd (List.eq_nil_of_length_eq_zero h3.symm) R.ne
  | cons d r =>
    rw [e] at h1 h2 h3
    have e2 : ls.length - 1 = r.length := by rw [← h3]; simp
    rw [e2]
    exact code_lt r d _ h1 (h2 d List.mem_cons_self)

theorem sN_eq (R : Rules size ls) (C : Cst size ls c) {n m : Nat} (h : code (sN c ls n) = code (sN c ls m)) : sN c ls n = sN c ls m := by
  have a1 := sN_noninc R C n
  have a2 := sN_noninc R C m
  have b1 := sN_last R C n
  have b2 := sN_last R C m
  have l1 : (sN c ls n).length = ls.length := by simp [sN]
  have l2 : (sN c ls m).length = ls.length := by simp [sN]
  cases e : sN c ls n with
  | nil => rw [e] at b1; simp at b1
  | cons d r =>
    cases e' : sN c ls m with
    | nil => rw [e'] at b2; simp at b2
    | cons d' r' =>
      rw [e] at a1 b1 l1 h
      rw [e'] at a2 b2 l2 h
      have : r.length = r'.length := by simp at l1 l2; omega
      exact code_inj r r' d d' a1 a2 this b1 b2 h

/-- equal shapes, by the numbers -/
theorem shape_iff {n m : Nat} : shape (rowN c ls n) = shape (rowN c ls m) ↔ ∀ l ∈ ls, xr c ls n l - minL (rowN c ls n) = xr c ls m l - minL (rowN c ls m) := by
  unfold shape
  generalize minL (rowN c ls n) = a
  generalize minL (rowN c ls m) = b
  unfold rowN
  rw [List.map_map, List.map_map]
  exact List.map_inj_left

theorem shape_of_sN {n m : Nat} (h : sN c ls n = sN c ls m) : shape (rowN c ls n) = shape (rowN c ls m) := by
  rw [shape_iff]
  intro l hl
  have e := List.map_inj_left.mp h l hl
  have h1 := row_ge_min (c := c) n hl
  have h2 := row_ge_min (c := c) m hl
  omega

/-- the shapes up to N are all different -/
def Fresh (c : Int → Int → Int) (ls : List Int) (N : Nat) : Prop := ∀ i j, i < j → j < N → shape (rowN c ls i) ≠ shape (rowN c ls j)

theorem fresh_le (R : Rules size ls) (C : Cst size ls c) (hs : 1 ≤ size) {N : Nat} (F : Fresh c ls N) : N ≤ T (ls.length - 1) size.toNat := by
  have nd : ((List.range N).map fun i => code (sN c ls i)).Nodup := by
    refine pairwise_map_of List.pairwise_lt_range fun i hi j hj hij e => ?_
    exact F i j hij (List.mem_range.mp hj) (shape_of_sN (sN_eq R C e))
  have sub : ((List.range N).map fun i => code (sN c ls i)) ⊆ List.range (T (ls.length - 1) size.toNat) := by
    intro x hx
    obtain ⟨i, _, rfl⟩ := List.mem_map.mp hx
    exact List.mem_range.mpr (sN_code R C hs i)
  have := List.Nodup.length_le_of_subset nd sub
  simpa using this

/-- the first return: r the place, p the period -/
structure Reg (c : Int → Int → Int) (ls : List Int) (r p : Nat) (b : Int) : Prop where
  pos : 1 ≤ p
  fresh : Fresh c ls (r + p)
  back : shape (rowN c ls (r + p)) = shape (rowN c ls r)
  byt : b = minL (rowN c ls (r + p)) - minL (rowN c ls r)

theorem Reg.step {r p : Nat} {b : Int} (G : Reg c ls r p b) : ∀ l ∈ ls, xr c ls (r + p) l = xr c ls r l + b := by
  intro l hl
  have h := shape_iff.mp G.back l hl
  rw [G.byt]; omega

theorem Reg.inj {r p r' p' : Nat} {b b' : Int} (G : Reg c ls r p b) (G' : Reg c ls r' p' b') : r = r' ∧ p = p' ∧ b = b' := by
  have e : r + p = r' + p' := by
    rcases Nat.lt_trichotomy (r + p) (r' + p') with h | h | h
    · exact absurd G.back.symm (G'.fresh r (r + p) (by have := G.pos; omega) h)
    · exact h
    · exact absurd G'.back.symm (G.fresh r' (r' + p') (by have := G'.pos; omega) h)
  have e2 : r = r' := by
    rcases Nat.lt_trichotomy r r' with h | h | h
    · have a := G.back
      rw [e, G'.back] at a
      exact absurd a.symm (G.fresh r r' h (by have := G'.pos; omega))
    · exact h
    · have a := G.back
      rw [e, G'.back] at a
      exact absurd a (G.fresh r' r h (by have := G.pos; omega))
  subst e2
  have e3 : p = p' := by omega
  subst e3
  exact ⟨rfl, rfl, by rw [G.byt, G'.byt]⟩

/-- few enough: the rows fit into a list of the model -/
def Few (size : Int) (ls : List Int) : Prop := T (ls.length - 1) size.toNat ≤ 5000000

theorem few_small (h1 : size ≤ 20) (h2 : ls.length ≤ 6) : Few size ls := by
  unfold Few
  have m := T_mono (ls.length - 1) (show size.toNat ≤ 20 by omega)
  have e5 := T5 20
  have e4 := T4 20
  have e3 := T3 20
  have e2 := T2 20
  have e1 := T1 20
  have : ls.length - 1 = 0 ∨ ls.length - 1 = 1 ∨ ls.length - 1 = 2 ∨ ls.length - 1 = 3 ∨ ls.length - 1 = 4 ∨ ls.length - 1 = 5 := by omega
  rcases this with e | e | e | e | e | e <;> rw [e] at m ⊢
  · show 1 ≤ 5000000; decide
  all_goals omega

theorem few_big (h1 : size ≤ 100) (h2 : ls.length ≤ 5) : Few size ls := by
  unfold Few
  have m := T_mono (ls.length - 1) (show size.toNat ≤ 100 by omega)
  have e4 := T4 100
  have e3 := T3 100
  have e2 := T2 100
  have e1 := T1 100
  have : ls.length - 1 = 0 ∨ ls.length - 1 = 1 ∨ ls.length - 1 = 2 ∨ ls.length - 1 = 3 ∨ ls.length - 1 = 4 := by omega
  rcases this with e | e | e | e | e <;> rw [e] at m ⊢
  · show 1 ≤ 5000000; decide
  all_goals omega
end

/-! ### what a Demand asks: the fewest bytes for a number of rotations -/
/-- holds: the reader holds its file -/
def lf (c : Int → Int → Int) (ls : List Int) (holds : Bool) (n : Nat) : Int :=
  if holds then le c ls n else if n = 0 then ls.headD 0 else ls.headD 0 + le c ls (n - 1)

section
variable {size : Int} {ls : List Int} {c : Int → Int → Int}
theorem head_mem (hne : ls ≠ []) : ls.headD 0 ∈ ls := by
  cases ls with
  | nil => exact absurd rfl hne
  | cons a r => exact List.mem_cons_self

theorem lf_up (R : Rules size ls) (C : Cst size ls c) (h : Bool) (n : Nat) : lf c ls h n + 1 ≤ lf c ls h (n + 1) := by
  cases h with
  | true => exact le_up C R.ne n
  | false =>
    cases n with
    | zero =>
      show ls.headD 0 + 1 ≤ ls.headD 0 + le c ls 0
      have := le_ge C R.ne R.lo 0
      omega
    | succ n =>
      show ls.headD 0 + le c ls n + 1 ≤ ls.headD 0 + le c ls (n + 1)
      have := le_up C R.ne n
      omega

theorem lf_ge (R : Rules size ls) (C : Cst size ls c) (h : Bool) : ∀ n : Nat, (n : Int) + 1 ≤ lf c ls h n
  | 0 => by
    cases h with
    | true => exact le_ge C R.ne R.lo 0
    | false => have := R.lo _ (head_mem R.ne); show ((0 : Nat) : Int) + 1 ≤ ls.headD 0; omega
  | n + 1 => by
    have h1 := lf_ge R C h n
    have h2 := lf_up R C h n
    omega

theorem lf_mono (R : Rules size ls) (C : Cst size ls c) (h : Bool) {n m : Nat} (k : n < m) : lf c ls h n < lf c ls h m := by
  induction k with
  | refl => have := lf_up R C h n; show _ < lf c ls h (n + 1); omega
  | step _ ih => rename_i m _; have := lf_up R C h m; show _ < lf c ls h (m + 1); omega

theorem lf_mono_le (R : Rules size ls) (C : Cst size ls c) (h : Bool) {n m : Nat} (k : n ≤ m) : lf c ls h n ≤ lf c ls h m := by
  rcases Nat.lt_or_eq_of_le k with k | k
  · exact Int.le_of_lt (lf_mono R C h k)
  · rw [k]; exact Int.le_refl _

/-- what a demand answers to a limit -/
structure Needs (c : Int → Int → Int) (ls : List Int) (h : Bool) (forced : Nat) (limit r : Int) : Prop where
  low : limit < lf c ls h 0 → r = 0
  at_ : lf c ls h 0 ≤ limit → ∃ n : Nat, lf c ls h n ≤ limit ∧ limit < lf c ls h (n + 1) ∧ r = n + forced

theorem Needs.is (R : Rules size ls) (C : Cst size ls c) {h : Bool} {forced : Nat} {limit r : Int} (N : Needs c ls h forced limit r) {n : Nat} (h1 : lf c ls h n ≤ limit) (h2 : limit < lf c ls h (n + 1)) : r = n + forced := by
  have h0 := lf_mono_le R C h (Nat.zero_le n)
  obtain ⟨m, a, b, e⟩ := N.at_ (by omega)
  have : m = n := by
    rcases Nat.lt_trichotomy m n with k | k | k
    · have := lf_mono_le R C h (show m + 1 ≤ n by omega); omega
    · exact k
    · have := lf_mono_le R C h (show n + 1 ≤ m by omega); omega
  subst this
  exact e

theorem Needs.inj (R : Rules size ls) (C : Cst size ls c) {h : Bool} {forced : Nat} {limit r r' : Int} (N : Needs c ls h forced limit r) (N' : Needs c ls h forced limit r') : r = r' := by
  rcases Int.lt_or_le limit (lf c ls h 0) with k | k
  · rw [N.low k, N'.low k]
  · obtain ⟨m, a, b, e⟩ := N'.at_ k
    rw [N.is R C a b, e]

theorem Needs.nonneg {h : Bool} {forced : Nat} {limit r : Int} (N : Needs c ls h forced limit r) : 0 ≤ r := by
  rcases Int.lt_or_le limit (lf c ls h 0) with k | k
  · rw [N.low k]; exact Int.le_refl _
  · obtain ⟨m, a, b, e⟩ := N.at_ k
    omega
end

/-! ### the period is at most 60 -/
inductive Wk (c : Int → Int → Int) (ls : List Int) : Nat → Int → Int → Int → Prop where
  | nil {i : Int} : i ∈ ls → Wk c ls 0 i i 0
  | snoc {n : Nat} {i j l w : Int} : Wk c ls n i j w → l ∈ ls → Wk c ls (n + 1) i l (w + c j l)

section
variable {size : Int} {ls : List Int} {c : Int → Int → Int}
theorem Wk.last {m : Nat} {i j w : Int} (h : Wk c ls m i j w) : j ∈ ls := by
  cases h with
  | nil h => exact h
  | snoc _ h => exact h
theorem Wk.bound {m : Nat} {i j w : Int} (h : Wk c ls m i j w) (n : Nat) : xr c ls (n + m) j ≤ xr c ls n i + w := by
  induction h with
  | nil _ => simp
  | @snoc m i j l w h hl ih =>
    have h1 : xr c ls (n + m + 1) l ≤ xr c ls (n + m) j + c j l := minL_map_le (f := fun f => xr c ls (n + m) f + c f l) h.last
    rw [← Nat.add_assoc]; omega
theorem Wk.cat {m k : Nat} {i j l w w' : Int} (h : Wk c ls m i j w) (h' : Wk c ls k j l w') : Wk c ls (m + k) i l (w + w') := by
  induction h' with
  | nil _ => simpa using h
  | @snoc k j a b w' _ hl ih =>
    have e : w + (w' + c a b) = (w + w') + c a b := by omega
    rw [← Nat.add_assoc, e]
    exact .snoc (ih h) hl
theorem Wk.times {m : Nat} {i w : Int} (h : Wk c ls m i i w) (n : Nat) : ∀ t : Nat, xr c ls (n + t * m) i ≤ xr c ls n i + t * w
  | 0 => by simp
  | t + 1 => by
    have h1 := h.times n t
    have h2 := h.bound (n + t * m)
    have e1 : n + (t + 1) * m = n + t * m + m := by rw [Nat.add_mul]; omega
    have e2 : ((t + 1 : Nat) : Int) * w = t * w + w := by rw [Int.natCast_add, Int.add_mul]; simp
    rw [e1, e2]; omega
/-- a closed walk pays at least the rate -/
theorem Wk.closed (hne : ls ≠ []) {r p : Nat} {b : Int} (hs : ∀ l ∈ ls, xr c ls (r + p) l = xr c ls r l + b) {m : Nat} {i w : Int} (h : Wk c ls m i i w) : (m : Int) * b ≤ p * w := by
  have h1 := h.times r p
  have h2 := xr_times hne hs m r (Nat.le_refl _) i h.last
  rw [Nat.mul_comm p m] at h1
  omega

open Classical in
/-- the line behind which the least way to l comes -/
noncomputable def pre (c : Int → Int → Int) (ls : List Int) (n : Nat) (l : Int) : Int := if h : ∃ f ∈ ls, minL (ls.map fun f => xr c ls n f + c f l) = xr c ls n f + c f l then h.choose else 0
theorem pre_is (hne : ls ≠ []) (n : Nat) (l : Int) : pre c ls n l ∈ ls ∧ xr c ls (n + 1) l = xr c ls n (pre c ls n l) + c (pre c ls n l) l := by
  have h := minL_map_at (fun f => xr c ls n f + c f l) hne
  unfold pre
  rw [dif_pos h]
  exact h.choose_spec
noncomputable def bk (c : Int → Int → Int) (ls : List Int) (N : Nat) (j : Int) : Nat → Int
  | 0 => j
  | t + 1 => pre c ls (N - (t + 1)) (bk c ls N j t)
theorem bk_mem (hne : ls ≠ []) {N : Nat} {j : Int} (hj : j ∈ ls) : ∀ t, bk c ls N j t ∈ ls
  | 0 => hj
  | _ + 1 => (pre_is hne _ _).1
theorem bk_step (hne : ls ≠ []) {N : Nat} {j : Int} {t : Nat} (h : t + 1 ≤ N) : xr c ls (N - t) (bk c ls N j t) = xr c ls (N - (t + 1)) (bk c ls N j (t + 1)) + c (bk c ls N j (t + 1)) (bk c ls N j t) := by
  have h1 := (pre_is (c := c) hne (N - (t + 1)) (bk c ls N j t)).2
  have e : N - (t + 1) + 1 = N - t := by omega
  rw [e] at h1
  exact h1
theorem bk_walk (hne : ls ≠ []) {N : Nat} {j : Int} (hj : j ∈ ls) {v : Nat} (hv : v ≤ N) : ∀ d : Nat, d ≤ v →
    Wk c ls d (bk c ls N j v) (bk c ls N j (v - d)) (xr c ls (N - (v - d)) (bk c ls N j (v - d)) - xr c ls (N - v) (bk c ls N j v))
  | 0, _ => by
    have e : xr c ls (N - (v - 0)) (bk c ls N j (v - 0)) - xr c ls (N - v) (bk c ls N j v) = 0 := by simp
    rw [e]; exact .nil (bk_mem hne hj _)
  | d + 1, h => by
    have ih := bk_walk hne hj hv d (by omega)
    have e1 : v - (d + 1) + 1 = v - d := by omega
    have st := bk_step (c := c) hne (j := j) (N := N) (t := v - (d + 1)) (by omega)
    rw [e1] at st
    have := Wk.snoc ih (bk_mem (c := c) hne (N := N) hj (v - (d + 1)))
    have e2 : xr c ls (N - (v - (d + 1))) (bk c ls N j (v - (d + 1))) - xr c ls (N - v) (bk c ls N j v)
      = xr c ls (N - (v - d)) (bk c ls N j (v - d)) - xr c ls (N - v) (bk c ls N j v) + c (bk c ls N j (v - d)) (bk c ls N j (v - (d + 1))) := by
      rw [st]; omega
    rw [e2]; exact this
theorem bk_walk' (hne : ls ≠ []) {N : Nat} {j : Int} (hj : j ∈ ls) {u v : Nat} (hu : u ≤ v) (hv : v ≤ N) :
    Wk c ls (v - u) (bk c ls N j v) (bk c ls N j u) (xr c ls (N - u) (bk c ls N j u) - xr c ls (N - v) (bk c ls N j v)) := by
  have := bk_walk (c := c) hne hj hv (v - u) (by omega)
  have e : v - (v - u) = u := by omega
  rw [e] at this
  exact this
theorem pigeon {f : Nat → Int} (h : ∀ t, t ≤ ls.length → f t ∈ ls) : ∃ u v, u < v ∧ v ≤ ls.length ∧ f u = f v := by
  apply Classical.byContradiction
  intro hn
  have nd : ((List.range (ls.length + 1)).map f).Nodup := by
    refine pairwise_map_of List.pairwise_lt_range fun i hi j hj hij e => ?_
    have := List.mem_range.mp hj
    exact hn ⟨i, j, hij, by omega, e⟩
  have sub : ((List.range (ls.length + 1)).map f) ⊆ ls := by
    intro x hx
    obtain ⟨i, hi, rfl⟩ := List.mem_map.mp hx
    have := List.mem_range.mp hi
    exact h i (by omega)
  have := List.Nodup.length_le_of_subset nd sub
  simp at this
  omega

theorem mul_cancel_le {p : Nat} (hp : 1 ≤ p) {a b : Int} (h : (p : Int) * a ≤ p * b) : a ≤ b := Int.le_of_mul_le_mul_left h (by omega)

/-- on the least way to (N, j) there is a line on a short critical circle -/
theorem critical (hne : ls ≠ []) {r p : Nat} {b : Int} (hp : 1 ≤ p) (hs : ∀ l ∈ ls, xr c ls (r + p) l = xr c ls r l + b) {N : Nat} {j : Int} (hj : j ∈ ls)
    (hN : r + ls.length * (ls.length * p) ≤ N) :
    ∃ (s m : Nat) (w : Int), r + s ≤ N ∧ 1 ≤ m ∧ m ≤ ls.length ∧ Wk c ls m (bk c ls N j s) (bk c ls N j s) w ∧ (p : Int) * w = m * b := by
  have hK : 1 ≤ ls.length := by
    cases ls with
    | nil => exact absurd rfl hne
    | cons a r => simp
  generalize hKe : ls.length = K at hK hN
  generalize hL : K * p = L at hN
  have hLK : K ≤ L := by rw [← hL]; exact Nat.le_mul_of_pos_right K (by omega)
  obtain ⟨a, a', haa, ha', ea⟩ := pigeon (ls := ls) (f := fun t => bk c ls N j (t * L)) fun t _ => bk_mem hne hj _
  rw [hKe] at ha'
  have ea : bk c ls N j (a * L) = bk c ls N j (a' * L) := ea
  have hb1 : a' * L ≤ K * L := Nat.mul_le_mul_right L ha'
  have hb2 : a * L + L ≤ a' * L := by
    have := Nat.mul_le_mul_right L (show a + 1 ≤ a' by omega)
    rw [Nat.add_mul] at this; omega
  obtain ⟨u, v, huv, hv, eu⟩ := pigeon (ls := ls) (f := fun t => bk c ls N j (a * L + t)) fun t _ => bk_mem hne hj _
  rw [hKe] at hv
  have eu : bk c ls N j (a * L + u) = bk c ls N j (a * L + v) := eu
  -- the four walks
  have w1 := bk_walk' (c := c) hne (N := N) hj (u := a * L + u) (v := a * L + v) (by omega) (by omega)
  have w3 := bk_walk' (c := c) hne (N := N) hj (u := a * L + v) (v := a' * L) (by omega) (by omega)
  have w4 := bk_walk' (c := c) hne (N := N) hj (u := a * L) (v := a * L + u) (by omega) (by omega)
  -- the times of the two ends differ by a multiple of the period
  have per : xr c ls (N - a * L) (bk c ls N j (a * L)) = xr c ls (N - a' * L) (bk c ls N j (a' * L)) + ((a' - a) * K : Nat) * b := by
    rw [ea]
    have := xr_times hne hs ((a' - a) * K) (N - a' * L) (by omega) (bk c ls N j (a' * L)) (bk_mem hne hj _)
    have e : N - a' * L + (a' - a) * K * p = N - a * L := by
      rw [Nat.mul_assoc, hL]
      have : (a' - a) * L = a' * L - a * L := Nat.sub_mul a' a L
      omega
    rw [e] at this
    exact this
  rw [← eu] at w3 w1
  rw [ea] at w4 per
  have cl := w3.cat w4
  have b1 := cl.closed hne hs
  have b2 := w1.closed hne hs
  refine ⟨a * L + u, a * L + v - (a * L + u), _, by omega, by omega, by omega, w1, ?_⟩
  -- lengths
  have len : ((a' * L - (a * L + v) + (a * L + u - a * L) : Nat) : Int) = ((a' - a) * K : Nat) * p - ((a * L + v - (a * L + u) : Nat) : Int) := by
    have e : ((a' - a) * K) * p = a' * L - a * L := by
      rw [Nat.mul_assoc, hL]; exact Nat.sub_mul a' a L
    have e2 : (((a' - a) * K : Nat) : Int) * p = ((a' * L - a * L : Nat) : Int) := by rw [← e]; exact (Int.natCast_mul _ _).symm
    rw [e2]; omega
  rw [len] at b1
  generalize xr c ls (N - a * L) (bk c ls N j (a' * L)) = X1 at *
  generalize xr c ls (N - a' * L) (bk c ls N j (a' * L)) = X2 at *
  generalize xr c ls (N - (a * L + u)) (bk c ls N j (a * L + u)) = X3 at *
  generalize xr c ls (N - (a * L + v)) (bk c ls N j (a * L + u)) = X4 at *
  generalize (((a' - a) * K : Nat) : Int) = M at *
  generalize ((a * L + v - (a * L + u) : Nat) : Int) = m at *
  have e1 : X4 - X2 + (X1 - X3) = M * b - (X3 - X4) := by rw [per]; omega
  rw [e1, Int.mul_sub, Int.sub_mul] at b1
  have e2 : M * (p : Int) * b = p * (M * b) := by rw [Int.mul_comm M p, Int.mul_assoc]
  rw [e2] at b1
  omega

theorem dvd60 {m : Nat} (h1 : 1 ≤ m) (h2 : m ≤ 6) : ∃ k, k * m = 60 := by
  have : m = 1 ∨ m = 2 ∨ m = 3 ∨ m = 4 ∨ m = 5 ∨ m = 6 := by omega
  rcases this with e | e | e | e | e | e <;> subst e
  · exact ⟨60, rfl⟩
  · exact ⟨30, rfl⟩
  · exact ⟨20, rfl⟩
  · exact ⟨15, rfl⟩
  · exact ⟨12, rfl⟩
  · exact ⟨10, rfl⟩

/-- 60 steps pay at most the rate -/
theorem sixty_le (hne : ls ≠ []) (hK : ls.length ≤ 6) {r p : Nat} {b : Int} (hp : 1 ≤ p) (hs : ∀ l ∈ ls, xr c ls (r + p) l = xr c ls r l + b) {n : Nat} (hn : r ≤ n) {j : Int} (hj : j ∈ ls) :
    (p : Int) * xr c ls (n + 60) j ≤ p * xr c ls n j + 60 * b := by
  generalize hM : ls.length * ls.length = M
  have hML : ls.length * (ls.length * p) = M * p := by rw [← hM, Nat.mul_assoc]
  obtain ⟨s, m, w, h1, h2, h3, hw, hc⟩ := critical hne hp hs (N := n + M * p) hj (by rw [hML]; omega)
  obtain ⟨k, hk⟩ := dvd60 h2 (by omega)
  have a1 := hw.times (n + M * p - s) k
  rw [hk] at a1
  have a2 := (bk_walk' (c := c) hne (N := n + M * p) hj (u := 0) (v := s) (by omega) (by omega)).bound (n + M * p - s + 60)
  have e1 : n + M * p - s + 60 + (s - 0) = n + 60 + M * p := by omega
  rw [e1] at a2
  have a3 := xr_times hne hs M (n + 60) (by omega) j hj
  have a4 := xr_times hne hs M n hn j hj
  have e0 : bk c ls (n + M * p) j 0 = j := rfl
  rw [e0] at a2
  have e2 : n + M * p - 0 = n + M * p := by omega
  rw [e2] at a2
  have a5 : xr c ls (n + 60) j ≤ xr c ls n j + k * w := by omega
  have a6 : (p : Int) * xr c ls (n + 60) j ≤ p * (xr c ls n j + k * w) := Int.mul_le_mul_of_nonneg_left a5 (by omega)
  have e3 : (p : Int) * (k * w) = 60 * b := by
    have : (k : Int) * m = 60 := by exact_mod_cast hk
    calc (p : Int) * (k * w) = k * (p * w) := by rw [← Int.mul_assoc, Int.mul_comm (p : Int) k, Int.mul_assoc]
      _ = k * (m * b) := by rw [hc]
      _ = 60 * b := by rw [← Int.mul_assoc, this]
  rw [Int.mul_add, e3] at a6
  exact a6

theorem sixty_eq (hne : ls ≠ []) (hK : ls.length ≤ 6) {r p : Nat} {b : Int} (hp : 1 ≤ p) (hs : ∀ l ∈ ls, xr c ls (r + p) l = xr c ls r l + b) {n : Nat} (hn : r ≤ n) {j : Int} (hj : j ∈ ls) :
    (p : Int) * xr c ls (n + 60) j = p * xr c ls n j + 60 * b := by
  have up := sixty_le hne hK hp hs hn hj
  -- p rounds of sixty are sixty periods
  have chain : ∀ t : Nat, (p : Int) * xr c ls (n + 60 + t * 60) j ≤ p * xr c ls (n + 60) j + t * (60 * b) := by
    intro t
    induction t with
    | zero => simp
    | succ t ih =>
      have h1 := sixty_le hne hK hp hs (n := n + 60 + t * 60) (by omega) hj
      have e1 : n + 60 + (t + 1) * 60 = n + 60 + t * 60 + 60 := by omega
      have e2 : ((t + 1 : Nat) : Int) * (60 * b) = t * (60 * b) + 60 * b := by rw [Int.natCast_add, Int.add_mul]; simp
      rw [e1, e2]; omega
  have h1 := chain (p - 1)
  have e1 : n + 60 + (p - 1) * 60 = n + 60 * p := by omega
  rw [e1] at h1
  have h2 := xr_times hne hs 60 n hn j hj
  rw [h2] at h1
  have e2 : ((p - 1 : Nat) : Int) * (60 * b) = p * (60 * b) - 60 * b := by
    have : ((p - 1 : Nat) : Int) = p - 1 := by omega
    rw [this, Int.sub_mul]; simp
  rw [e2, Int.mul_add] at h1
  have e3 : (p : Int) * (((60 : Nat) : Int) * b) = p * (60 * b) := rfl
  rw [e3] at h1
  omega

theorem Reg.short (R : Rules size ls) (hK : ls.length ≤ 6) {r p : Nat} {b : Int} (G : Reg c ls r p b) : p ≤ 60 := by
  apply Classical.byContradiction
  intro hn
  have e : ∀ l ∈ ls, ∀ l' ∈ ls, xr c ls (r + 60) l - xr c ls r l = xr c ls (r + 60) l' - xr c ls r l' := by
    intro l hl l' hl'
    have h1 := sixty_eq R.ne hK G.pos G.step (Nat.le_refl r) hl
    have h2 := sixty_eq R.ne hK G.pos G.step (Nat.le_refl r) hl'
    have h3 : (p : Int) * (xr c ls (r + 60) l - xr c ls r l) = p * (xr c ls (r + 60) l' - xr c ls r l') := by
      rw [Int.mul_sub, Int.mul_sub]; omega
    exact Int.eq_of_mul_eq_mul_left (by have := G.pos; omega) h3
  obtain ⟨l0, h0, _⟩ := getLast_mem' R.ne
  have sh : minL (rowN c ls (r + 60)) = minL (rowN c ls r) + (xr c ls (r + 60) l0 - xr c ls r l0) := minL_add R.ne fun l hl => by have := e l hl l0 h0; omega
  refine G.fresh r (r + 60) (by omega) (by omega) (shape_iff.mpr fun l hl => ?_)
  have := e l hl l0 h0
  omega
end
end G24
/-! list(zip(t, u)) of two tuples: every pair is a new tuple, since the list holds the one that was given out before. -/
namespace GZ
open PySem PySem.W PySem.Spec PyProof.Rows
section
variable {prog : Program} {w : World} {A : Around} {E : Value → Shared → Prop} {s : Shared}
theorem heldItem {z TI TO T i1 i2 l1 l2 : Addr} {f : Bool} {oT : Obj} {k : Nat} {xs ys : Array Value} {x y : Value} {Q : Value → Shared → Prop} (D : ZipApart z TI TO i1 i2 l1 l2)
    (gz : IsZipHeld s.heap z TI TO T f) (gT : s.heap.get? T = some oT) (gI : IsPair s.heap TI (.ref i1) (.ref i2))
    (a1 : s.heap.IsTupleIter i1 l1 k) (a2 : s.heap.IsTupleIter i2 l2 k) (b1 : s.heap.IsTuple l1 xs) (b2 : s.heap.IsTuple l2 ys) (ex : xs[k]? = some x) (ey : ys[k]? = some y)
    (hQ : ∀ h', IsZipHeld h' z TI TO T true → h'.IsTupleIter i1 l1 (k + 1) → h'.IsTupleIter i2 l2 (k + 1) → IsPair h' s.heap.objs.size x y → h'.objs.size = s.heap.objs.size + 1 →
      (∀ c o, c ≠ z → c ≠ i1 → c ≠ i2 → s.heap.get? c = some o → h'.get? c = some o) → Q (.ref s.heap.objs.size) { s with heap := h' }) :
    wpAny (model prog w) A (Builtin.«zip.__next__» ⟨[.ref z], []⟩) (fun fin s' => ∃ v, fin = .done (.ret v) ∧ Q v s') E s := by
  show wpAny (model prog w) A (field (.ref z) 2 >>= _) _ E s
  refine wpAny_bind (wpAny_field gz rfl (x := .bool false) rfl ?_); show wpAny (model prog w) A (field (.ref z) 3 >>= _) _ E s
  refine wpAny_bind (wpAny_field gz rfl (x := .ref TI) rfl (wpAny_bind (wpAny_seqItems gI rfl ?_)))
  show wpAny (model prog w) A (Builtin.SmallTypes.ownedTupleIsFree (.ref z) >>= _) _ E s
  refine wpAny_bind (wpAny_tupleHeld_zip gz gT fun g1 gz1 s1 => ?_)
  simp only [Bool.false_eq_true, if_false]
  refine wpAny_bind ?_; rw [← Array.forIn_toList]; simp only [List.forIn_cons, List.forIn_nil]
  refine wpAny_bind (wpAny_bind (wpAny_holding ?_)); show wpAny (model prog w) A (Builtin.SmallTypes.nextOf (.ref i1) >>= _) _ _ _
  refine wpAny_bind (RZ.nextOf_tuple_item (s := { s with heap := g1 }) (a1.extBut s1.extBut D.i1z) (b1.extBut s1.extBut D.l1z) ex fun g2 a12 s2 => wpAny_pure (wpAny_pure ?_))
  refine wpAny_bind (wpAny_bind (wpAny_holding ?_)); show wpAny (model prog w) A (Builtin.SmallTypes.nextOf (.ref i2) >>= _) _ _ _
  refine wpAny_bind (RZ.nextOf_tuple_item (s := { s with heap := g2 }) ((a2.extBut s1.extBut D.i2z).extBut s2.extBut D.i12.symm) ((b2.extBut s1.extBut D.l2z).extBut s2.extBut D.l2i1) ey fun g3 a23 s3 => wpAny_pure (wpAny_pure (wpAny_pure ?_)))
  show wpAny (model prog w) A (newTuple [x, y] >>= _) _ _ _
  refine wpAny_bind (wpAny_newTuple ?_)
  have sz : g3.objs.size = s.heap.objs.size := by rw [s3.1, s2.1, s1.1]
  have gz3 : IsZipHeld g3 z TI TO T true := s3.extBut _ _ D.i2z.symm (s2.extBut _ _ D.i1z.symm gz1)
  have kp : ∀ c o, c ≠ z → c ≠ i1 → c ≠ i2 → s.heap.get? c = some o → g3.get? c = some o := fun c o p q r e => s3.extBut _ _ r (s2.extBut _ _ q (s1.extBut _ _ p e))
  have a13 : g3.IsTupleIter i1 l1 (k + 1) := a12.extBut s3.extBut D.i12
  refine wpAny_pure ⟨_, rfl, ?_⟩
  show Q (.ref g3.objs.size) _
  have pr : IsPair (g3.push { cls := .type "tuple", data := .seq #[x, y] }) g3.objs.size x y := Heap.get?_push_size _ rfl
  have z4 : (g3.push { cls := .type "tuple", data := .seq #[x, y] }).objs.size = g3.objs.size + 1 := Heap.size_push ..
  rw [sz] at pr z4 ⊢
  exact hQ _ (Heap.get?_push_of_some _ gz3) (a13.at fun o e => Heap.get?_push_of_some _ e) (a23.at fun o e => Heap.get?_push_of_some _ e) pr z4 fun c o p q r e => Heap.get?_push_of_some _ (kp c o p q r e)

theorem heldEnd {z TI TO T i1 i2 l1 l2 : Addr} {f : Bool} {oT : Obj} {k : Nat} {xs ys : Array Value} {Q : Fin → Shared → Prop} (hh : A.handled = none) (D : ZipApart z TI TO i1 i2 l1 l2)
    (gz : IsZipHeld s.heap z TI TO T f) (gT : s.heap.get? T = some oT) (gI : IsPair s.heap TI (.ref i1) (.ref i2))
    (a1 : s.heap.IsTupleIter i1 l1 k) (b1 : s.heap.IsTuple l1 xs) (ex : xs[k]? = none)
    (hE : ∀ h' e, (∀ c o, c ≠ z → c ≠ i1 → s.heap.get? c = some o → h'.get? c = some o) → (∃ o, h'.get? e = some o ∧ o.cls = .type "StopIteration") → E (.ref e) { s with heap := h' }) :
    wpAny (model prog w) A (Builtin.«zip.__next__» ⟨[.ref z], []⟩) Q E s := by
  show wpAny (model prog w) A (field (.ref z) 2 >>= _) _ E s
  refine wpAny_bind (wpAny_field gz rfl (x := .bool false) rfl ?_); show wpAny (model prog w) A (field (.ref z) 3 >>= _) _ E s
  refine wpAny_bind (wpAny_field gz rfl (x := .ref TI) rfl (wpAny_bind (wpAny_seqItems gI rfl ?_)))
  show wpAny (model prog w) A (Builtin.SmallTypes.ownedTupleIsFree (.ref z) >>= _) _ E s
  refine wpAny_bind (wpAny_tupleHeld_zip gz gT fun g1 gz1 s1 => ?_)
  simp only [Bool.false_eq_true, if_false]
  refine wpAny_bind ?_; rw [← Array.forIn_toList]; simp only [List.forIn_cons, List.forIn_nil]
  refine wpAny_bind (wpAny_bind (wpAny_holding ?_)); show wpAny (model prog w) A (Builtin.SmallTypes.nextOf (.ref i1) >>= _) _ _ _
  refine wpAny_bind (RZ.nextOf_tuple_end (s := { s with heap := g1 }) hh (a1.extBut s1.extBut D.i1z) (b1.extBut s1.extBut D.l1z) ex fun g2 e s2 he => ?_)
  exact hE g2 e (fun c o p q x => s2 _ _ q (s1.extBut _ _ p x)) he

theorem nextHeld {z TI TO T i1 i2 l1 l2 : Addr} {f : Bool} {oT : Obj} {k : Nat} {xs ys : Array Value} {x y : Value} {Q : Option Value → Shared → Prop} (D : ZipApart z TI TO i1 i2 l1 l2)
    (gz : IsZipHeld s.heap z TI TO T f) (gT : s.heap.get? T = some oT) (gI : IsPair s.heap TI (.ref i1) (.ref i2))
    (a1 : s.heap.IsTupleIter i1 l1 k) (a2 : s.heap.IsTupleIter i2 l2 k) (b1 : s.heap.IsTuple l1 xs) (b2 : s.heap.IsTuple l2 ys) (ex : xs[k]? = some x) (ey : ys[k]? = some y)
    (hQ : ∀ h', IsZipHeld h' z TI TO T true → h'.IsTupleIter i1 l1 (k + 1) → h'.IsTupleIter i2 l2 (k + 1) → IsPair h' s.heap.objs.size x y → h'.objs.size = s.heap.objs.size + 1 →
      (∀ c o, c ≠ z → c ≠ i1 → c ≠ i2 → s.heap.get? c = some o → h'.get? c = some o) → Q (some (.ref s.heap.objs.size)) { s with heap := h' }) :
    wpAny (model prog w) A (pyNext (.ref z)) Q E s := by
  have ty : s.TypeIs (.ref z) "zip" := ⟨_, gz, rfl⟩
  unfold pyNext
  exact wpAny_bind (wpAny_attempt (wpAny_callSpecial?_slot (name := Str.ofString "__next__") ty PySem.F.slot_zip_next (wpAny_call_entry PySem.F.slot_zip_next ty PySem.F.entry_zip_next
      (heldItem D gz gT gI a1 a2 b1 b2 ex ey fun h' p1 p3 p4 p5 p6 p7 => wpAny_pure (hQ h' p1 p3 p4 p5 p6 p7)) (PySem.F.args_zip_next_1 _))))
theorem endHeld {z TI TO T i1 i2 l1 l2 : Addr} {f : Bool} {oT : Obj} {k : Nat} {xs : Array Value} {Q : Option Value → Shared → Prop} (hh : A.handled = none) (D : ZipApart z TI TO i1 i2 l1 l2)
    (gz : IsZipHeld s.heap z TI TO T f) (gT : s.heap.get? T = some oT) (gI : IsPair s.heap TI (.ref i1) (.ref i2))
    (a1 : s.heap.IsTupleIter i1 l1 k) (b1 : s.heap.IsTuple l1 xs) (ex : xs[k]? = none)
    (hQ : ∀ h', (∀ c o, c ≠ z → c ≠ i1 → s.heap.get? c = some o → h'.get? c = some o) → Q none { s with heap := h' }) : wpAny (model prog w) A (pyNext (.ref z)) Q E s := by
  have ty : s.TypeIs (.ref z) "zip" := ⟨_, gz, rfl⟩
  unfold pyNext
  refine wpAny_bind (wpAny_attempt (wpAny_callSpecial?_slot (name := Str.ofString "__next__") ty PySem.F.slot_zip_next
    (wpAny_call_entry PySem.F.slot_zip_next ty PySem.F.entry_zip_next (heldEnd (xs := xs) (ys := #[]) hh D gz gT gI a1 b1 ex fun h' e hk he => ?_) (PySem.F.args_zip_next_1 _))))
  obtain ⟨o, ho, hc⟩ := he
  exact wpAny_bind (wpAny_isInstance (T := "StopIteration") (b := true) ⟨o, ho, hc⟩ isSubtype_stop (wpAny_pure (hQ _ hk)))
end

/-- a zip of two tuples behind k pairs; S: the list that is filled -/
structure ZS (h : Heap) (z TI TO i1 i2 l1 l2 S : Addr) (xs ys : Array Value) (k : Nat) : Prop where
  pI : IsPair h TI (.ref i1) (.ref i2)
  a1 : h.IsTupleIter i1 l1 k
  a2 : h.IsTupleIter i2 l2 k
  b1 : h.IsTuple l1 xs
  b2 : h.IsTuple l2 ys
  st : (IsZip h z TI TO .none ∧ ∃ a b, IsPair h TO a b) ∨ ∃ T f oT, IsZipHeld h z TI TO T f ∧ h.get? T = some oT ∧ T ≠ z ∧ T ≠ i1 ∧ T ≠ i2 ∧ T ≠ S
structure Off (z TI TO i1 i2 l1 l2 S : Addr) : Prop where
  z : z ≠ S
  TI : TI ≠ S
  TO : TO ≠ S
  i1 : i1 ≠ S
  i2 : i2 ≠ S
  l1 : l1 ≠ S
  l2 : l2 ≠ S
theorem ZS.keep {h h' : Heap} {z TI TO i1 i2 l1 l2 S : Addr} {xs ys : Array Value} {k : Nat} (Z : ZS h z TI TO i1 i2 l1 l2 S xs ys k) (O : Off z TI TO i1 i2 l1 l2 S) (kp : ∀ b o, b ≠ S → h.get? b = some o → h'.get? b = some o) :
    ZS h' z TI TO i1 i2 l1 l2 S xs ys k := by
  refine ⟨kp _ _ O.TI Z.pI, Z.a1.at fun o e => kp _ o O.i1 e, Z.a2.at fun o e => kp _ o O.i2 e, Z.b1.at fun o e => kp _ o O.l1 e, Z.b2.at fun o e => kp _ o O.l2 e, ?_⟩
  rcases Z.st with ⟨gz, a, b, gO⟩ | ⟨T, f, oT, gz, gT, r1, r2, r3, r4⟩
  · exact .inl ⟨kp _ _ O.z gz, a, b, kp _ _ O.TO gO⟩
  · exact .inr ⟨T, f, oT, kp _ _ O.z gz, kp _ _ r4 gT, r1, r2, r3, r4⟩
section
variable {prog : Program} {w : World} {A : Around} {E : Value → Shared → Prop} {s : Shared}
theorem zs_next {z TI TO i1 i2 l1 l2 S : Addr} {xs ys : Array Value} {k : Nat} {x y : Value} {Q : Option Value → Shared → Prop} (D : ZipApart z TI TO i1 i2 l1 l2) (O : Off z TI TO i1 i2 l1 l2 S) (hS : S < s.heap.objs.size)
    (Z : ZS s.heap z TI TO i1 i2 l1 l2 S xs ys k) (ex : xs[k]? = some x) (ey : ys[k]? = some y)
    (hQ : ∀ h', ZS h' z TI TO i1 i2 l1 l2 S xs ys (k + 1) → IsPair h' s.heap.objs.size x y → h'.objs.size = s.heap.objs.size + 1 →
      (∀ c o, c ≠ z → c ≠ TO → c ≠ i1 → c ≠ i2 → s.heap.get? c = some o → h'.get? c = some o) → Q (some (.ref s.heap.objs.size)) { s with heap := h' }) :
    wpAny (model prog w) A (pyNext (.ref z)) Q E s := by
  have lt : ∀ {c o}, s.heap.get? c = some o → s.heap.objs.size ≠ c := fun e => Nat.ne_of_gt (Heap.lt_size e)
  have n1 : s.heap.objs.size ≠ i1 := let ⟨_, e, _⟩ := Z.a1; lt e
  have n2 : s.heap.objs.size ≠ i2 := let ⟨_, e, _⟩ := Z.a2; lt e
  rcases Z.st with ⟨gz, a, b, gO⟩ | ⟨T, f, oT, gz, gT, r1, r2, r3, r4⟩
  · refine RZ.pyNext_zipT_item D gz Z.pI gO Z.a1 Z.a2 Z.b1 Z.b2 ex ey fun h' p1 p2 p3 p4 p5 p6 hk => ?_
    refine hQ h' ⟨hk _ _ D.TIz D.TITO D.TIi1 D.TIi2 Z.pI, p3, p4, Z.b1.at fun o e => hk _ o D.l1z D.l1TO D.l1i1 D.l1i2 e, Z.b2.at fun o e => hk _ o D.l2z D.l2TO D.l2i1 D.l2i2 e,
      .inr ⟨s.heap.objs.size, false, _, p1, p5, lt gz, n1, n2, Nat.ne_of_gt hS⟩⟩ p5 p6 hk
  · refine nextHeld D gz gT Z.pI Z.a1 Z.a2 Z.b1 Z.b2 ex ey fun h' p1 p3 p4 p5 p6 hk => ?_
    refine hQ h' ⟨hk _ _ D.TIz D.TIi1 D.TIi2 Z.pI, p3, p4, Z.b1.at fun o e => hk _ o D.l1z D.l1i1 D.l1i2 e, Z.b2.at fun o e => hk _ o D.l2z D.l2i1 D.l2i2 e,
      .inr ⟨T, true, oT, p1, hk _ _ r1 r2 r3 gT, r1, r2, r3, r4⟩⟩ p5 p6 fun c o c1 _ c3 c4 e => hk c o c1 c3 c4 e
theorem zs_end {z TI TO i1 i2 l1 l2 S : Addr} {xs ys : Array Value} {k : Nat} {Q : Option Value → Shared → Prop} (hh : A.handled = none) (D : ZipApart z TI TO i1 i2 l1 l2)
    (Z : ZS s.heap z TI TO i1 i2 l1 l2 S xs ys k) (ex : xs[k]? = none)
    (hQ : ∀ h', (∀ c o, c ≠ z → c ≠ TO → c ≠ i1 → c ≠ i2 → s.heap.get? c = some o → h'.get? c = some o) → Q none { s with heap := h' }) : wpAny (model prog w) A (pyNext (.ref z)) Q E s := by
  rcases Z.st with ⟨gz, a, b, gO⟩ | ⟨T, f, oT, gz, gT, r1, r2, r3, r4⟩
  · exact RZ.pyNext_zipT_end hh D gz Z.pI gO Z.a1 Z.a2 Z.b1 Z.b2 (.inl ex) hQ
  · exact endHeld hh D gz gT Z.pI Z.a1 Z.b1 ex fun h' hk => hQ h' fun c o c1 _ c3 _ e => hk c o c1 c3 e
end
/-- the tuples as they were made: the j-th holds the j-th pair; all of them younger than the list -/
structure Prs (h : Heap) (lo : Addr) (xs ys : Array Value) (as : List Addr) : Prop where
  nd : as.Nodup
  above : ∀ a ∈ as, lo < a
  there : ∀ a ∈ as, a < h.objs.size
  pair : ∀ (j : Nat) (a : Addr), as[j]? = some a → ∃ x y, xs[j]? = some x ∧ ys[j]? = some y ∧ IsPair h a x y
section
variable {prog : Program} {w : World} {A : Around} {E : Value → Shared → Prop} {s : Shared} {R : Result → Shared → Prop}
/-- the loop that fills the list at S: zz, the zip's own objects, all below it -/
theorem fill {z TI TO i1 i2 l1 l2 S : Addr} {xs ys : Array Value} (hh : A.handled = none) (D : ZipApart z TI TO i1 i2 l1 l2) (O : Off z TI TO i1 i2 l1 l2 S) (oz : z < S) (o1 : i1 < S) (o2 : i2 < S) (oT : TO < S) (hxy : xs.size = ys.size) (hn : xs.size ≤ sizeLine) (res : Value) {h₁ : Heap}
    (hR : ∀ h' tk acc c as, (∀ b o, b ≠ S → b ≠ z → b ≠ TO → b ≠ i1 → b ≠ i2 → h₁.get? b = some o → h'.get? b = some o) → h'.get? S = some { cls := .type "list", dict := none, data := .seq acc c, slots := #[] } → as.length = xs.size → Prs h' S xs ys as →
      acc.toList = as.map Value.ref → R (.ok (.ret res)) { s with heap := h', toks := tk }) :
    ∀ (k i : Nat) (h : Heap) (tk c : Nat) (acc : Array Value) (as : List Addr), xs.size - i = k → i ≤ xs.size → ZS h z TI TO i1 i2 l1 l2 S xs ys i → (∀ b o, b ≠ S → b ≠ z → b ≠ TO → b ≠ i1 → b ≠ i2 → h₁.get? b = some o → h.get? b = some o) →
      h.get? S = some { cls := .type "list", dict := none, data := .seq acc c, slots := #[] } → acc.toList = as.map Value.ref → as.length = i → Prs h S xs ys as →
      codeAny (model prog w) A (.builtin "list.extend.loop" ⟨[.ref S, .ref z, res], []⟩) R { s with heap := h, toks := tk } := by
  intro k
  induction k with
  | zero =>
    intro i h tk c acc as hk hi Z kp hS hacc hal G
    refine codeAny_builtin PySem.F.entry_extend_loop ?_; rw [Around.under_plainId PySem.F.plain_extend_loop _]
    show wpAny (model prog w) A.in1 (pyNext (.ref z) >>= _) _ _ _
    refine wpAny_bind (zs_end (s := { s with heap := h, toks := tk }) (A := A.in1) (S := S) hh D Z (Array.getElem?_eq_none (by omega)) fun h' he => ?_)
    have up : ∀ b o, S < b → h.get? b = some o → h'.get? b = some o := fun b o hb e => he b o (Nat.ne_of_gt (Nat.lt_trans oz hb)) (Nat.ne_of_gt (Nat.lt_trans oT hb)) (Nat.ne_of_gt (Nat.lt_trans o1 hb)) (Nat.ne_of_gt (Nat.lt_trans o2 hb)) e
    refine wpAny_pure (hR h' tk acc c as (fun b o h1 h2 h3 h4 h5 e => he b o h2 h3 h4 h5 (kp b o h1 h2 h3 h4 h5 e)) (he S _ O.z.symm O.TO.symm O.i1.symm O.i2.symm hS) (by omega) ⟨G.nd, G.above, fun a ha => ?_, fun j a hj => ?_⟩ hacc)
    · obtain ⟨j, hj⟩ := List.getElem?_of_mem ha
      obtain ⟨x, y, _, _, e3⟩ := G.pair j a hj
      exact Heap.lt_size (up a _ (G.above a ha) e3)
    · obtain ⟨x, y, e1, e2, e3⟩ := G.pair j a hj
      exact ⟨x, y, e1, e2, up a _ (G.above a (List.mem_of_getElem? hj)) e3⟩
  | succ k ih =>
    intro i h tk c acc as hk hi Z kp hS hacc hal G
    have lt : i < xs.size := by omega
    have lt2 : i < ys.size := by omega
    have asz : acc.size = i := by rw [← Array.length_toList, hacc, List.length_map, hal]
    have Sl : S < h.objs.size := Heap.lt_size hS
    refine codeAny_builtin PySem.F.entry_extend_loop ?_; rw [Around.under_plainId PySem.F.plain_extend_loop _]
    show wpAny (model prog w) A.in1 (pyNext (.ref z) >>= _) _ _ _
    have ex : xs[i]? = some xs[i] := Array.getElem?_eq_getElem lt
    have ey : ys[i]? = some ys[i] := Array.getElem?_eq_getElem lt2
    refine wpAny_bind (zs_next (s := { s with heap := h, toks := tk }) D O Sl Z ex ey fun h' Z' pr sz hkp => ?_)
    dsimp only at pr sz hkp ⊢
    have hS' := hkp S _ O.z.symm O.TO.symm O.i1.symm O.i2.symm hS
    have up : ∀ b o, b ≠ S → h'.get? b = some o → (h'.update S (Obj.mapSeq (·.push (Value.ref h.objs.size)))).get? b = some o := fun b o hb e => (Heap.get?_update_other _ _ (Ne.symm hb)).trans e
    have up2 : ∀ b o, S < b → h.get? b = some o → (h'.update S (Obj.mapSeq (·.push (Value.ref h.objs.size)))).get? b = some o := fun b o hb e => up b o (Nat.ne_of_gt hb) (hkp b o (Nat.ne_of_gt (Nat.lt_trans oz hb)) (Nat.ne_of_gt (Nat.lt_trans oT hb)) (Nat.ne_of_gt (Nat.lt_trans o1 hb)) (Nat.ne_of_gt (Nat.lt_trans o2 hb)) e)
    show wpAny (model prog w) A.in1 (updateSeq S (·.push (Value.ref h.objs.size)) >>= _) _ _ _
    refine wpAny_bind (wpAny_updateSeq hS' rfl (wpAny_pure ⟨plainId_quiet PySem.F.plain_extend_loop _, ih (i + 1) _ tk _ (acc.push (Value.ref h.objs.size)) (as ++ [h.objs.size]) (by omega) lt (Z'.keep O up)
      (fun b o h1 h2 h3 h4 h5 e => up b o h1 (hkp b o h2 h3 h4 h5 (kp b o h1 h2 h3 h4 h5 e))) (Heap.get?_update_self _ hS' rfl) (by rw [Array.toList_push, hacc, List.map_append]; rfl) (by rw [List.length_append, hal]; rfl) ?_⟩) (by rw [asz]; omega) (by show (acc.push (Value.ref h.objs.size)).size ≤ sizeLine + 1; rw [Array.size_push, asz]; omega))
    have gp : (h'.update S (Obj.mapSeq (·.push (Value.ref h.objs.size)))).get? h.objs.size = _ := up _ _ (Nat.ne_of_gt Sl) pr
    refine ⟨List.nodup_append.mpr ⟨G.nd, List.nodup_cons.mpr ⟨by simp, List.nodup_nil⟩, fun a ha b hb => ?_⟩, fun a ha => ?_, fun a ha => ?_, fun j b hj => ?_⟩
    · rw [List.mem_singleton.mp hb]; exact Nat.ne_of_lt (G.there a ha)
    · rcases List.mem_append.mp ha with ha | ha
      · exact G.above a ha
      · rw [List.mem_singleton.mp ha]; exact Sl
    · rcases List.mem_append.mp ha with ha | ha
      · obtain ⟨j, hj⟩ := List.getElem?_of_mem ha
        obtain ⟨x, y, _, _, e3⟩ := G.pair j a hj
        exact Heap.lt_size (up2 a _ (G.above a ha) e3)
      · rw [List.mem_singleton.mp ha]; exact Heap.lt_size gp
    · rcases Nat.lt_trichotomy j as.length with h1 | h1 | h1
      · rw [List.getElem?_append_left h1] at hj
        obtain ⟨x, y, e1, e2, e3⟩ := G.pair j b hj
        exact ⟨x, y, e1, e2, up2 b _ (G.above b (List.mem_of_getElem? hj)) e3⟩
      · subst h1
        have hb : h.objs.size = b := by simpa using hj
        subst hb
        exact ⟨_, _, by rw [hal]; exact ex, by rw [hal]; exact ey, gp⟩
      · rw [List.getElem?_eq_none (by rw [List.length_append]; simp; omega)] at hj
        cases hj
end

theorem zipNoLen : typeLookup (.type "zip") "__len__" = pure none := am_miss_of_fast (by decide +kernel)
theorem zipNoHint : typeLookup (.type "zip") "__length_hint__" = pure none := am_miss_of_fast (by decide +kernel)
section
variable {prog : Program} {w : World} {A : Around} {E : Value → Shared → Prop} {s : Shared} {R : Result → Shared → Prop}
theorem zipHint {r : Addr} {Q : Bool → Shared → Prop} (hT : s.TypeIs (.ref r) "zip") (h : Q true s) : wpAny (model prog w) A (Builtin.List.listLengthHint (.ref r)) Q E s := by
  unfold Builtin.List.listLengthHint
  refine wpAny_bind (wpAny_specialOf hT zipNoLen ?_)
  show wpAny (model prog w) A (specialOf (Value.ref r) (Str.ofString "__length_hint__") >>= _) _ _ _
  exact wpAny_bind (wpAny_specialOf hT zipNoHint (wpAny_pure h))
theorem zipExt {z TI TO i1 i2 l1 l2 S : Addr} {xs ys : Array Value} (hh : A.handled = none) (D : ZipApart z TI TO i1 i2 l1 l2) (O : Off z TI TO i1 i2 l1 l2 S) (oz : z < S) (o1 : i1 < S) (o2 : i2 < S) (oT : TO < S) (hxy : xs.size = ys.size) (hn : xs.size ≤ sizeLine) (res : Value)
    (gz : IsZip s.heap z TI TO .none) (Z : ZS s.heap z TI TO i1 i2 l1 l2 S xs ys 0) {c₀ : Nat} (hS : s.heap.get? S = some { cls := .type "list", data := .seq #[] c₀ })
    (hR : ∀ h' tk acc c as, (∀ b o, b ≠ S → b ≠ z → b ≠ TO → b ≠ i1 → b ≠ i2 → s.heap.get? b = some o → h'.get? b = some o) → h'.get? S = some { cls := .type "list", dict := none, data := .seq acc c, slots := #[] } → as.length = xs.size → Prs h' S xs ys as →
      acc.toList = as.map Value.ref → R (.ok (.ret res)) { s with heap := h', toks := tk }) :
    wpAny (model prog w) A.in1 (Builtin.List.listExtendWith (.ref S) (.ref z) res)
      (fun fin s' => match fin with | .done f => R (.ok f) s' | .again c' => c'.quiet = true ∧ codeAny (model prog w) A c' R s') (fun e s' => R (.error e) s') s := by
  have key : ∀ (h : Heap) (c₁ tk : Nat), (∀ b o, b ≠ S → s.heap.get? b = some o → h.get? b = some o) → h.get? S = some { cls := .type "list", data := .seq #[] c₁ } →
      codeAny (model prog w) A (.builtin "list.extend.loop" ⟨[.ref S, .ref z, res], []⟩) R { s with heap := h, toks := tk } := fun h c₁ tk hk g =>
    fill (h₁ := s.heap) hh D O oz o1 o2 oT hxy hn res hR xs.size 0 h tk c₁ #[] [] (Nat.sub_zero _) (Nat.zero_le _) (Z.keep O hk) (fun b o hb _ _ _ _ e => hk b o hb e) g rfl rfl
      ⟨List.nodup_nil, (fun _ ha => nomatch ha), (fun _ ha => nomatch ha), fun j a hj => by simp at hj⟩
  have ty : s.TypeIs (.ref z) "zip" := ⟨_, gz, rfl⟩
  unfold Builtin.List.listExtendWith
  refine wpAny_bind (wpAny_typeOf ty ?_)
  have e1 : Builtin.List.listSameRef (.ref S) (.ref z) = false := by simp [Builtin.List.listSameRef, O.z.symm]
  have e2 : (Value.type "zip" == Value.type "list") = false := by decide
  have e3 : (Value.type "zip" == Value.type "tuple") = false := by decide
  simp only [e1, e2, e3, Bool.or_false, Bool.false_eq_true, if_false]
  refine wpAny_bind (wpAny_pyIter_zip gz (wpAny_bind (wpAny_holding (zipHint ty ?_))))
  refine wpAny_ite_split (fun _ => ?_) (fun _ => wpAny_pure ⟨plainId_quiet PySem.F.plain_extend_loop _, key _ c₀ _ (fun b o _ e => e) hS⟩)
  refine wpAny_bind (wpAny_rule (wpAny_bind ?_))
  show wpAny (model prog w) A.in1 (updateSeq S (·.push .none) >>= fun _ => updateSeq S (·.pop)) _ _ _
  refine wpAny_bind (wpAny_updateSeq hS rfl ?_)
  have g2 := Heap.get?_update_self (Obj.mapSeq (·.push Value.none)) hS rfl
  refine wpAny_updateSeq (hz := by seq_fits) g2 rfl ?_
  have g3 := Heap.get?_update_self (Obj.mapSeq (·.pop)) g2 rfl
  refine wpAny_pure ⟨plainId_quiet PySem.F.plain_extend_loop _, key _ _ _ (fun b o hb e => ?_) g3⟩
  exact (Heap.get?_update_other _ _ (Ne.symm hb)).trans ((Heap.get?_update_other _ _ (Ne.symm hb)).trans e)
/-- list(z) of a zip that was just made: S is the next address -/
theorem listZip {z TI TO i1 i2 l1 l2 : Addr} {xs ys : Array Value} {Q : Value → Shared → Prop} (hh : A.handled = none) (D : ZipApart z TI TO i1 i2 l1 l2) (O : Off z TI TO i1 i2 l1 l2 s.heap.objs.size) (hxy : xs.size = ys.size) (hn : xs.size ≤ sizeLine)
    (gz : IsZip s.heap z TI TO .none) (Z : ZS s.heap z TI TO i1 i2 l1 l2 s.heap.objs.size xs ys 0) (gO : TO < s.heap.objs.size)
    (hQ : ∀ h' tk acc c as, (∀ b o, b ≠ z → b ≠ TO → b ≠ i1 → b ≠ i2 → s.heap.get? b = some o → h'.get? b = some o) → h'.get? s.heap.objs.size = some { cls := .type "list", dict := none, data := .seq acc c, slots := #[] } → as.length = xs.size → Prs h' s.heap.objs.size xs ys as →
      acc.toList = as.map Value.ref → Q (.ref s.heap.objs.size) { s with heap := h', toks := tk }) :
    wpAny (model prog w) A (call (.type "list") [.ref z]) Q E s := by
  have lt : ∀ {c o}, s.heap.get? c = some o → c < s.heap.objs.size := fun e => Heap.lt_size e
  have l1 : i1 < s.heap.objs.size := let ⟨_, e, _⟩ := Z.a1; lt e
  have l2 : i2 < s.heap.objs.size := let ⟨_, e, _⟩ := Z.a2; lt e
  refine callType_codes (Q₁ := fun obj s₁ => obj = .ref s.heap.objs.size ∧ s₁ = { s with heap := s.heap.push { cls := .type "list", data := .seq #[] } }) PySem.F.called_list (PySem.F.typeCall_list_1 _) PySem.F.entry_list_init (code_list_new _ ⟨rfl, rfl⟩) fun obj s₁ q => ?_
  obtain ⟨rfl, rfl⟩ := q
  have g0 : (s.heap.push { cls := .type "list", data := .seq #[] }).get? s.heap.objs.size = some { cls := .type "list", data := .seq #[] } := Heap.get?_push_size _ rfl
  refine ⟨⟨_, g0, rfl⟩, PySem.F.args_list_init_2 _ _, ?_⟩
  show wpAny _ A.in1.in1 (do let old ← Builtin.List.listItems (.ref s.heap.objs.size); Builtin.List.listUpdate (.ref s.heap.objs.size) (fun _ => #[]); letGo old.toList.reverse; Builtin.List.listExtendWith (.ref s.heap.objs.size) (.ref z) .none) _ _ _
  refine wpAny_bind ?_
  unfold Builtin.List.listItems
  refine wpAny_bind (wpAny_seqItems g0 rfl (wpAny_pure ?_))
  show wpAny _ A.in1.in1 (updateSeq s.heap.objs.size (fun _ => #[]) >>= fun _ => letGo (#[] : Array Value).toList.reverse >>= fun _ => Builtin.List.listExtendWith (.ref s.heap.objs.size) (.ref z) .none) _ _ _
  refine wpAny_bind (wpAny_updateSeq g0 rfl ?_)
  have g2 := Heap.get?_update_self (Obj.mapSeq (fun _ => (#[] : Array Value))) g0 rfl
  have kp : ∀ b o, b ≠ s.heap.objs.size → s.heap.get? b = some o → ((s.heap.push { cls := .type "list", data := .seq #[] }).update s.heap.objs.size (Obj.mapSeq (fun _ => (#[] : Array Value)))).get? b = some o :=
    fun b o hb e => (Heap.get?_update_other _ _ (Ne.symm hb)).trans (Heap.get?_push_of_some _ e)
  refine wpAny_bind (wpAny_letGo ?_)
  refine zipExt (A := A.in1) hh D O (lt gz) l1 l2 gO hxy hn .none (kp _ _ O.z gz) (Z.keep O kp) g2 fun h' tk acc c as hk hS' hl G hacc => ?_
  exact ⟨rfl, hQ h' tk acc c as (fun b o p1 p2 p3 p4 e => hk b o (Nat.ne_of_lt (lt e)) p1 p2 p3 p4 (kp b o (Nat.ne_of_lt (lt e)) e)) hS' hl G hacc⟩
end

/-! ### over the layer -/
open L2
/-- several new objects are tracked at once -/
theorem many {X : Cx} {pins : List (Addr × Obj)} {σ : L2.St} {H H' : Hp} {s : Shared} {h' : Heap} (t' : Nat) (I : Inv X pins σ H s) (k : ∀ b u, s.heap.get? b = some u → h'.get? b = some u)
    (old : ∀ b, b < s.heap.objs.size → H' b = H b) (new : ∀ b o, H' b = some o → s.heap.objs.size ≤ b → ObjOk X.prog X.w H' h' b o) : Inv X pins σ H' { s with heap := h', toks := t' } := by
  have up : ∀ b o, H b = some o → H' b = some o := fun b o e => by rw [old b (I.hok.lt e)]; exact e
  refine I.un (t' := t') ⟨fun b u q _ _ _ => k b u q, fun b u q _ _ _ => ⟨u.slots, k b u q⟩, fun b u q n _ => by rw [old b (Heap.lt_size q)]; exact n, fun b u q _ => ⟨u, k b u q⟩, fun b xs q => up b _ q, fun b u xs q => up b _ q, fun b ps q => ⟨#[], by rw [up b _ q]; simp⟩⟩ fun b o e => ?_
  rcases Nat.lt_or_ge b s.heap.objs.size with h | h
  · rw [old b h] at e
    exact (I.hok b o e).stay (fun c v _ q => k c v q) (fun c q => up c _ q) fun c xs q => up c _ q
  · exact new b o e h
/-- pairs laid one behind another -/
def layP (H : Hp) : List (Addr × V × V) → Hp
  | [] => H
  | p :: r => upd (layP H r) p.1 (.tup [p.2.1, p.2.2])
theorem layP_out {H : Hp} {b : Addr} : ∀ {l : List (Addr × V × V)}, b ∉ l.map (·.1) → layP H l b = H b
  | [], _ => rfl
  | p :: r, h => by
    rw [List.map_cons, List.mem_cons, not_or] at h
    show upd (layP H r) p.1 _ b = H b
    rw [upd_ne h.1, layP_out h.2]
theorem layP_in {H : Hp} {p : Addr × V × V} : ∀ {l : List (Addr × V × V)}, (l.map (·.1)).Nodup → p ∈ l → layP H l p.1 = some (.tup [p.2.1, p.2.2])
  | q :: r, nd, h => by
    rw [List.map_cons, List.nodup_cons] at nd
    show upd (layP H r) q.1 _ p.1 = _
    rcases List.mem_cons.mp h with rfl | h
    · exact upd_same
    · rw [upd_ne (fun e => nd.1 (by rw [← e]; exact List.mem_map_of_mem (f := (·.1)) h))]
      exact layP_in nd.2 h
theorem layP_cases {H : Hp} {b : Addr} {l : List (Addr × V × V)} (nd : (l.map (·.1)).Nodup) : layP H l b = H b ∨ ∃ p ∈ l, p.1 = b ∧ layP H l b = some (.tup [p.2.1, p.2.2]) := by
  by_cases h : b ∈ l.map (·.1)
  · obtain ⟨p, hp, e⟩ := List.mem_map.mp h
    exact .inr ⟨p, hp, e, e ▸ layP_in nd hp⟩
  · exact .inl (layP_out h)
/-- the reading of list(zip(t, u)): a new list of new pairs -/
def tLz (K : PySem.W.Frag) (ta : TA) : TE := fun σ H Q => ta σ H fun vs H1 => ∃ a b xs ys, vs = [.ref a, .ref b] ∧ SqT K H1 a xs ∧ SqT K H1 b ys ∧ xs.length = ys.length ∧
  ∀ (D : Addr) (H2 : Hp) (as : List Addr), H1 D = none → Same H1 H2 → H2 D = some (.lst (as.map V.ref)) → as.length = xs.length →
    (∀ (j : Nat) (c : Addr) (x y : V), as[j]? = some c → xs[j]? = some x → ys[j]? = some y → H2 c = some (.tup [x, y])) → Q (.ref D) H2
theorem pe_listZip {X : Cx} {e1 e2 : Expr} {ta : TA} {p p2 q pos : Pos} (hc : X.calm = true) (hg : Gl X "list") (hm : X.mg "list" = none) (hg2 : Gl X "zip") (hm2 : X.mg "zip" = none) (ha : PA X [e1, e2] ta)
    (hs : starEach [e1, e2] X.env = (false, eval e1 X.env) :: starEach [e2] X.env := by rfl) (hpl : (backTo q (starEach [e2] X.env)).any (·.1) = false := by rfl)
    (na : starEach [Expr.Call (.Name "zip" p2) [e1, e2] [] q] X.env = (false, eval (.Call (.Name "zip" p2) [e1, e2] [] q) X.env) :: starEach [] X.env := by rfl) :
    PE X (.Call (.Name "list" p) [.Call (.Name "zip" p2) [e1, e2] [] q] [] pos) (tLz X.K ta) := by
  refine ⟨fun pins s σ H Q I h => ?_⟩
  refine Call_ (ld_blt I hg hm (show bootBuiltins "list" = some (.type "list") from by decide +kernel) ?_)
  refine PyProof.Rows.callWith_type1 (PyProof.Rows.args_cons ?_ na) na rfl
  refine Call_ (ld_blt I hg2 hm2 PyProof.Rows.boot_zip (PyProof.Rows.callWith_type1 (thn (ha.run q pins s σ H _ I h) fun us s1 ⟨vs, H1, I1, r1, q1⟩ => ?_) hs hpl))
  obtain ⟨a, b, xs, ys, rfl, hqx, hqy, hlen, k⟩ := q1
  obtain ⟨u1, u2, rfl, ra, rb⟩ := vals2 r1
  cases ra
  cases rb
  obtain ⟨ia, va, pa, la⟩ := I1.tuple hqx
  obtain ⟨ib, vb, pb, lb⟩ := I1.tuple hqy
  obtain ⟨oa, hoa, _⟩ := id pa
  obtain ⟨ob, hob, _⟩ := id pb
  generalize hn : s1.heap.objs.size = n
  have an : a < n := hn ▸ Heap.lt_size hoa
  have bn : b < n := hn ▸ Heap.lt_size hob
  refine RZ.call_zipT (show s1.heap.IsTuple a ia.toArray from pa) (show s1.heap.IsTuple b ib.toArray from pb) fun h' hz hI hO h1 h2 hsz hk => PyProof.Rows.args_nil ?_
  rw [hn] at hz hI hO h1 h2 hsz ⊢
  have D := zipApart_new an bn
  have lt5 : ∀ {c : Nat}, c < n + 5 → c ≠ n + 5 := fun h => Nat.ne_of_lt h
  have O : Off (n + 4) (n + 2) (n + 3) n (n + 1) a b (n + 5) := ⟨lt5 (by omega), lt5 (by omega), lt5 (by omega), lt5 (by omega), lt5 (by omega), lt5 (Nat.lt_of_lt_of_le an (Nat.le_add_right _ _)), lt5 (Nat.lt_of_lt_of_le bn (Nat.le_add_right _ _))⟩
  have ta' : h'.IsTuple a ia.toArray := let ⟨o, ho, r⟩ := pa; ⟨o, hk _ _ ho, r⟩
  have tb' : h'.IsTuple b ib.toArray := let ⟨o, ho, r⟩ := pb; ⟨o, hk _ _ ho, r⟩
  have lxy : ia.toArray.size = ib.toArray.size := by
    have h1 := va.length
    have h2 := vb.length
    simp only [List.size_toArray]; omega
  have Z : ZS h' (n + 4) (n + 2) (n + 3) n (n + 1) a b (n + 5) ia.toArray ib.toArray 0 := ⟨hI, h1, h2, ta', tb', .inl ⟨hz, _, _, hO⟩⟩
  refine listZip (s := { s1 with heap := h' }) (TO := n + 3) (I1.ok.hd hc) D (by rw [show ({ s1 with heap := h' } : Shared).heap.objs.size = n + 5 from hsz]; exact O) lxy (by rw [List.size_toArray, ← va.length]; exact la) hz
    (by rw [show ({ s1 with heap := h' } : Shared).heap.objs.size = n + 5 from hsz]; exact Z) (by rw [show ({ s1 with heap := h' } : Shared).heap.objs.size = n + 5 from hsz]; exact Nat.lt_succ_of_lt (Nat.lt_succ_self _)) fun h2' tk acc cc as kp gS hl G hacc => ?_
  rw [show ({ s1 with heap := h' } : Shared).heap.objs.size = n + 5 from hsz] at gS G ⊢
  -- the new abstract heap
  have lz : (as.zip (xs.zip ys)).map (·.1) = as := by
    refine List.map_fst_zip ?_
    have h1 := va.length
    rw [List.length_zip, hl, List.size_toArray]; omega
  have nd : ((as.zip (xs.zip ys)).map (·.1)).Nodup := by rw [lz]; exact G.nd
  have hla : as.length = xs.length := by rw [hl, List.size_toArray, va.length]
  have kp2 : ∀ c o, s1.heap.get? c = some o → h2'.get? c = some o := fun c o e => by
    have hc : c < n := hn ▸ Heap.lt_size e
    exact kp c o (Nat.ne_of_lt (Nat.lt_of_lt_of_le hc (Nat.le_add_right n 4))) (Nat.ne_of_lt (Nat.lt_of_lt_of_le hc (Nat.le_add_right n 3))) (Nat.ne_of_lt hc) (Nat.ne_of_lt (Nat.lt_of_lt_of_le hc (Nat.le_add_right n 1))) (hk c o e)
  have fr : ∀ c, n ≤ c → H1 c = none := fun c hc => I1.hok.fresh (hn ▸ hc)
  have asn : ∀ c ∈ as, n + 5 < c := fun c hc => G.above c hc
  have old : ∀ c : Addr, c < n → upd (layP H1 (as.zip (xs.zip ys))) (n + 5) (.lst (as.map V.ref)) c = H1 c := fun c hc => by
    rw [upd_ne (Nat.ne_of_lt (Nat.lt_of_lt_of_le hc (Nat.le_add_right n 5)))]
    refine layP_out ?_
    rw [lz]
    exact fun hm => absurd (Nat.lt_of_le_of_lt (Nat.le_add_right n 5) (asn c hm)) (Nat.lt_asymm hc)
  have pairs : ∀ (j : Nat) (c : Addr) (x y : V), as[j]? = some c → xs[j]? = some x → ys[j]? = some y → (c, x, y) ∈ as.zip (xs.zip ys) := fun j c x y e1 e2 e3 => by
    refine List.mem_of_getElem? (i := j) ?_
    rw [List.getElem?_zip_eq_some, List.getElem?_zip_eq_some]
    exact ⟨e1, e2, e3⟩
  have at_ : ∀ (c : Addr) (x y : V), (c, x, y) ∈ as.zip (xs.zip ys) → upd (layP H1 (as.zip (xs.zip ys))) (n + 5) (.lst (as.map V.ref)) c = some (.tup [x, y]) := fun c x y hm => by
    have hc : c ∈ as := lz ▸ List.mem_map_of_mem (f := (·.1)) hm
    rw [upd_ne (Nat.ne_of_gt (asn c hc))]
    exact layP_in (p := (c, x, y)) nd hm
  refine ⟨.ref (n + 5), upd (layP H1 (as.zip (xs.zip ys))) (n + 5) (.lst (as.map V.ref)), many (s := s1) (H := H1) tk I1 (h' := h2') kp2 (by rw [hn]; exact old) ?_, rfl, k (n + 5) _ as (fr _ (Nat.le_add_right n 5)) (fun c o e => by rw [old c (hn ▸ I1.hok.lt e)]; exact e) upd_same hla fun j c x y e1 e2 e3 => at_ c x y (pairs j c x y e1 e2 e3)⟩
  rw [hn]
  intro c o e hc
  by_cases h5 : c = n + 5
  · subst h5
    rw [upd_same] at e
    cases e
    refine ⟨by rw [List.length_map, hla]; exact la, as.map Value.ref, cc, ?_, ?_⟩
    · clear hacc hl hla lz nd old pairs at_ G asn gS
      induction as with
      | nil => exact .nil
      | cons a r ih => exact .cons rfl ih
    · rw [← hacc, Array.toArray_toList]; exact gS
  · rw [upd_ne h5] at e
    rcases layP_cases (H := H1) (b := c) nd with g | ⟨p, hp, rfl, g⟩
    · rw [g, fr c hc] at e; cases e
    · rw [g] at e
      cases e
      obtain ⟨j, hj⟩ := List.getElem?_of_mem hp
      obtain ⟨c, x, y⟩ := p
      rw [List.getElem?_zip_eq_some, List.getElem?_zip_eq_some] at hj
      obtain ⟨j1, j2, j3⟩ := hj
      obtain ⟨u, v, e1, e2, e3⟩ := G.pair j c j1
      obtain ⟨u', g1, r1⟩ := va.get j2
      obtain ⟨v', g2, r2⟩ := vb.get j3
      have eu : u' = u := by
        rw [List.getElem?_toArray, g1] at e1; exact Option.some.inj e1
      have ev : v' = v := by
        rw [List.getElem?_toArray, g2] at e2; exact Option.some.inj e2
      subst eu ev
      exact ⟨by show 2 ≤ sizeLine; decide, [u', v'], .cons r1 (.cons r2 .nil), _, e3, rfl, _, rfl⟩
end GZ
/-! Rules that the hand layer lacks: min of a tuple, `not in` of a dict as an operator's rule, powers of great numbers, dict comprehensions whose keys are tuples. -/
namespace GL
open PySem PySem.W PySem.Spec PyProof.Rows L2
section
variable {prog : Program} {w : World} {A : Around} {E : Value → Shared → Prop} {s : Shared} {l : Addr}
theorem minTup {xs : Array (Int × Tok)} {Q : Value → Shared → Prop} (hh : A.handled = none) (hl : s.heap.IsTuple l (intItems xs)) (hne : 0 < xs.size)
    (h : ∀ v h' tk, (intItems xs)[argBest (fun i j => decide (numAt xs i < numAt xs j)) (xs.size - 1)]? = some v → (∀ b o, s.heap.get? b = some o → h'.get? b = some o) → Q v { s with heap := h', toks := tk }) :
    wpAny (model prog w) A (call (.builtin "min") [.ref l]) Q E s := by
  have lt : l < s.heap.objs.size := by obtain ⟨_, e, _⟩ := hl; exact Heap.lt_size e
  refine call_min_walk (wpAny_pyIter_tuple hl ?_)
  refine ⟨_, [_, l], [_], _, _, _, _, rfl, Walks.tuple (A := A.in1) hh _ l (Nat.ne_of_lt lt) (intItems xs), ⟨⟨_, Heap.get?_push_size _ rfl, rfl, rfl⟩, hl.push _⟩, fun c hc => ?_, by simpa [intItems] using hne, CmpOf.ints_lt (numAt xs) (fun _ _ => intItems_at), fun v h' tk hP hk => ?_⟩
  · show c < (s.heap.push _).objs.size
    rw [Heap.size_push]
    rcases List.mem_cons.mp hc with rfl | hc
    · exact Nat.lt_succ_self _
    · rw [List.mem_singleton.mp hc]; exact Nat.lt_succ_of_lt lt
  · refine h v h' tk (by simpa [intItems] using hP) fun b o e => hk b o (fun hm => ?_) (Heap.get?_push_of_some _ e)
    exact absurd (Heap.lt_size e) (by rw [List.mem_singleton.mp hm]; exact Nat.lt_irrefl _)
theorem argBest_is {ns : List Int} {its : List Value} (hi : IntsAre its ns) (hne : 0 < ns.length) (hh : A.handled = none) (hl : s.heap.IsTuple l its.toArray) {Q : Value → Shared → Prop}
    (h : ∀ h' tk M t', (∀ b o, s.heap.get? b = some o → h'.get? b = some o) → M ∈ ns → (∀ a, a ∈ ns → M ≤ a) → Q (.int M t') { s with heap := h', toks := tk }) : wpAny (model prog w) A (call (.builtin "min") [.ref l]) Q E s := by
  obtain ⟨xs, e⟩ := hi.allInts.items
  have hn : numsOf (intItems xs).toList = ns := by rw [← e]; exact hi.numsOf
  rw [nums_intItems] at hn; subst hn; rw [e] at hl
  have sz : 0 < xs.size := by simpa using hne
  refine minTup hh hl sz fun v h' tk hv hk => ?_
  obtain ⟨t, rfl⟩ := intItems_at hv
  obtain ⟨p, q⟩ := argBest_lt (numAt xs) (xs.size - 1)
  refine h h' tk _ t hk (by rw [numAt_eq]; exact PySem.getD_mem (by rw [List.length_map, Array.length_toList]; omega)) fun a ha => ?_
  obtain ⟨j, hj, rfl⟩ := mem_getD ha
  rw [List.length_map, Array.length_toList] at hj
  rw [← numAt_eq]; exact q j (by omega)
end
section
variable {X : Cx}
/-- min of a tuple of ints -/
def rMinT (K : PySem.W.Frag) : List V → Hp → VK → Prop := fun vs H Q => ∃ (a : Addr) (ns : List Int), vs = [V.ref a] ∧ SqT K H a (ns.map V.int) ∧ 0 < ns.length ∧ ∀ m, m ∈ ns → (∀ y, y ∈ ns → m ≤ y) → Q (.int m) H
theorem cr_minT (hc : X.calm = true) : CallR X (.builtin "min") (rMinT X.K) := fun pins s σ H vs us Q I r h => by
  obtain ⟨a, ns, rfl, hs, hne, q⟩ := h
  obtain ⟨its, rv, hl, _⟩ := I.tuple hs
  rw [Vals.ref1 r]
  exact argBest_is rv.ints hne (I.ok.hd hc) hl fun h' tk m t' hk h1 h2 => ⟨.int _, H, I.kept hk, ⟨_, rfl⟩, q m h1 h2⟩
/-- k not in d, by values -/
theorem op_nin (hu : X.A.units + 1 < cLine) : OpR X (compareOp .NotIn) (fun x y H Q => ∃ a o, y = .ref a ∧ DGet H a x o ∧ Q (.bl (!o.isSome)) H) := fun pins s σ H x y v u Q I rx ry h => by
  obtain ⟨a, o, rfl, g, q⟩ := h
  cases ry
  exact d_notIn hu I g rx fun s' I' => ⟨.bl _, H, I', rfl, q⟩
/-- a ** b of greater numbers -/
theorem op_powW : OpR X (binaryOp .Pow) (rI (fun i j => 0 ≤ j ∧ (Builtin.Int.intBits i : Int) * j ≤ 2 ^ 27) fun i j => .int (i ^ j.toNat)) := opI fun _ _ _ _ _ _ _ hc q => pow_int hc.1 hc.2 q
end

/-! ### {(a, b): v for .. in ..}: keys that are tuples -/
/-- what is shown for the block of a comprehension, whatever its frame is -/
abbrev InBlk (X : Cx) (scope : Scope) (f : Cx → Prop) : Prop := ∀ (s : Shared) (H : Hp) (C : Addr) (cl : List (Str × Addr)) (fp : List Addr), f (X.blk s H scope (compEnvC scope cl C X.env) fp)
/-- one store into the new dict -/
theorem putT {X : Cx} {pins : List (Addr × Obj)} {σ : L2.St} {H : Hp} {s : Shared} {E : Value → Shared → Prop} {D b : Addr} {kvs : List (List Key × V)} {k : List Key} {v : V} {u r : Value} {Q : Unit → Shared → Prop} (hu : X.A.units < cLine) (I : Inv X pins σ H s) (hD : H D = some (.dT kvs)) (hz : kvs.length < sizeLine)
    (hb : H b = some (.tup (k.map kV))) (ry : RelV (.ref b) u) (rv : RelV v r) (h : ∀ s', Inv X pins σ (upd H D (.dT (putK kvs k v))) s' → Q () s') : wpAny (model X.prog X.w) X.A (dictSet D u r) Q E s := by
  cases (show u = Value.ref b from ry)
  obtain ⟨z, hd, xs, rel, dd⟩ := dt_of I.hok hD
  have z1 : xs.length ≤ sizeLine := by rw [← Paired.length rel]; exact z
  have z2 : (putK kvs k v).length ≤ sizeLine := by have := length_putK kvs k v; omega
  refine wpAny_dictSet_heap (hsz := z1) (show (tupleKind (mixKind X.prog X.w)).room X.A from hu) (key_of I.hok hb) dd fun h' dd' hs => h _ ?_
  obtain ⟨q, es, ep, hq, p2, p3, p4, _, p5⟩ := dd'
  refine d_write I (by rw [hD]; exact True.intro) hs ⟨q, hq⟩ ⟨z2, hd, _, (rel.put k hb rv).keeps fun c ys ec => ?_, q, es, ep, hq, p2, p3, p4, p5⟩
  rw [upd_ne (ne_of ec hD (fun z => nomatch z))]; exact ec
section
variable {X : Cx}
/-- the reading: D the new dict, y the key's tuple -/
def tDcT (wi : TI) (g : TG) (tt : TT) (tk tv : TE) (vs : List Nat) : TE := fun σ H Q => wi σ H fun J H1 => ∀ D, H1 D = none → ∃ W : Nat → Nat → Hp → Prop, (∃ m, W 0 m (upd H1 D (.dT []))) ∧ ∀ i m H, W i m H →
  (J.stop i H ∧ Q (.ref D) H) ∨ (J.go i H ∧ ∃ Nx : Hp → Prop, (∀ H', Nx H' → ∃ m', m' < m ∧ W (i + 1) m' H') ∧ ∀ x H', J.yld i H x H' → g x (wipe σ vs) H' fun σ2 H2 => wipe σ2 vs = wipe σ vs ∧ tt σ2 H2 fun b H3 =>
    if b = true then tk σ2 H3 fun y H4 => tv σ2 H4 fun z H5 => ∃ kvs k a, y = .ref a ∧ H5 a = some (.tup (k.map kV)) ∧ H5 D = some (.dT kvs) ∧ kvs.length < sizeLine ∧ Nx (upd H5 D (.dT (putK kvs k z))) else Nx H3)
theorem dcT_run {pins : List (Addr × Obj)} {s : Shared} {σ : L2.St} {H : Hp} {Q : VK} {kx vx tg iter : Expr} {ifs : List Expr} {scope : Scope} {own : List (Str × Nat)} {pos pos' : Pos} {wi : TI} {g : TG} {tt : TT} {tk tv : TE} {use : Option (Value → Sem Unit)} {Qf : Value → Shared → Prop}
    (hu : X.A.units < cLine) (hc : X.calm = true) (hN : X.N.Nodup) (I : Inv X pins σ H s) (hi : PI X tg iter wi) (ok : BlkOk X.N X.env.scope scope own) (hg : InBlk X scope fun Y => PG Y tg g) (ht : InBlk X scope fun Y => PTs Y ifs tt) (hk : InBlk X scope fun Y => PE Y kx tk) (he : InBlk X scope fun Y => PE Y vx tv)
    (hs : ∀ x, foldedSetIterable iter X.env x = pure x) (h : tDcT wi g tt tk tv (own.map (·.2)) σ H Q)
    (hend : ∀ D C s' m H', Inv X pins σ H' s' → Q (.ref D) H' → s'.heap.Ns C m → FpOk X pins H' C → compPost (model X.prog X.w) X.A X.xe use Qf (.ref D) C (.ok .next) s') :
    wpAny (model X.prog X.w) X.A (comprehension (.DictComp kx vx [⟨tg, iter, ifs, 0⟩] scope pos) scope X.env pos' newDict false (eval iter X.env) use) Qf X.xe s := by
  have cap : ∀ y ∈ scope.names, y.2 = .free → ∃ c, X.env.cells.lookup y.1 = some c := fun y hy e => (ok.free y hy e).elim (fun k => I.ok.has _ (.inl k)) fun k => I.ok.has _ (.inr k)
  refine wpAny_comprehension_free (use := use) rfl hs (closure_ok cap) ok.kind (fun y hy e => by rw [ok.uniq y hy, e]) (thn (hi.run pins s σ H _ I h) fun xv sA hx => thn hx fun itv sB hB => ?_)
  obtain ⟨it, fp, tn, J, HB, rfl, IB, T, stB, fB, q⟩ := hB
  refine wpAny_newObj_type (newEnv_comp ?_)
  generalize eD : sB.heap.objs.size = D
  have nD : HB D = none := IB.hok.fresh (Nat.le_of_eq eD)
  obtain ⟨W, ⟨m0, w0⟩, turn⟩ := q D nD
  generalize eC : ({ sB with heap := sB.heap.push { cls := .type "dict", data := .dict #[] } } : Shared) = sC
  have IC : Inv X pins σ (upd HB D (.dT [])) sC := by
    subst eC
    exact IB.laid (t' := sB.toks) (fun b o e => Heap.get?_push_of_some _ e) (Nat.le_of_eq eD) (eD ▸ dt_empty sB.heap IB.big)
  have hC : sC.heap = sB.heap.push { cls := .type "dict", data := .dict #[] } := by rw [← eC]
  have small : ∀ b ∈ fp, b < sB.heap.objs.size := fun b hb => let ⟨o, e, _⟩ := T.obj _ _ stB b hb; Heap.lt_size e
  have fC : ∀ b ∈ fp, FpOk X pins (upd HB D (.dT [])) b ∧ b < sC.heap.objs.size := fun b hb => by
    refine ⟨⟨?_, (fB b hb).2⟩, by rw [hC, Heap.size_push]; exact Nat.lt_succ_of_lt (small b hb)⟩
    rw [upd_ne (by rw [← eD]; exact Nat.ne_of_lt (small b hb))]; exact (fB b hb).1
  have stC : tn 0 sC.heap := T.keep _ _ _ stB fun b _ o e => by rw [hC]; exact Heap.get?_push_of_some _ e
  have ID := block_start IC ok hN fC
  generalize eL : cellsFrom (sC.heap.objs.size + 1) scope.names (cloFrom X.env.cells scope.names []) = cl at ID
  have pg := hg sC (upd HB D (.dT [])) sC.heap.objs.size cl fp
  have pt := ht sC (upd HB D (.dT [])) sC.heap.objs.size cl fp
  have pk := hk sC (upd HB D (.dT [])) sC.heap.objs.size cl fp
  have pv := he sC (upd HB D (.dT [])) sC.heap.objs.size cl fp
  show codeAny _ _ (.compStart (.DictComp kx vx [⟨tg, iter, ifs, 0⟩] scope pos) 0 (.ref it) (.ref D) (compEnvC scope cl sC.heap.objs.size X.env)) (compPost (model X.prog X.w) X.A X.xe use Qf (.ref D) sC.heap.objs.size) { sC with heap := pushCells (sC.heap.push { cls := .type "dict", data := .dict #[] }) scope.names }
  have nfp : ∀ b ∈ fp, (upd HB D (.dT [])) b = none := fun b hb => (fC b hb).1.1
  generalize ece : compEnvC scope cl sC.heap.objs.size X.env = ce at ID pg pt pk pv ⊢
  have cL : ce.locals = sC.heap.objs.size := by subst ece; rfl
  generalize eH : upd HB D (.dT []) = HC at IC ID pg pt pk pv w0 nfp fC
  generalize eS : ({ sC with heap := pushCells (sC.heap.push { cls := .type "dict", data := .dict #[] }) scope.names } : Shared) = sD at ID ⊢
  have stD : tn 0 sD.heap := T.keep _ _ _ stC fun b _ o e => by rw [← eS]; exact pushCells_keeps _ _ _ _ (Heap.get?_push_of_some _ e)
  have stat : ∀ {σ' : L2.St} {H' : Hp} {s' : Shared}, Inv (X.blk sC HC scope ce fp) [] σ' H' s' → (∀ b ∈ fp, H' b = none) → ∀ b ∈ fp, FpOk (X.blk sC HC scope ce fp) [] H' b := fun I' hn b hb =>
    ⟨hn b hb, (I'.ok.exf b hb).1, I'.ok.exfs b hb, .inl hb, fun x c e => (I'.ok.exf b hb).2 x c e, fun p hp => absurd (show p ∈ ([] : List (Addr × Obj)) ++ [] from hp) (by simp)⟩
  have loop : codeAny (model X.prog X.w) X.A (.compLoop (.DictComp kx vx [⟨tg, iter, ifs, 0⟩] scope pos) 0 (.ref it) (.ref D) ce) (compPost (model X.prog X.w) X.A X.xe use Qf (.ref D) sC.heap.objs.size) sD := by
    refine compLoop_anyD (fun n s' => ∃ i H', Inv (X.blk sC HC scope ce fp) [] (wipe σ (own.map (·.2))) H' s' ∧ tn i s'.heap ∧ (∀ b ∈ fp, H' b = none) ∧ W i n H') ?_ m0 ⟨0, HC, ID, stD, nfp, w0⟩
    rintro n s5 ⟨i, H5, I5, st5, n5, w5⟩
    rcases turn i n H5 w5 with ⟨stop, qq⟩ | ⟨go, Nx, hNx, step⟩
    · refine thnF (T.done (X.blk sC HC scope ce fp) rfl rfl rfl hc i [] s5 _ H5 (fun _ _ => False) I5 (stat I5 n5) st5 stop) fun r s6 ⟨hr, I6⟩ => ?_
      subst hr
      have I7 : Inv X pins σ H5 s6 := IC.call' (ch := fp) I6.os I6.base I6.hok I6.bare fun b hb => let z := (fC b hb).1; ⟨z.2.2.2.1, z.2.1, z.2.2.2.2.1, z.2.2.2.2.2⟩
      have nC : H5 sC.heap.objs.size = none := cL ▸ (show H5 ce.locals = none from I6.free)
      obtain ⟨m, hn, _⟩ := I6.loc
      exact hend D sC.heap.objs.size s6 m H5 I7 qq (cL ▸ (show s6.heap.Ns ce.locals m from hn)) (IC.fpOk (Nat.le_refl _) nC)
    · refine thnF (T.item (X.blk sC HC scope ce fp) rfl rfl rfl hc i [] s5 _ H5 (fun _ _ => False) I5 (stat I5 n5) st5 go) fun r s6 ⟨u, hr, h6⟩ => ?_
      subst hr
      refine thnF h6 fun _ s7 ⟨x, H7, I7, r7, y7, st7, n7⟩ => ?_
      refine thnF (pg.run _ s7 _ H7 x u _ (I7.pinned (stat I7 n7) (T.obj _ _ st7)) r7 (step x H7 y7)) fun _ s8 ⟨σ8, H8, I8, hw8, q8⟩ => ?_
      refine thnF (pt.run _ s8 σ8 H8 _ I8 q8) fun b s9 ⟨H9, I9, q9⟩ => ?_
      have fin : ∀ {s' : Shared} {H' : Hp}, Inv (X.blk sC HC scope ce fp) ([] ++ pinsAt fp s7.heap) σ8 H' s' → Nx H' → ∃ m, m < n ∧ ∃ i H', Inv (X.blk sC HC scope ce fp) [] (wipe σ (own.map (·.2))) H' s' ∧ tn i s'.heap ∧ (∀ b ∈ fp, H' b = none) ∧ W i m H' := fun {s' H'} I' nx => by
        obtain ⟨m', hm, w'⟩ := hNx H' nx
        have kept : ∀ b ∈ fp, ∀ o, s7.heap.get? b = some o → s'.heap.get? b = some o ∧ H' b = none := fun b hb o e =>
          let z := I'.pin (b, o) (List.mem_append_right _ (List.mem_append_right _ (mem_pinsAt hb e)))
          ⟨z.1, z.2.1⟩
        refine ⟨m', hm, i + 1, H', (I'.unpinned (pins := [])).weak (by rw [← hw8, wipe_length]) (fun j v e => (wipe_some (hw8 ▸ e)).1), T.keep _ _ _ st7 fun b hb o e => (kept b hb o e).1, fun b hb => ?_, w'⟩
        obtain ⟨o, e, _⟩ := T.obj _ _ st7 b hb
        exact (kept b hb o e).2
      cases b with
      | false => simp only [Bool.false_eq_true, if_false] at q9 ⊢; exact fin I9 q9
      | true =>
        simp only [if_true] at q9 ⊢
        refine thnF (pk.run _ s9 σ8 H9 _ I9 q9) fun z s10 ⟨yk, H10, I10, r10, q10⟩ => thnF (pv.run _ s10 σ8 H10 _ I10 q10) fun z2 s11 ⟨yv, H11, I11, r11, kvs, k, a, ek, ea, eD11, z11, nx⟩ => ?_
        subst ek
        exact putT (X := X.blk sC HC scope ce fp) hu I11 eD11 z11 ea r10 r11 fun s12 I12 => fin I12 nx
  exact codeAny_compStart_dict loop (T.self X.A 0 _ _ _ stD loop)
theorem pe_dcT {kx vx tg iter : Expr} {ifs : List Expr} {scope : Scope} {own : List (Str × Nat)} {pos : Pos} {wi : TI} {g : TG} {tt : TT} {tk tv : TE} (hu : X.A.units < cLine) (hc : X.calm = true) (hN : X.N.Nodup) (hi : PI X tg iter wi) (ok : BlkOk X.N X.env.scope scope own)
    (hg : InBlk X scope fun Y => PG Y tg g) (ht : InBlk X scope fun Y => PTs Y ifs tt) (hk : InBlk X scope fun Y => PE Y kx tk) (he : InBlk X scope fun Y => PE Y vx tv) (hs : ∀ x, foldedSetIterable iter X.env x = pure x := by intro _; rfl) :
    PE X (.DictComp kx vx [⟨tg, iter, ifs, 0⟩] scope pos) (tDcT wi g tt tk tv (own.map (·.2))) := by
  refine ⟨fun pins s σ H Q I h => ?_⟩
  rw [arm_eval_DictComp]
  refine dcT_run hu hc hN I hi ok hg ht hk he hs h fun D C s' m H' I' q hn f => ⟨m, hn, fun h'' sb => ?_⟩
  exact ⟨.ref D, H', I'.turned (t' := s'.toks) (fun b o hb e => (sb.2 b hb).trans e) f.1 f.2.1 f.2.2.2.1 f.2.2.2.2.1 f.2.2.2.2.2, rfl, q⟩
/-- over a tuple that stays -/
theorem dcT_tup {K : PySem.W.Frag} {a : Addr} {xs : List V} {g : TG} {tt : TT} {tk tv : TE} {vs : List Nat} {σ : L2.St} {H1 : Hp} {D : Addr} {Qd : Hp → Prop} (Pv : Nat → Hp → Prop) (h0 : Pv 0 (upd H1 D (.dT []))) (hl : ∀ i H, i ≤ xs.length → Pv i H → SqT K H a xs)
    (hs : ∀ i x H, xs[i]? = some x → Pv i H → g x (wipe σ vs) H fun σ2 H2 => wipe σ2 vs = wipe σ vs ∧ tt σ2 H2 fun b H3 =>
      if b = true then tk σ2 H3 fun y H4 => tv σ2 H4 fun z H5 => ∃ kvs k a, y = .ref a ∧ H5 a = some (.tup (k.map kV)) ∧ H5 D = some (.dT kvs) ∧ kvs.length < sizeLine ∧ Pv (i + 1) (upd H5 D (.dT (putK kvs k z))) else Pv (i + 1) H3) (hd : ∀ H, Pv xs.length H → Qd H) :
    ∃ W : Nat → Nat → Hp → Prop, (∃ m, W 0 m (upd H1 D (.dT []))) ∧ ∀ i m H, W i m H →
      ((Itt K a).stop i H ∧ Qd H) ∨ ((Itt K a).go i H ∧ ∃ Nx : Hp → Prop, (∀ H', Nx H' → ∃ m', m' < m ∧ W (i + 1) m' H') ∧ ∀ x H', (Itt K a).yld i H x H' → g x (wipe σ vs) H' fun σ2 H2 => wipe σ2 vs = wipe σ vs ∧ tt σ2 H2 fun b H3 =>
        if b = true then tk σ2 H3 fun y H4 => tv σ2 H4 fun z H5 => ∃ kvs k a, y = .ref a ∧ H5 a = some (.tup (k.map kV)) ∧ H5 D = some (.dT kvs) ∧ kvs.length < sizeLine ∧ Nx (upd H5 D (.dT (putK kvs k z))) else Nx H3) := by
  refine ⟨fun i m H => m = xs.length - i ∧ i ≤ xs.length ∧ Pv i H, ⟨xs.length, (Nat.sub_zero _).symm, Nat.zero_le _, h0⟩, ?_⟩
  rintro i m H ⟨rfl, hi, p⟩
  rcases Nat.lt_or_ge i xs.length with hlt | hge
  · refine .inr ⟨⟨xs, xs[i], hl i H hi p, List.getElem?_eq_getElem hlt⟩, Pv (i + 1), fun H' p' => ⟨xs.length - (i + 1), by omega, rfl, hlt, p'⟩, ?_⟩
    rintro x H' ⟨rfl, y⟩
    exact hs i x _ (y xs (hl i _ hi p)) p
  · have e : i = xs.length := Nat.le_antisymm hi hge
    subst e
    exact .inl ⟨⟨xs, hl _ H hi p, Nat.le_refl _⟩, hd H p⟩
end
end GL
/-! The text by places, small words. -/
namespace W
open PySem L2 G24
def top (i : Nat) : Stmt := PySem.Challenge.pw_rotatedlogs_k52_whole_design_of_many_len.main.body.getD i (.Pass ⟨0, 0, 0, 0⟩)
abbrev iWalks : Nat := 6
abbrev sLast : Stmt := top 2
abbrev sTot : Stmt := top 3
abbrev sTurns : Stmt := top 4
/-- what stands behind a name that the module does not bind -/
structure Bi (mg : Str → Option Value) : Prop where
  range : mg "range" = none
  len : mg "len" = none
  tuple : mg "tuple" = none
  list : mg "list" = none
  zip : mg "zip" = none
  min : mg "min" = none
  max : mg "max" = none
  abs : mg "abs" = none
  int : mg "int" = none
  sorted : mg "sorted" = none
theorem SqT.same {K : PySem.W.Frag} {H H' : Hp} {a : Addr} {xs : List V} (e : Same H H') (h : SqT K H a xs) : SqT K H' a xs := by
  rcases h with (h | ⟨o, h⟩) | h
  · exact .inl (.inl (e _ _ h))
  · exact .inl (.inr ⟨o, e _ _ h⟩)
  · exact .inr h
theorem Same.put {H : Hp} {p : Addr} {o : HO} (h : H p = none) : Same H (upd H p o) := fun b u e => by rw [upd_ne (ne_of_none e h)]; exact e
/-- rules stand at a -/
def RulesAt (K : PySem.W.Frag) (H : Hp) (a : Addr) (size : Int) (ls : List Int) : Prop := ∃ l, SqT K H a [.int size, .ref l] ∧ SqT K H l (ls.map V.int)
theorem RulesAt.same {K : PySem.W.Frag} {H H' : Hp} {a : Addr} {size : Int} {ls : List Int} (e : Same H H') (h : RulesAt K H a size ls) : RulesAt K H' a size ls := let ⟨l, h1, h2⟩ := h; ⟨l, SqT.same e h1, SqT.same e h2⟩
theorem int_of_map {ls : List Int} {i : Nat} {x : V} (h : (ls.map V.int)[i]? = some x) : ∃ z, ls[i]? = some z ∧ x = .int z := by
  rw [List.getElem?_map] at h
  cases e : ls[i]? with
  | none => rw [e] at h; cases h
  | some z => rw [e] at h; exact ⟨z, rfl, (Option.some.inj h).symm⟩
theorem line_big : (5000000 : Nat) + 1000000 ≤ sizeLine := by rw [sizeLine_eq]; decide
/-! rules whose reading names the written part K (within a comprehension's block) -/
theorem pe_fldK {X : Cx} (K : PySem.W.Frag) {e : Expr} {f : Str} {pos : Pos} {ta : TE} (he : PE X e ta) (hK : X.K = K := by rfl) (hb : attributeBase e f X.env (eval e X.env) = eval e X.env := by rfl) : PE X (.Attribute e f pos) (tFld K ta f) := by subst hK; exact pe_fld he hb
theorem pi_listK {X : Cx} (K : PySem.W.Frag) {tg l : Expr} {tl : TE} (hl : PE X l tl) (hK : X.K = K := by rfl) : PI X tg l (iList K tl) := by subst hK; exact pi_list hl
theorem pi_tupK {X : Cx} (K : PySem.W.Frag) {tg l : Expr} {tl : TE} (hl : PE X l tl) (hK : X.K = K := by rfl) : PI X tg l (iTup K tl) := by subst hK; exact pi_tup hl
end W
namespace W
open PySem L2 G24
/-! ### last_lines -/
/-- the list that last_lines hands back: an item that is not None stands just where the fill can be reached -/
structure LastOk (size : Int) (ls : List Int) (f : Int) (fs : List V) : Prop where
  len : (fs.length : Int) = size + 1
  at_ : ∀ t : Nat, (t : Int) ≤ size → ∃ v, fs[t]? = some v ∧ (v ≠ .non ↔ Reach ls f t)
def spLast (K : PySem.W.Frag) : Sp := fun vs H Q _ => ∃ (a : Addr) (size : Int) (ls : List Int) (f : Int), vs = [.ref a, .int f] ∧ RulesAt K H a size ls ∧ Rules size ls ∧ size ≤ 100 ∧ f ∈ ls ∧
  ∀ (l : Addr) (fs : List V) (H' : Hp), Same H H' → H l = none → H' l = some (.lst fs) → LastOk size ls f fs → Q (.ref l) H'
theorem scLast : FnScope ["rules", "first", "size", "lengths", "found", "total", "length"] ["rules", "first"] (defScope sLast) := ⟨rfl, rfl, rfl, by decide +kernel, rfl, by decide +kernel, by decide +kernel⟩
/-- between two turns of the outer loop: all below total is decided, all from total on (but the first line's place) is None -/
structure LInv (size : Int) (ls : List Int) (f : Int) (total : Int) (fs : List V) : Prop where
  len : (fs.length : Int) = size + 1
  lo : ∀ t : Nat, (t : Int) < total → ∃ v, fs[t]? = some v ∧ (v ≠ .non ↔ Reach ls f t)
  hi : ∀ t : Nat, total ≤ t → (t : Int) ≤ size → fs[t]? = some .non
section
variable {P : Program} {w : World} {K : PySem.W.Frag} {mg : Str → Option Value} {base : Heap}
theorem reach_step {ls : List Int} {f t : Int} (lo : ∀ l ∈ ls, 1 ≤ l) (h : f < t) : Reach ls f t ↔ ∃ l ∈ ls, Reach ls f (t - l) := by
  constructor
  · intro r
    rcases r.inv with e | q
    · omega
    · exact q
  · rintro ⟨l, hl, r⟩
    have := Reach.step r hl
    rwa [show t - l + l = t from by omega] at this
theorem flat_non (n : Nat) : (List.replicate n [V.non]).flatten = List.replicate n V.non := by
  induction n with
  | zero => rfl
  | succ n ih => rw [List.replicate_succ, List.replicate_succ, List.flatten_cons, ih]; rfl
theorem ok_last {fa : Addr} {fd : FuncData} (F : Fun K "last_lines" "last_lines" sLast fa fd) (B : Bi mg) : FnOk P w K mg base CX0 1 fa fd ["rules", "first"] (spLast K) := by
  refine F.ok scLast (fun vs H Q E h => ?_) (fun cdv A outer s H vs Q E hr h => ?_)
  · obtain ⟨a, size, ls, f, rfl, _⟩ := h
    rfl
  · obtain ⟨a, size, ls, f, rfl, ⟨l, ra, rl⟩, R, h100, hf, k⟩ := h
    have nd := scLast.nd
    have f1 := R.lo f hf
    have fs := R.hi f hf
    refine ⟨_, pss_cons (ps_asg (pv 0) (pg_tup rfl (pgs_cons (pg_name (i := 2) nd rfl (.inl rfl)) (pgs_cons (pg_name (i := 3) nd rfl (.inl rfl)) pgs_nil))))
      (pss_cons (ps_set (i := 4) nd rfl (.inl rfl) (pe_op op_rep (pe_lst (pa_cons pe_non pa_nil)) (pe_op op_add (pv 2) pe_int)))
      (pss_cons (ps_asg (pv 1) (pg_sub (pv 4) (pv 1) set_list))
      (pss_cons (ps_for PassesOwn.never rfl (pi_range2 (by rfl) B.range (pa_cons (pe_op op_add (pv 1) pe_int) (pa_cons (pe_op op_add (pv 2) pe_int) pa_nil))) (pg_name (i := 5) nd rfl (.inl rfl))
        (pss_one (ps_for PassesOwn.never rfl (pi_tup (pv 3)) (pg_name (i := 6) nd rfl (.inl rfl))
          (pss_one (ps_if (PW.pt (pw_and (pt_cmpR op_le (pv 6) (pv 5) (nomark _)) (pw_and1 (pt_cmp (pc_notN (pe_ix ix_list (pv 4) (pe_op op_sub (pv 5) (pv 6)) (fun _ _ => rfl)))))))
            (pss_one (ps_asg (pv 6) (pg_sub (pv 4) (pv 5) set_list))) pss_nil)))))
      (pss_one (ps_ret (pv 4)))))), ?_⟩
    -- size, lengths = rules
    refine ⟨_, rfl, a, _, rfl, ra, rfl, _, _, rfl, _, _, rfl, rfl, ?_⟩
    -- found = [None] * (size + 1)
    refine ⟨by show 1 ≤ sizeLine; decide, fun p0 np0 => ⟨_, rfl, _, _, rfl, rfl, p0, size + 1, [.non], rfl, rfl, upd_same, by omega, by omega, by rw [sizeLine_eq]; show 1 * _ ≤ _; omega, fun p np => ?_⟩⟩
    have s1 : Same H (upd (upd H p0 (.lst [.non])) p (.lst (List.replicate (size + 1).toNat [V.non]).flatten)) := (Same.put np0).trans (Same.put np)
    have npH : H p = none := (Same.put np0).free np
    rw [flat_non] at s1 ⊢
    -- found[first] = first
    refine ⟨_, rfl, _, rfl, _, rfl, p, List.replicate (size + 1).toNat .non, f, f.toNat, rfl, rfl, upd_same, ?_, ?_⟩
    · rw [List.length_replicate]; unfold ixN; rw [if_pos (by omega), if_pos (by omega)]
    rw [upd_upd]
    -- for total in range(first + 1, size + 1)
    refine ⟨_, rfl, _, _, rfl, rfl, _, rfl, _, _, rfl, rfl, f + 1, size + 1, rfl, ⟨by omega, by omega, by omega, by omega⟩, ?_⟩
    refine for_range (lo := f + 1) (n := (size + 1 - (f + 1)).toNat) (fun i σ H2 => ∃ (v5 v6 : Option V) (fs : List V), σ = [some (.ref a), some (.int f), some (.int size), some (.ref l), some (.ref p), v5, v6] ∧ Same H H2 ∧ H2 p = some (.lst fs) ∧ LInv size ls f (f + 1 + i) fs)
      ⟨none, none, (List.replicate (size + 1).toNat .non).set f.toNat (.int f), rfl, ?_, upd_same, ⟨?_, ?_, ?_⟩⟩ ?_ ?_
    · have s2 : Same H (upd H p0 (.lst [.non])) := Same.put np0
      exact s2.trans (Same.put np)
    · rw [List.length_set, List.length_replicate]; omega
    · intro t ht
      by_cases e : t = f.toNat
      · subst e
        refine ⟨.int f, ?_, ?_⟩
        · rw [List.getElem?_set_self (by rw [List.length_replicate]; omega)]
        · rw [Int.toNat_of_nonneg (by omega)]
          exact ⟨fun _ => .base, fun _ z => nomatch z⟩
      · refine ⟨.non, ?_, ?_⟩
        · rw [List.getElem?_set_ne (fun z => e z.symm), List.getElem?_replicate, if_pos (by omega)]
        · refine ⟨fun z => absurd rfl z, fun r => ?_⟩
          have := r.ge R.lo
          omega
    · intro t h1 h2
      rw [List.getElem?_set_ne (by omega), List.getElem?_replicate, if_pos (by omega)]
    · -- one turn
      rintro i σ H2 hi ⟨v5, v6, fs0, rfl, s2, hp, L⟩
      have hi' : (i : Int) < size - f := by omega
      have tz : (f + 1 + (i : Int)) = ((f + 1 + i).toNat : Int) := by omega
      -- for length in lengths
      refine ⟨_, rfl, l, rfl, ⟨_, SqT.same s2 rl⟩, for_tup (K := K) (a := l) (xs := ls.map V.int) (fun j σ H3 => ∃ (v6 : Option V) (fs : List V), σ = [some (.ref a), some (.int f), some (.int size), some (.ref l), some (.ref p), some (.int (f + 1 + i)), v6] ∧ Same H H3 ∧ H3 p = some (.lst fs) ∧
          (fs.length : Int) = size + 1 ∧ (∀ t : Nat, (t : Int) ≠ f + 1 + i → fs[t]? = fs0[t]?) ∧ ∃ v, fs[(f + 1 + i).toNat]? = some v ∧ (v ≠ .non ↔ ∃ x ∈ ls.take j, Reach ls f (f + 1 + i - x)))
        ⟨v6, fs0, rfl, s2, hp, L.len, fun _ _ => rfl, .non, L.hi _ (by omega) (by omega), ⟨fun z => absurd rfl z, fun ⟨x, hx, _⟩ => by simp at hx⟩⟩ (fun j σ H3 _ ⟨_, _, _, s3, _⟩ => SqT.same s3 rl) ?_ ?_⟩
      · rintro j y σ H3 hj ⟨w6, fs1, rfl, s3, hp3, len3, oth, v, ev, iff⟩
        obtain ⟨z, hz, rfl⟩ := int_of_map hj
        have zm : z ∈ ls := List.mem_of_getElem? hz
        have z1 := R.lo z zm
        have tk : ls.take (j + 1) = ls.take j ++ [z] := by rw [List.take_add_one, hz]; rfl
        refine ⟨_, rfl, _, rfl, _, _, rfl, rfl, _, rfl, ?_⟩
        by_cases c1 : z ≤ f + 1 + i
        · rw [decide_eq_true c1]
          refine iteT ?_
          have ix : (f + 1 + (i : Int) - z) = ((f + 1 + i - z).toNat : Int) := by omega
          obtain ⟨u, eu, iu⟩ := L.lo (f + 1 + i - z).toNat (by omega)
          rw [← oth _ (by omega)] at eu
          rw [← ix] at iu
          refine ⟨_, rfl, _, rfl, _, rfl, _, _, rfl, rfl, p, fs1, _, u, rfl, rfl, SqL.of hp3, at_of ix eu, _, rfl, ?_⟩
          by_cases c2 : u = .non
          · rw [decide_eq_true c2]
            refine iteF ⟨_, fs1, rfl, s3, hp3, len3, oth, v, ev, ?_⟩
            rw [iff, tk]
            constructor
            · rintro ⟨x, hx, r⟩; exact ⟨x, List.mem_append_left _ hx, r⟩
            · rintro ⟨x, hx, r⟩
              rcases List.mem_append.mp hx with hx | hx
              · exact ⟨x, hx, r⟩
              · rw [List.mem_singleton.mp hx] at r; exact absurd c2 (iu.mpr r)
          · rw [decide_eq_false c2]
            refine iteT ⟨_, rfl, _, rfl, _, rfl, p, fs1, f + 1 + i, (f + 1 + i).toNat, rfl, rfl, hp3, ?_, ?_⟩
            · unfold ixN; rw [if_pos (by omega), if_pos (by omega)]
            · refine ⟨_, fs1.set (f + 1 + i).toNat (.int z), rfl, fun b o e => ?_, upd_same, by rw [List.length_set]; exact len3, fun t ht => ?_, .int z, ?_, ?_⟩
              · rw [upd_ne (ne_of_none e npH)]; exact s3 b o e
              · rw [List.getElem?_set_ne (by omega)]; exact oth t ht
              · rw [List.getElem?_set_self (by omega)]
              · exact ⟨fun _ => ⟨z, by rw [tk]; simp, iu.mp c2⟩, fun _ q => nomatch q⟩
        · rw [decide_eq_false c1]
          refine iteF ?_
          show (if false = true then _ else _)
          refine iteF ⟨_, fs1, rfl, s3, hp3, len3, oth, v, ev, ?_⟩
          rw [iff, tk]
          constructor
          · rintro ⟨x, hx, r⟩; exact ⟨x, List.mem_append_left _ hx, r⟩
          · rintro ⟨x, hx, r⟩
            rcases List.mem_append.mp hx with hx | hx
            · exact ⟨x, hx, r⟩
            · rw [List.mem_singleton.mp hx] at r
              have := r.ge R.lo
              omega
      · rintro σ H3 ⟨w6, fs1, rfl, s3, hp3, len3, oth, v, ev, iff⟩
        refine ⟨_, _, fs1, rfl, s3, hp3, len3, fun t ht => ?_, fun t h1 h2 => ?_⟩
        · by_cases e : (t : Int) = f + 1 + i
          · refine ⟨v, ?_, ?_⟩
            · rw [← ev]; congr 1; omega
            · rw [iff, List.length_map, List.take_length, e]
              exact (reach_step R.lo (by omega)).symm
          · obtain ⟨u, eu, iu⟩ := L.lo t (by omega)
            exact ⟨u, by rw [oth t e]; exact eu, iu⟩
        · rw [oth t (by omega)]; exact L.hi t (by omega) h2
    · -- return found
      rintro σ H2 ⟨v5, v6, fs0, rfl, s2, hp, L⟩
      refine ⟨_, rfl, k p fs0 H2 s2 npH hp ⟨L.len, fun t ht => L.lo t ?_⟩⟩
      omega

/-! ### totals_for -/
def spTot (K : PySem.W.Frag) : Sp := fun vs H Q _ => ∃ (l : Addr) (fs : List V) (size : Int) (ls : List Int) (f z : Int), vs = [.ref l, .int z] ∧ H l = some (.lst fs) ∧ LastOk size ls f fs ∧ Rules size ls ∧ size ≤ 100 ∧ f ∈ ls ∧ z ∈ ls ∧
  ∀ (D : Addr) (c : Int) (ts : List Int) (H' : Hp), Same H H' → H' D = some (.lst ((c :: ts).map V.int)) → IsCost size ls f z c → Q (.ref D) H'
theorem scTot : FnScope ["lasts", "later", "size", "total"] ["lasts", "later"] (defScope sTot) := ⟨rfl, rfl, rfl, by decide +kernel, rfl, by decide +kernel, by decide +kernel⟩
theorem ok_tot {fa : Addr} {fd : FuncData} (F : Fun K "totals_for" "totals_for" sTot fa fd) (B : Bi mg) : FnOk P w K mg base CX0 1 fa fd ["lasts", "later"] (spTot K) := by
  refine F.ok scTot (fun vs H Q E h => ?_) (fun cdv A outer s H vs Q E hr h => ?_)
  · obtain ⟨l, fs, size, ls, f, z, rfl, _⟩ := h
    rfl
  · obtain ⟨l, fs, size, ls, f, z, rfl, hl, L, R, h100, hf, hz, k⟩ := h
    have nd := scTot.nd
    have z1 := R.lo z hz
    have z2 := R.hi z hz
    refine ⟨_, pss_cons (ps_set (i := 2) nd rfl (.inl rfl) (pe_op op_sub (pe_callB call_len_seq (by rfl) B.len PySem.boot_len (pa_cons (pv 0) pa_nil)) pe_int))
      (pss_one (ps_ret (pe_lc (own := [("total", 3)]) (g := gName 3) (by rfl) nd (pi_range2 (by rfl) B.range (pa_cons (pe_op op_add (pe_op op_sub (pv 2) (pv 1)) pe_int) (pa_cons (pe_op op_add (pv 2) pe_int) pa_nil)))
        (blkOk_by (own := [("total", 3)]) (N := ["lasts", "later", "size", "total"]) (sc := defScope sTot) (by decide +kernel)) (fun _ _ _ _ _ => pg_name (i := 3) nd rfl (Or.inl rfl))
        (fun _ _ _ _ _ => pts_one (pt_cmp (pc_notN (pe_ix (r := rIxL K) ix_list (pv 0) (pv 3) (fun _ _ => rfl))))) (fun _ _ _ _ _ => pv 3)))), ?_⟩
    refine ⟨_, rfl, l, fs, rfl, .inl (SqL.of hl), _, _, rfl, rfl, ?_⟩
    have en : (fs.length : Int) - 1 = size := by have := L.len; omega
    refine ⟨_, rfl, _, rfl, _, _, rfl, rfl, _, _, rfl, rfl, _, rfl, _, _, rfl, rfl, size - z + 1, size + 1, (by show [V.int ((fs.length : Int) - 1 - z + 1), V.int ((fs.length : Int) - 1 + 1)] = [V.int (size - z + 1), V.int (size + 1)]; rw [en]), ⟨by omega, by omega, by omega, by omega⟩, fun D nD => ?_⟩
    have en2 : (size + 1 - (size - z + 1)).toNat = z.toNat := by omega
    rw [en2]
    refine lc_range (lo := size - z + 1) (n := z.toNat) (fun i H2 => ∃ ts : List Int, Same H H2 ∧ H2 D = some (.lst (ts.map V.int)) ∧ ts.length ≤ i ∧ (∀ c r, ts = c :: r → Reach ls f c ∧ size - z < c ∧ c ≤ size ∧ ∀ t, Reach ls f t → size - z < t → c ≤ t) ∧
        (ts = [] → ∀ t, Reach ls f t → size - z < t → size - z + i < t))
      ⟨[], Same.put nD, upd_same, Nat.le_refl _, (fun c r e => nomatch e), fun _ t _ h => by simpa using h⟩ ?_ ?_
    · rintro i H2 hi ⟨ts, s2, hD, hlen, p1, p2⟩
      have tz : (size - z + 1 + (i : Int)) = ((size - z + 1 + i).toNat : Int) := by omega
      obtain ⟨v, ev, iv⟩ := L.at_ (size - z + 1 + i).toNat (by omega)
      refine ⟨rfl, _, rfl, _, rfl, l, fs, _, v, rfl, rfl, SqL.of (s2 _ _ hl), at_of tz ev, _, rfl, ?_⟩
      by_cases c2 : v = .non
      · rw [decide_eq_true c2]
        refine iteF ⟨ts, s2, hD, by omega, p1, fun e t r ht => ?_⟩
        have h1 := p2 e t r ht
        rcases Int.lt_or_eq_of_le (show size - z + (i : Int) + 1 ≤ t by omega) with q | q
        · omega
        · rw [← tz] at iv
          rw [← q, show size - z + (i : Int) + 1 = size - z + 1 + i from by omega] at r
          exact absurd c2 (iv.mpr r)
      · rw [decide_eq_false c2]
        rw [← tz] at iv
        have rc := iv.mp c2
        refine iteT ⟨_, rfl, _, hD, ?_, ?_⟩
        · rw [List.length_map]; have := line_big; omega
        · refine ⟨ts ++ [size - z + 1 + i], ?_, by rw [upd_same, List.map_append]; rfl, by rw [List.length_append]; simpa using hlen, fun c r e => ?_, fun e => absurd e (by simp)⟩
          · intro b o e
            by_cases hb : b = D
            · subst hb; rw [nD] at e; cases e
            · rw [upd_ne hb]; exact s2 b o e
          · cases ts with
            | nil =>
              have e1 : size - z + 1 + (i : Int) = c := by simpa using (List.cons.inj e).1
              subst e1
              exact ⟨rc, by omega, by omega, fun t r ht => by have := p2 rfl t r ht; omega⟩
            | cons d ts => 
              have e1 : d = c := (List.cons.inj e).1
              subst e1
              exact p1 d ts rfl
    · rintro H2 ⟨ts, s2, hD, hlen, p1, p2⟩
      cases ts with
      | nil =>
        obtain ⟨t, r, a1, a2⟩ := reach_above R (R.hi f hf) hz
        have := p2 rfl t r a1
        omega
      | cons c ts =>
        obtain ⟨a1, a2, a3, a4⟩ := p1 c ts rfl
        exact k D c ts H2 s2 hD ⟨a1, a2, a3, a4⟩
/-! ### turns -/
def prs (ls : List Int) : List (Int × Int) := ls.flatMap fun f => ls.map fun l => (f, l)
/-- a tuple of four for each pair of lines -/
def Quads (size : Int) (ls : List Int) (H : Hp) (ps : List (Int × Int)) (qs : List Addr) : Prop :=
  qs.length = ps.length ∧ ∀ (i : Nat) (q : Addr) (p : Int × Int), qs[i]? = some q → ps[i]? = some p → ∃ g : Int, H q = some (.tup [.int p.1, .int p.2, .int (cost size ls p.1 p.2), .int g])
theorem Quads.same {size : Int} {ls : List Int} {H H' : Hp} {ps : List (Int × Int)} {qs : List Addr} (h : Quads size ls H ps qs) (e : ∀ b o, b ∈ qs → H b = some o → H' b = some o) : Quads size ls H' ps qs :=
  ⟨h.1, fun i q p e1 e2 => let ⟨g, hg⟩ := h.2 i q p e1 e2; ⟨g, e q _ (List.mem_of_getElem? e1) hg⟩⟩
theorem Quads.snoc {size : Int} {ls : List Int} {H : Hp} {ps : List (Int × Int)} {qs : List Addr} {q : Addr} {f l g : Int} (h : Quads size ls H ps qs) (hq : H q = some (.tup [.int f, .int l, .int (cost size ls f l), .int g])) : Quads size ls H (ps ++ [(f, l)]) (qs ++ [q]) := by
  refine ⟨by rw [List.length_append, List.length_append, h.1]; rfl, fun i a p e1 e2 => ?_⟩
  rcases Nat.lt_trichotomy i qs.length with c | c | c
  · rw [List.getElem?_append_left c] at e1
    rw [List.getElem?_append_left (by rw [← h.1]; exact c)] at e2
    exact h.2 i a p e1 e2
  · subst c
    rw [List.getElem?_append_right (Nat.le_refl _)] at e1
    rw [h.1, List.getElem?_append_right (Nat.le_refl _)] at e2
    simp at e1 e2
    subst e1 e2
    exact ⟨g, hq⟩
  · rw [List.getElem?_eq_none (by rw [List.length_append]; simp; omega)] at e1
    cases e1
def spTurns (K : PySem.W.Frag) : Sp := fun vs H Q _ => ∃ (a : Addr) (size : Int) (ls : List Int), vs = [.ref a] ∧ RulesAt K H a size ls ∧ Rules size ls ∧ size ≤ 100 ∧ ls.length ≤ 6 ∧
  ∀ (t : Addr) (qs : List Addr) (H' : Hp), Same H H' → H' t = some (.tup (qs.map V.ref)) → Quads size ls H' (prs ls) qs → Q (.ref t) H'
theorem scTurns : FnScope ["rules", "found", "first", "lasts", "later", "totals"] ["rules"] (defScope sTurns) := ⟨rfl, rfl, rfl, by decide +kernel, rfl, by decide +kernel, by decide +kernel⟩
theorem prs_len (ls : List Int) : (prs ls).length = ls.length * ls.length := by
  have h : ∀ l : List Int, (l.flatMap fun f => ls.map fun l => (f, l)).length = l.length * ls.length := by
    intro l
    induction l with
    | nil => simp
    | cons a r ih => rw [List.flatMap_cons, List.length_append, ih, List.length_map, List.length_cons, Nat.add_mul, Nat.one_mul, Nat.add_comm]
  exact h ls
theorem ok_turns {fa fL fT : Addr} {fd fdL fdT : FuncData} (F : Fun K "turns" "turns" sTurns fa fd) (B : Bi mg) (GL : FnOk P w K mg base CX0 1 fL fdL ["rules", "first"] (spLast K)) (kL : PySem.W.keepIn K (.ref fL) = true) (mL : mg "last_lines" = some (.ref fL)) (bL : Binds K fdL ["rules", "first"] [])
    (GT : FnOk P w K mg base CX0 1 fT fdT ["lasts", "later"] (spTot K)) (kT : PySem.W.keepIn K (.ref fT) = true) (mT : mg "totals_for" = some (.ref fT)) (bT : Binds K fdT ["lasts", "later"] []) : FnOk P w K mg base CX0 2 fa fd ["rules"] (spTurns K) := by
  refine F.ok scTurns (fun vs H Q E h => ?_) (fun cdv A outer s H vs Q E hr h => ?_)
  · obtain ⟨a, size, ls, rfl, _⟩ := h
    rfl
  · obtain ⟨a, size, ls, rfl, RA, R, h100, h6, k⟩ := h
    have nd := scTurns.nd
    obtain ⟨l, ra, rl⟩ := id RA
    refine ⟨_, pss_cons (ps_set (i := 1) nd rfl (.inl rfl) (pe_lst pa_nil))
      (pss_cons (ps_for PassesOwn.never rfl (pi_tup (pe_ix ix_tup (pv 0) pe_int (fun _ _ => rfl))) (pg_name (i := 2) nd rfl (.inl rfl))
        (pss_cons (ps_set (i := 3) nd rfl (.inl rfl) (pe_call GL hr rfl mL kL bL .nil pass0 (pa_cons (pv 0) (pa_cons (pv 2) pa_nil))))
        (pss_one (ps_for PassesOwn.never rfl (pi_tup (pe_ix ix_tup (pv 0) pe_int (fun _ _ => rfl))) (pg_name (i := 4) nd rfl (.inl rfl))
          (pss_cons (ps_set (i := 5) nd rfl (.inl rfl) (pe_call GT hr rfl mT kT bT .nil pass0 (pa_cons (pv 3) (pa_cons (pv 4) pa_nil))))
          (pss_one (ps_expr (pe_bm PySem.F.plainAttrs_list PySem.F.slot_list_append PySem.F.type_list_append mt_append (pv 1)
            (pa_cons (pe_tup (pa_cons (pv 2) (pa_cons (pv 4) (pa_cons (pe_ix ix_list (pv 5) pe_int (fun _ _ => rfl)) (pa_cons (pe_ix ix_list (pv 5) (pe_un un_neg pe_int) (fun _ _ => rfl)) pa_nil))))) pa_nil)))))))))
      (pss_one (ps_ret (pe_callTy call_tuple_of (by rfl) B.tuple (by decide +kernel) (pa_cons (pv 1) pa_nil))))), ?_⟩
    refine ⟨by decide, fun p np => ?_⟩
    have ls36 : ls.length * ls.length ≤ 36 := Nat.mul_le_mul h6 h6
    have lb := line_big
    refine ⟨_, rfl, a, _, _, _, rfl, rfl, SqT.same (Same.put np) ra, rfl, l, rfl, ⟨_, SqT.same (Same.put np) rl⟩, ?_⟩
    refine for_tup (K := K) (a := l) (xs := ls.map V.int) (fun i σ H2 => ∃ (v2 v3 v4 v5 : Option V) (qs : List Addr), σ = [some (.ref a), some (.ref p), v2, v3, v4, v5] ∧ Same H H2 ∧ H2 p = some (.lst (qs.map V.ref)) ∧ p ∉ qs ∧ Quads size ls H2 ((ls.take i).flatMap fun f => ls.map fun l => (f, l)) qs ∧ qs.length ≤ i * ls.length)
      ⟨none, none, none, none, [], rfl, Same.put np, upd_same, by simp, ⟨rfl, fun i q p e => by simp at e⟩, Nat.zero_le _⟩ (fun i σ H2 _ ⟨_, _, _, _, _, _, s2, _⟩ => SqT.same s2 rl) ?_ ?_
    · rintro i y σ H2 hi ⟨v2, v3, v4, v5, qs, rfl, s2, hp, hpq, QD, hql⟩
      obtain ⟨f, hf, rfl⟩ := int_of_map hi
      have fm : f ∈ ls := List.mem_of_getElem? hf
      have il : i < ls.length := (List.getElem?_eq_some_iff.mp hf).1
      have tk : ls.take (i + 1) = ls.take i ++ [f] := by rw [List.take_add_one, hf]; rfl
      -- lasts = last_lines(rules, first)
      refine ⟨_, rfl, _, rfl, a, size, ls, f, rfl, RA.same s2, R, h100, fm, fun q fs H3 s3 nq hq L => ?_⟩
      have s23 := s2.trans s3
      refine ⟨_, rfl, a, _, _, _, rfl, rfl, SqT.same s23 ra, rfl, l, rfl, ⟨_, SqT.same s23 rl⟩, ?_⟩
      have pq : p ≠ q := ne_of_none hp nq
      refine for_tup (K := K) (a := l) (xs := ls.map V.int) (fun j σ H4 => ∃ (v4 v5 : Option V) (qs : List Addr), σ = [some (.ref a), some (.ref p), some (.int f), some (.ref q), v4, v5] ∧ Same H H4 ∧ H4 q = some (.lst fs) ∧ H4 p = some (.lst (qs.map V.ref)) ∧ p ∉ qs ∧
          Quads size ls H4 (((ls.take i).flatMap fun f => ls.map fun l => (f, l)) ++ (ls.take j).map fun l => (f, l)) qs ∧ qs.length ≤ i * ls.length + j)
        ⟨v4, v5, qs, rfl, s23, hq, s3 _ _ hp, hpq, by simpa using QD.same (fun b o _ e => s3 b o e), by simpa using hql⟩ (fun j σ H4 _ ⟨_, _, _, _, s4, _⟩ => SqT.same s4 rl) ?_ ?_
      · rintro j y σ H4 hj ⟨w4, w5, qs, rfl, s4, hq4, hp4, hpq, QD, hql⟩
        obtain ⟨z, hz, rfl⟩ := int_of_map hj
        have zm : z ∈ ls := List.mem_of_getElem? hz
        have jl : j < ls.length := (List.getElem?_eq_some_iff.mp hz).1
        have tk2 : ls.take (j + 1) = ls.take j ++ [z] := by rw [List.take_add_one, hz]; rfl
        -- totals = totals_for(lasts, later)
        refine ⟨_, rfl, _, rfl, q, fs, size, ls, f, z, rfl, hq4, L, R, h100, fm, zm, fun D c ts H5 s5 hD C => ?_⟩
        have ec : c = cost size ls f z := C.inj (cost_is R fm zm)
        have hp5 := s5 _ _ hp4
        refine ⟨_, rfl, .inl ⟨rfl, _, SqL.of hp5⟩, _, rfl, _, rfl, _, rfl, D, _, _, V.int c, rfl, rfl, SqL.of hD, at_of (j := 0) rfl rfl, _, rfl, _, rfl, D, (c :: ts).map V.int, -1, V.int ((c :: ts).getLast (by simp)), rfl, rfl, SqL.of hD, ?_, by show 4 ≤ sizeLine; decide, fun r nr => ?_⟩
        · have e : (c :: ts).map V.int = ((c :: ts).dropLast.map V.int) ++ [V.int ((c :: ts).getLast (by simp))] := by
            rw [← List.map_singleton, ← List.map_append, List.dropLast_concat_getLast]
          rw [e]; exact atI_last _ _
        · have rp : p ≠ r := ne_of_none hp5 nr
          have hqs : (qs.map V.ref).length < sizeLine := by
            rw [List.length_map]
            have : i * ls.length + j ≤ ls.length * ls.length := by
              have := Nat.mul_le_mul_right ls.length (show i + 1 ≤ ls.length from il)
              rw [Nat.add_mul] at this; omega
            omega
          refine ⟨p, qs.map V.ref, .ref r, rfl, rfl, by rw [upd_ne rp]; exact hp5, hqs, ?_⟩
          refine ⟨_, _, qs ++ [r], rfl, fun b o e => ?_, ?_, by rw [upd_same, List.map_append]; rfl, ?_, ?_, ?_⟩
          · have e5 := s5 b o (s4 b o e)
            rw [upd_ne (ne_of_none e np), upd_ne (ne_of_none e5 nr)]; exact e5
          · rw [upd_ne pq.symm, upd_ne (ne_of_none (s5 _ _ hq4) nr)]; exact s5 _ _ hq4
          · intro hm
            rcases List.mem_append.mp hm with hm | hm
            · exact hpq hm
            · exact rp (List.mem_singleton.mp hm)
          · rw [tk2, List.map_append, ← List.append_assoc]
            refine Quads.snoc (g := (c :: ts).getLast (by simp)) (QD.same fun b o hb e => ?_) ?_
            · have e5 := s5 b o e
              rw [upd_ne (fun hbp => hpq (by rw [← hbp]; exact hb)), upd_ne (ne_of_none e5 nr)]; exact e5
            · rw [upd_ne rp.symm, upd_same, ec]
          · rw [List.length_append]; simp; omega
      · rintro σ H4 ⟨w4, w5, qs, rfl, s4, hq4, hp4, hpq, QD, hql⟩
        refine ⟨_, _, _, _, qs, rfl, s4, hp4, hpq, ?_, ?_⟩
        · rw [tk, List.flatMap_append]
          rw [List.length_map, List.take_length] at QD
          simpa using QD
        · rw [List.length_map] at hql
          rw [Nat.add_mul]; omega
    · rintro σ H2 ⟨v2, v3, v4, v5, qs, rfl, s2, hp, hpq, QD, hql⟩
      refine ⟨_, rfl, p, _, rfl, .inl ⟨SqL.of hp, fun t nt => k t qs _ (s2.trans (Same.put nt)) upd_same ?_⟩⟩
      rw [List.length_map, List.take_length] at QD
      exact QD.same fun b o _ e => by rw [upd_ne (ne_of_none e nt)]; exact e
end
end W
namespace W
open PySem L2 G24
abbrev sWInit : Stmt := inClass (top iWalks) 0
abbrev sShape : Stmt := inClass (top iWalks) 1
abbrev sRow : Stmt := inClass (top iWalks) 2
abbrev sEnd : Stmt := inClass (top iWalks) 3
abbrev sBytes : Stmt := inClass (top iWalks) 4
/-! ### attributes by their names -/
theorem look_at : ∀ {ks : List Str} {vs : List V} {f : Str} {i : Nat} {v : V}, ks.findIdx? (fun k => f == k) = some i → vs[i]? = some v → (ks.zip vs).lookup f = some v
  | [], _, _, _, _, h, _ => by simp at h
  | k :: ks, [], _, _, _, _, h => by simp at h
  | k :: ks, w :: vs, f, i, v, h, hv => by
    rw [List.zip_cons_cons, List.lookup_cons]
    rw [List.findIdx?_cons] at h
    cases e : f == k with
    | true =>
      rw [e, if_pos rfl] at h
      cases h
      simpa using hv
    | false =>
      rw [e, if_neg (by decide)] at h
      obtain ⟨j, hj, rfl⟩ := Option.map_eq_some_iff.mp h
      exact look_at hj (by simpa using hv)
theorem look_no : ∀ {ks : List Str} {vs : List V} {f : Str}, ks.findIdx? (fun k => f == k) = none → (ks.zip vs).lookup f = none
  | [], _, _, _ => rfl
  | k :: ks, [], _, _ => rfl
  | k :: ks, w :: vs, f, h => by
    rw [List.zip_cons_cons, List.lookup_cons]
    rw [List.findIdx?_cons] at h
    cases e : f == k with
    | true => rw [e, if_pos rfl] at h; cases h
    | false =>
      rw [e, if_neg (by decide)] at h
      exact look_no (Option.map_eq_none_iff.mp h)
theorem putF_new : ∀ {ks : List Str} {vs : List V} {f : Str} {v : V}, ks.findIdx? (fun k => f == k) = none → ks.length = vs.length → putF f v (ks.zip vs) = (ks ++ [f]).zip (vs ++ [v])
  | [], [], _, _, _, _ => rfl
  | [], _ :: _, _, _, _, h => by simp at h
  | _ :: _, [], _, _, _, h => by simp at h
  | k :: ks, w :: vs, f, v, h, hl => by
    rw [List.findIdx?_cons] at h
    cases e : f == k with
    | true => rw [e, if_pos rfl] at h; cases h
    | false =>
      rw [e, if_neg (by decide)] at h
      have ne : ¬ k = f := fun z => by subst z; simp at e
      show (if k = f then _ else (k, w) :: putF f v (ks.zip vs)) = (k, w) :: (ks ++ [f]).zip (vs ++ [v])
      rw [if_neg ne, putF_new (Option.map_eq_none_iff.mp h) (by simpa using hl)]
/-- a class of the text whose instances bear no attribute's name -/
structure KW (K : PySem.W.Frag) (C : Addr) : Prop where
  cl : Cls K C
  lengths : NoAttr K C "lengths"
  costs : NoAttr K C "costs"
  rows : NoAttr K C "rows"
  from_ : NoAttr K C "regular_from"
  period : NoAttr K C "period"
  bytes : NoAttr K C "bytes"
def k2 : List Str := ["lengths", "costs"]
def k3 : List Str := ["lengths", "costs", "rows"]
def kW : List Str := ["lengths", "costs", "rows", "regular_from", "period", "bytes"]
/-- a store to what was not tracked -/
theorem Same.wr {H H' : Hp} {D : Addr} {o : HO} (nD : H D = none) (s : Same H H') : Same H (upd H' D o) := fun b u e => by
  rw [upd_ne (fun z => by subst z; rw [nD] at e; cases e)]; exact s b u e
section
variable {P : Program} {w : World} {K : PySem.W.Frag} {mg : Str → Option Value} {base : Heap}
/-! ### shape_of -/
def spShape (K : PySem.W.Frag) : Sp := fun vs H Q _ => ∃ (x : V) (q : Addr) (xs : List Int), vs = [x, .ref q] ∧ SqT K H q (xs.map V.int) ∧ xs ≠ [] ∧ xs.length ≤ 1000 ∧ ∀ (t : Addr) (H' : Hp), Same H H' → H' t = some (.tup ((shape xs).map V.int)) → Q (.ref t) H'
theorem scShape : FnScope ["self", "row", "number"] ["self", "row"] (defScope sShape) := ⟨rfl, rfl, rfl, by decide +kernel, rfl, by decide +kernel, by decide +kernel⟩
theorem take_map {α β : Type} {xs : List α} {f : α → β} {i : Nat} {x : α} (h : xs[i]? = some x) : (xs.take (i + 1)).map f = (xs.take i).map f ++ [f x] := by
  rw [List.take_add_one, h, List.map_append]; rfl
theorem ok_shape {fa : Addr} {fd : FuncData} (F : Fun K "shape_of" "Walks.shape_of" sShape fa fd) (B : Bi mg) : FnOk P w K mg base CX0 1 fa fd ["self", "row"] (spShape K) := by
  refine F.ok scShape (fun vs H Q E h => ?_) (fun cdv A outer s H vs Q E hr h => ?_)
  · obtain ⟨x, q, xs, rfl, _⟩ := h
    rfl
  · obtain ⟨x, q, xs, rfl, hq, hne, len, k⟩ := h
    have nd := scShape.nd
    refine ⟨_, pss_one (ps_ret (pe_callTy call_tuple_of (by rfl) B.tuple (by decide +kernel) (pa_cons
      (pe_lc (own := [("number", 2)]) (g := gName 2) (tt := tYes) rfl nd (pi_tup (pv 1)) (blkOk_by (own := [("number", 2)]) (N := ["self", "row", "number"]) (sc := defScope sShape) (by decide +kernel))
        (fun _ _ _ _ _ => pg_name (i := 2) nd rfl (Or.inl rfl)) (fun _ _ _ _ _ => pts_nil)
        (fun _ _ _ _ _ => pe_op op_sub (pv 2) (pe_callB (r := GL.rMinT K) (GL.cr_minT rfl) (by rfl) B.min PyProof.Rows.boot_min (pa_cons (pv 1) pa_nil)))) pa_nil))), ?_⟩
    refine ⟨_, rfl, q, rfl, ⟨_, hq⟩, fun D nD => ?_⟩
    refine lc_tup (K := K) (a := q) (xs := xs.map V.int) (fun i H2 => Same H H2 ∧ H2 D = some (.lst (((xs.take i).map fun x => x - minL xs).map V.int))) ⟨Same.put nD, upd_same⟩ (fun i H2 _ ⟨s2, _⟩ => SqT.same s2 hq) ?_ ?_
    · rintro i y H2 hi ⟨s2, hD⟩
      obtain ⟨z, hz, rfl⟩ := int_of_map hi
      have il : i < xs.length := (List.getElem?_eq_some_iff.mp hz).1
      refine ⟨rfl, _, rfl, _, rfl, q, xs, rfl, SqT.same s2 hq, List.length_pos_iff.mpr hne, fun m hm hm2 => ⟨_, _, rfl, rfl, _, hD, ?_, ?_, ?_⟩⟩
      · rw [List.length_map, List.length_map, List.length_take]; have := line_big; omega
      · intro b o e
        by_cases hb : b = D
        · subst hb; rw [nD] at e; cases e
        · rw [upd_ne hb]; exact s2 b o e
      · rw [upd_same, take_map hz, List.map_append, ← minL_eq hm hm2]; rfl
    · rintro H2 ⟨s2, hD⟩
      rw [List.length_map, List.take_length] at hD
      exact ⟨D, _, rfl, .inl ⟨SqL.of hD, fun t nt => k t _ (s2.trans (Same.put nt)) upd_same⟩⟩

/-! ### row_behind -/
def cKey (f l : Int) : List Key := [.inl f, .inl l]
def CostsAt (H : Hp) (cd : Addr) (ls : List Int) (c : Int → Int → Int) : Prop := ∃ kvs : List (List Key × V), H cd = some (.dT kvs) ∧ ∀ f ∈ ls, ∀ l ∈ ls, valV kvs (cKey f l) = some (.int (c f l))
def spRow (K : PySem.W.Frag) (C : Addr) : Sp := fun vs H Q _ => ∃ (p dx q l cd : Addr) (fs : List (Str × V)) (ls : List Int) (g : Int → Int) (c : Int → Int → Int), vs = [.ref p, .ref q] ∧ H p = some (.ins C dx fs) ∧ fs.lookup ("lengths" : Str) = some (.ref l) ∧ fs.lookup ("costs" : Str) = some (.ref cd) ∧
  SqT K H l (ls.map V.int) ∧ CostsAt H cd ls c ∧ SqT K H q ((ls.map g).map V.int) ∧ ls ≠ [] ∧ ls.length ≤ 6 ∧
  ∀ (t : Addr) (H' : Hp), Same H H' → H' t = some (.tup ((ls.map fun l => minL (ls.map fun f => g f + c f l)).map V.int)) → Q (.ref t) H'
theorem scRow : FnScope ["self", "row", "pairs", "later", "cost", "first"] ["self", "row"] (defScope sRow) := ⟨rfl, rfl, rfl, by decide +kernel, rfl, by decide +kernel, by decide +kernel⟩
theorem ok_row {fa C : Addr} {fd : FuncData} (F : Fun K "row_behind" "Walks.row_behind" sRow fa fd) (B : Bi mg) (T : KW K C) : FnOk P w K mg base CX0 1 fa fd ["self", "row"] (spRow K C) := by
  refine F.ok scRow (fun vs H Q E h => ?_) (fun cdv A outer s H vs Q E hr h => ?_)
  · obtain ⟨p, dx, q, l, cd, fs, ls, g, c, rfl, _⟩ := h
    rfl
  · obtain ⟨p, dx, q, l, cd, fs, ls, g, c, rfl, hp, fl, fc, hl, ⟨kvs, hcd, hkv⟩, hq, hne, h6, k⟩ := h
    have nd := scRow.nd
    have hu := hu_of hr
    have lb := line_big
    refine ⟨_, pss_cons (ps_set (i := 2) nd rfl (.inr rfl) (GZ.pe_listZip rfl (by rfl) B.list (by rfl) B.zip (pa_cons (pv 1) (pa_cons (pe_fld (pv 0) rfl) pa_nil))))
      (pss_one (ps_ret (pe_callTy call_tuple_of (by rfl) B.tuple (by decide +kernel) (pa_cons
      (pe_lc (own := [("later", 3)]) (g := gName 3) (tt := tYes) rfl nd (pi_tup (pe_fld (pv 0) rfl)) (blkOk_by (own := [("later", 3)]) (N := ["self", "row", "pairs", "later", "cost", "first"]) (sc := defScope sRow) (by decide +kernel))
        (fun _ _ _ _ _ => pg_name (i := 3) nd rfl (Or.inr rfl)) (fun _ _ _ _ _ => pts_nil)
        (fun _ _ _ _ _ => pe_callB (r := rMin K) (cr_min rfl) (by rfl) B.min PyProof.Rows.boot_min (pa_cons
          (pe_lc (own := [("cost", 4), ("first", 5)]) (g := gTup K 2 (gCons (gName 4) (gCons (gName 5) gNil))) (tt := tYes) rfl nd (pi_listK K (pv 2)) (blkOk_by (own := [("cost", 4), ("first", 5)]) (N := ["self", "row", "pairs", "later", "cost", "first"]) (by kernel_rfl))
            (fun _ _ _ _ _ => pg_tup rfl (pgs_cons (pg_name (i := 4) nd rfl (Or.inl rfl)) (pgs_cons (pg_name (i := 5) nd rfl (Or.inl rfl)) pgs_nil))) (fun _ _ _ _ _ => pts_nil)
            (fun _ _ _ _ _ => pe_op op_add (pv 4) (pe_dget hu (pe_fldK K (pv 0)) (pe_tup (pa_cons (pv 5) (pa_cons (pv 3) pa_nil))) (fun _ _ => rfl)))) pa_nil))) pa_nil)))), ?_⟩
    refine ⟨_, rfl, _, rfl, p, C, dx, fs, _, rfl, hp, T.cl, T.lengths, fl, q, l, _, _, rfl, hq, hl, by rw [List.length_map, List.length_map, List.length_map], fun D H2 as nD s2 hD hlen hprs => ?_⟩
    rw [List.length_map, List.length_map] at hlen
    refine ⟨_, rfl, p, C, dx, fs, _, rfl, s2 _ _ hp, T.cl, T.lengths, fl, l, rfl, ⟨_, SqT.same s2 hl⟩, fun D2 nD2 => ?_⟩
    refine lc_tup (K := K) (a := l) (xs := ls.map V.int) (fun i H3 => Same H2 H3 ∧ H3 D2 = some (.lst (((ls.take i).map fun l => minL (ls.map fun f => g f + c f l)).map V.int))) ⟨Same.put nD2, upd_same⟩ (fun i H3 _ ⟨s3, _⟩ => SqT.same s3 (SqT.same s2 hl)) ?_ ?_
    · rintro i y H3 hi ⟨s3, hD2⟩
      obtain ⟨z, hz, rfl⟩ := int_of_map hi
      have zm : z ∈ ls := List.mem_of_getElem? hz
      have s23 := s2.trans s3
      refine ⟨rfl, _, rfl, D, rfl, ⟨_, SqL.of (s3 _ _ hD)⟩, fun D3 nD3 => ?_⟩
      refine lc_list (K := K) (a := D) (xs := as.map V.ref) (fun j H4 => Same H3 H4 ∧ H4 D3 = some (.lst (((ls.take j).map fun f => g f + c f z).map V.int))) ⟨Same.put nD3, upd_same⟩ (fun j H4 _ ⟨s4, _⟩ => SqL.of (s4 _ _ (s3 _ _ hD))) ?_ ?_
      · rintro j y H4 hj ⟨s4, hD3⟩
        have jl : j < ls.length := by
          have := (List.getElem?_eq_some_iff.mp hj).1
          rw [List.length_map] at this; omega
        obtain ⟨a, ea, ey⟩ : ∃ a, as[j]? = some a ∧ y = V.ref a := by
          rw [List.getElem?_map] at hj
          cases e : as[j]? with
          | none => rw [e] at hj; cases hj
          | some a => rw [e] at hj; exact ⟨a, rfl, (Option.some.inj hj).symm⟩
        subst ey
        have ef : ls[j]? = some ls[j] := List.getElem?_eq_getElem jl
        generalize ls[j] = f at ef
        have fm : f ∈ ls := List.mem_of_getElem? ef
        have ha := hprs j a (.int (g f)) (.int f) ea (by rw [List.getElem?_map, List.getElem?_map, ef]; rfl) (by rw [List.getElem?_map, ef]; rfl)
        have s34 := s3.trans s4
        refine ⟨a, _, rfl, SqT.of (s34 _ _ ha), rfl, _, _, rfl, _, _, rfl, rfl, rfl, _, rfl, _, rfl, p, C, dx, fs, _, rfl, s34 _ _ (s2 _ _ hp), T.cl, T.costs, fc, _, rfl, _, rfl, by show 2 ≤ sizeLine; decide, fun kp nkp => ⟨cd, .int (c f z), rfl, ?_, _, _, rfl, rfl, ((ls.take j).map fun f => g f + c f z).map V.int, ?_, ?_, ?_⟩⟩
        · rw [← hkv f fm z zm]
          refine DGet.t (k := cKey f z) ?_ upd_same
          rw [upd_ne (ne_of_none (s34 _ _ (s2 _ _ hcd)) nkp)]
          exact s34 _ _ (s2 _ _ hcd)
        · rw [upd_ne (ne_of_none hD3 nkp)]; exact hD3
        · rw [List.length_map, List.length_map, List.length_take]; omega
        · refine ⟨Same.wr nD3 (s4.trans (Same.put nkp)), ?_⟩
          rw [upd_same, take_map ef, List.map_append]; rfl
      · rintro H4 ⟨s4, hD3⟩
        rw [List.length_map, hlen, List.take_length] at hD3
        refine ⟨D3, _, rfl, SqL.of hD3, by rw [List.length_map]; exact List.length_pos_iff.mpr hne, fun m hm hm2 => ⟨_, s4 _ _ hD2, ?_, ?_⟩⟩
        · rw [List.length_map, List.length_map, List.length_take]; omega
        · refine ⟨Same.wr nD2 (s3.trans s4), ?_⟩
          rw [upd_same, take_map hz, List.map_append, minL_eq hm hm2]; rfl
    · rintro H3 ⟨s3, hD2⟩
      rw [List.length_map, List.take_length] at hD2
      exact ⟨D2, _, rfl, .inl ⟨SqL.of hD2, fun t nt => k t _ ((s2.trans s3).trans (Same.put nt)) upd_same⟩⟩

/-! ### a Walks object behind its making -/
structure WkAt (K : PySem.W.Frag) (C : Addr) (H : Hp) (p : Addr) (size : Int) (ls : List Int) (r per : Nat) (b : Int) : Prop where
  ex : ∃ (dx l cd rp : Addr) (rows : List Addr), H p = some (.ins C dx (kW.zip [.ref l, .ref cd, .ref rp, .int r, .int per, .int b])) ∧ SqT K H l (ls.map V.int) ∧ H rp = some (.lst (rows.map V.ref)) ∧ rows.length = r + per + 1 ∧
    ∀ (i : Nat) (q : Addr), rows[i]? = some q → H q = some (.tup ((rowN (cost size ls) ls i).map V.int))
  reg : Reg (cost size ls) ls r per b
  rules : Rules size ls
  few : r + per ≤ 5000000
  s100 : size ≤ 100
  l6 : ls.length ≤ 6
theorem WkAt.same {C : Addr} {H H' : Hp} {p : Addr} {size : Int} {ls : List Int} {r per : Nat} {b : Int} (Wk : WkAt K C H p size ls r per b) (e : Same H H') : WkAt K C H' p size ls r per b :=
  ⟨let ⟨dx, l, cd, rp, rows, h1, h2, h3, h4, h5⟩ := Wk.ex; ⟨dx, l, cd, rp, rows, e _ _ h1, SqT.same e h2, e _ _ h3, h4, fun i q hq => e _ _ (h5 i q hq)⟩, Wk.reg, Wk.rules, Wk.few, Wk.s100, Wk.l6⟩
theorem size_pos {size : Int} {ls : List Int} (R : Rules size ls) : 1 ≤ size := by
  have h := head_mem R.ne
  have := R.lo _ h
  have := R.hi _ h
  omega
theorem bytes_small {C : Addr} {H : Hp} {p : Addr} {size : Int} {ls : List Int} {r per : Nat} {b : Int} (Wk : WkAt K C H p size ls r per b) : 0 ≤ b ∧ b ≤ 500000000 := by
  have R := Wk.rules
  have Cc := cost_cst R
  have hm := head_mem R.ne
  have e := Wk.reg.step _ hm
  have h1 := xr_most Cc R.ne (r + per) _ hm
  have h2 := xr_nonneg Cc R.ne r _ hm
  have up : ∀ k : Nat, xr (cost size ls) ls r (ls.headD 0) ≤ xr (cost size ls) ls (r + k) (ls.headD 0) := by
    intro k
    induction k with
    | zero => exact Int.le_refl _
    | succ k ih => have := xr_up Cc R.ne (r + k) _ hm; rw [← Nat.add_assoc]; omega
  have h3 := up per
  have h4 : ((r + per : Nat) : Int) * size ≤ 5000000 * 100 := by
    have a1 : ((r + per : Nat) : Int) ≤ 5000000 := by have := Wk.few; omega
    have := Wk.s100
    have := size_pos R
    exact Int.mul_le_mul a1 Wk.s100 (by omega) (by omega)
  omega
theorem end_math {C : Addr} {H : Hp} {p : Addr} {size : Int} {ls : List Int} {r per : Nat} {b : Int} (Wk : WkAt K C H p size ls r per b) (n : Nat) :
    n - (n - r) / per * per < r + per + 1 ∧ (n - r) / per * per ≤ n ∧ le (cost size ls) ls n = le (cost size ls) ls (n - (n - r) / per * per) + ((n - r) / per : Nat) * b := by
  have hp := Wk.reg.pos
  have dm := Nat.div_add_mod (n - r) per
  have ml := Nat.mod_lt (n - r) (show per > 0 by omega)
  rw [Nat.mul_comm] at dm
  generalize (n - r) / per = j at *
  have h1 : j * per ≤ n - r := by omega
  refine ⟨by omega, by omega, ?_⟩
  cases j with
  | zero => simp
  | succ j =>
    have hr : r ≤ n - (j + 1) * per := by
      have : 1 * per ≤ (j + 1) * per := Nat.mul_le_mul_right per (by omega)
      omega
    have := le_times Wk.rules.ne Wk.reg.step (j + 1) (n - (j + 1) * per) hr
    rw [show n - (j + 1) * per + (j + 1) * per = n from by omega] at this
    exact this
/-- zip of two tuples of one length, as a walk -/
theorem walkZT {K : PySem.W.Frag} {a b : Addr} {xs ys : List V} {n : Nat} (hx : xs.length = n) (hy : ys.length = n) : Walk (RZ.ItzT K a b) n (fun H => SqT K H a xs ∧ SqT K H b ys) (YPair (fun i => xs[i]?) (fun i => ys[i]?)) where
  goes := fun i H h g => ⟨xs, ys, xs[i], ys[i], g.1, g.2, List.getElem?_eq_getElem (by omega), List.getElem?_eq_getElem (by omega)⟩
  stops := fun H g => ⟨xs, ys, g.1, g.2, .inl (by omega)⟩
  yields := fun i H x H' h g y => let ⟨T, u, v, e1, e2, e3, e4, e5⟩ := y; ⟨T, u, v, e1, e2, e3, e4 xs g.1, e5 ys g.2⟩
def spEnd (K : PySem.W.Frag) (C : Addr) : Sp := fun vs H Q _ => ∃ (p : Addr) (n : Nat) (size : Int) (ls : List Int) (r per : Nat) (b : Int), vs = [.ref p, .int n] ∧ WkAt K C H p size ls r per b ∧ ∀ H', Same H H' → Q (.int (le (cost size ls) ls n)) H'
theorem scEnd : FnScope ["self", "files", "rounds", "row", "cost", "line"] ["self", "files"] (defScope sEnd) := ⟨rfl, rfl, rfl, by decide +kernel, rfl, by decide +kernel, by decide +kernel⟩
theorem ok_end {fa C : Addr} {fd : FuncData} (F : Fun K "least_end" "Walks.least_end" sEnd fa fd) (B : Bi mg) (T : KW K C) : FnOk P w K mg base CX0 1 fa fd ["self", "files"] (spEnd K C) := by
  refine F.ok scEnd (fun vs H Q E h => ?_) (fun cdv A outer s H vs Q E hr h => ?_)
  · obtain ⟨p, n, size, ls, r, per, b, rfl, _⟩ := h
    rfl
  · obtain ⟨p, n, size, ls, r, per, b, rfl, Wk, k⟩ := h
    have nd := scEnd.nd
    have lb := line_big
    obtain ⟨b0, b1⟩ := bytes_small Wk
    obtain ⟨m1, m2, m3⟩ := end_math Wk n
    have pp := Wk.reg.pos
    have few := Wk.few
    obtain ⟨dx, l, cd, rp, rows, hp, hl, hrp, hrl, hrows⟩ := id Wk.ex
    refine ⟨_, pss_cons (ps_set (i := 2) nd rfl (.inl rfl) (pe_op op_fdiv (pe_callB (call_max2 rfl) (by rfl) B.max PyProof.Rows.boot_max (pa_cons pe_int (pa_cons (pe_op op_sub (pv 1) (pe_fld (pv 0) rfl)) pa_nil))) (pe_fld (pv 0) rfl)))
      (pss_cons (ps_set (i := 3) nd rfl (.inl rfl) (pe_ix ix_list (pe_fld (pv 0) rfl) (pe_op op_sub (pv 1) (pe_op op_mul (pv 2) (pe_fld (pv 0) rfl))) (fun _ _ => rfl)))
      (pss_one (ps_ret (pe_op op_add (pe_callB (cr_min rfl) (by rfl) B.min PyProof.Rows.boot_min (pa_cons
        (pe_lc (own := [("cost", 4), ("line", 5)]) (g := gTup K 2 (gCons (gName 4) (gCons (gName 5) gNil))) (tt := tYes) rfl nd (RZ.pi_zipA (by rfl) B.zip (pa_cons (pv 3) (pa_cons (pe_fld (pv 0) rfl) pa_nil)))
          (blkOk_by (own := [("cost", 4), ("line", 5)]) (N := ["self", "files", "rounds", "row", "cost", "line"]) (sc := defScope sEnd) (by decide +kernel))
          (fun _ _ _ _ _ => pg_tup rfl (pgs_cons (pg_name (i := 4) nd rfl (Or.inl rfl)) (pgs_cons (pg_name (i := 5) nd rfl (Or.inl rfl)) pgs_nil))) (fun _ _ _ _ _ => pts_nil)
          (fun _ _ _ _ _ => pe_op op_add (pv 4) (pv 5))) pa_nil)) (pe_op op_mul (pv 2) (pe_fld (pv 0) rfl)))))), ?_⟩
    -- rounds
    have fF : (kW.zip [V.ref l, .ref cd, .ref rp, .int r, .int per, .int b]).lookup ("regular_from" : Str) = some (.int r) := look_at (i := 3) (by decide +kernel) rfl
    have fP : (kW.zip [V.ref l, .ref cd, .ref rp, .int r, .int per, .int b]).lookup ("period" : Str) = some (.int per) := look_at (i := 4) (by decide +kernel) rfl
    have fR : (kW.zip [V.ref l, .ref cd, .ref rp, .int r, .int per, .int b]).lookup ("rows" : Str) = some (.ref rp) := look_at (i := 2) (by decide +kernel) rfl
    have fL : (kW.zip [V.ref l, .ref cd, .ref rp, .int r, .int per, .int b]).lookup ("lengths" : Str) = some (.ref l) := look_at (i := 0) (by decide +kernel) rfl
    have fB : (kW.zip [V.ref l, .ref cd, .ref rp, .int r, .int per, .int b]).lookup ("bytes" : Str) = some (.int b) := look_at (i := 5) (by decide +kernel) rfl
    have er : (if (n : Int) - r > 0 then (n : Int) - r else 0) / (per : Int) = (((n - r) / per : Nat) : Int) := by
      have : (if (n : Int) - r > 0 then (n : Int) - r else 0) = ((n - r : Nat) : Int) := by split <;> omega
      rw [this]; exact (Int.natCast_ediv _ _).symm
    refine ⟨_, rfl, _, rfl, p, C, dx, _, _, rfl, hp, T.cl, T.from_, fF, _, _, rfl, rfl, _, _, rfl, _, rfl, p, C, dx, _, _, rfl, hp, T.cl, T.period, fP, _, _, rfl, rfl, ⟨by omega, by omega⟩, ?_⟩
    -- row
    have em : (n : Int) - (((n - r) / per : Nat) : Int) * per = ((n - (n - r) / per * per : Nat) : Int) := by
      rw [← Int.natCast_mul]; omega
    generalize ej : (n - r) / per = j at *
    have rl : n - j * per < rows.length := by omega
    refine ⟨_, rfl, p, C, dx, _, _, rfl, hp, T.cl, T.rows, fR, _, rfl, _, rfl, _, rfl, p, C, dx, _, _, rfl, hp, T.cl, T.period, fP, _, _, rfl, rfl, .inr ⟨by omega, by omega⟩, _, _, rfl, rfl, rp, _, _, .ref (rows[n - j * per]), rfl, rfl, SqL.of hrp, at_of (j := n - j * per) ?_ (by rw [List.getElem?_map, List.getElem?_eq_getElem rl]; rfl), ?_⟩
    · rw [← em, ← er]
    have hq := hrows _ _ (List.getElem?_eq_getElem rl)
    generalize rows[n - j * per] = q at hq
    refine ⟨_, rfl, _, rfl, p, C, dx, _, _, rfl, hp, T.cl, T.lengths, fL, q, l, _, _, rfl, .inr ⟨SqT.of hq, hl, fun D nD => ?_⟩⟩
    refine lc_it (walkZT (K := K) (a := q) (b := l) (xs := (rowN (cost size ls) ls (n - j * per)).map V.int) (ys := ls.map V.int) (n := ls.length) (by rw [List.length_map, rowN_length]) (by rw [List.length_map]))
      (fun i H2 => Same H H2 ∧ H2 D = some (.lst (((ls.take i).map fun f => xr (cost size ls) ls (n - j * per) f + f).map V.int))) ⟨Same.put nD, upd_same⟩ (fun i H2 _ ⟨s2, _⟩ => ⟨SqT.of (s2 _ _ hq), SqT.same s2 hl⟩) ?_ ?_
    · rintro i y H2 H2' hi ⟨s2, hD⟩ ⟨t, u, v, rfl, nt, rfl, eu, ev⟩
      have ef : ls[i]? = some ls[i] := List.getElem?_eq_getElem hi
      generalize ls[i] = f at ef
      have ev' : v = .int f := by
        dsimp only at ev
        rw [List.getElem?_map, ef] at ev; exact (Option.some.inj ev).symm
      have eu' : u = .int (xr (cost size ls) ls (n - j * per) f) := by
        unfold rowN at eu
        dsimp only at eu
        rw [List.getElem?_map, List.getElem?_map, ef] at eu; exact (Option.some.inj eu).symm
      subst eu' ev'
      refine ⟨t, _, rfl, SqT.of upd_same, rfl, _, _, rfl, _, _, rfl, rfl, rfl, _, rfl, _, rfl, _, _, rfl, rfl, ((ls.take i).map fun f => xr (cost size ls) ls (n - j * per) f + f).map V.int, ?_, ?_, ?_, ?_⟩
      · rw [upd_ne (ne_of_none hD nt)]; exact hD
      · rw [List.length_map, List.length_map, List.length_take]; have := Wk.l6; omega
      · exact Same.wr nD (s2.trans (Same.put nt))
      · rw [upd_same, take_map ef, List.map_append]; rfl
    · rintro H2 ⟨s2, hD⟩
      rw [List.take_length] at hD
      refine ⟨D, _, rfl, SqL.of hD, by rw [List.length_map]; exact List.length_pos_iff.mpr Wk.rules.ne, fun m hm hm2 => ⟨_, rfl, _, rfl, p, C, dx, _, _, rfl, s2 _ _ hp, T.cl, T.bytes, fB, _, _, rfl, rfl, .inr ⟨by omega, by omega⟩, _, _, rfl, rfl, ?_⟩⟩
      have e1 : m + (if (n : Int) - r > 0 then (n : Int) - r else 0) / (per : Int) * b = le (cost size ls) ls n := by
        rw [er, m3, minL_eq hm hm2]; rfl
      have := k H2 s2
      rw [← e1] at this
      exact this

/-! ### least_bytes, the method -/
def spBytes (K : PySem.W.Frag) (C : Addr) : Sp := fun vs H Q _ => ∃ (p : Addr) (n : Nat) (size : Int) (ls : List Int) (r per : Nat) (b : Int), vs = [.ref p, .int n] ∧ WkAt K C H p size ls r per b ∧ ∀ H', Same H H' → Q (.int (lf (cost size ls) ls false n)) H'
theorem scBytes : FnScope ["self", "rotations", "shortest"] ["self", "rotations"] (defScope sBytes) := ⟨rfl, rfl, rfl, by decide +kernel, rfl, by decide +kernel, by decide +kernel⟩
/-- how a method's body meets another one -/
structure Mt (K : PySem.W.Frag) (C : Addr) (m : Str) (f : Addr) (fd : FuncData) (ps : List Str) : Prop where
  mt : Meth K C m f
  b : Binds K fd ps []
theorem ok_bytes {fa C fE : Addr} {fd fdE : FuncData} (F : Fun K "least_bytes" "Walks.least_bytes" sBytes fa fd) (B : Bi mg) (T : KW K C) (GE : FnOk P w K mg base CX0 1 fE fdE ["self", "files"] (spEnd K C)) (mE : Mt K C "least_end" fE fdE ["self", "files"]) :
    FnOk P w K mg base CX0 2 fa fd ["self", "rotations"] (spBytes K C) := by
  refine F.ok scBytes (fun vs H Q E h => ?_) (fun cdv A outer s H vs Q E hr h => ?_)
  · obtain ⟨p, n, size, ls, r, per, b, rfl, _⟩ := h
    rfl
  · obtain ⟨p, n, size, ls, r, per, b, rfl, Wk, k⟩ := h
    have nd := scBytes.nd
    obtain ⟨dx, l, cd, rp, rows, hp, hl, hrp, hrl, hrows⟩ := id Wk.ex
    have fL : (kW.zip [V.ref l, .ref cd, .ref rp, .int r, .int per, .int b]).lookup ("lengths" : Str) = some (.ref l) := look_at (i := 0) (by decide +kernel) rfl
    have hm : ls[0]? = some (ls.headD 0) := by
      have := Wk.rules.ne
      cases ls with
      | nil => exact absurd rfl this
      | cons a r => rfl
    refine ⟨_, pss_cons (ps_set (i := 2) nd rfl (.inl rfl) (pe_ix ix_tup (pe_fld (pv 0) rfl) pe_int (fun _ _ => rfl)))
      (pss_one (ps_ret (pe_ifExp (pt_cmpR op_eq (pv 1) pe_int (nomark _)) (pv 2) (pe_op op_add (pv 2) (pe_meth (pv 0) T.cl mE.mt GE hr mE.b .nil pass0 (pa_cons (pe_op op_sub (pv 1) pe_int) pa_nil)))))), ?_⟩
    refine ⟨_, rfl, p, C, dx, _, _, rfl, hp, T.cl, T.lengths, fL, l, _, _, .int (ls.headD 0), rfl, rfl, hl, at_of (j := 0) rfl (by rw [List.getElem?_map, hm]; rfl), ?_⟩
    refine ⟨_, rfl, rfl, _, rfl, ?_⟩
    refine ite2 (fun e => ?_) (fun e => ?_)
    · have e0 : n = 0 := by
        have := of_decide_eq_true e
        injection this with this
        omega
      subst e0
      exact ⟨_, rfl, k H (Same.refl H)⟩
    · have e0 : n ≠ 0 := fun z => by subst z; exact e (decide_eq_true rfl)
      have e1 : (n : Int) - 1 = ((n - 1 : Nat) : Int) := by omega
      refine ⟨_, rfl, _, rfl, p, dx, _, rfl, hp, look_no (by decide +kernel), _, rfl, _, _, rfl, rfl, p, n - 1, size, ls, r, per, b, ?_, Wk, fun H' s' => ⟨_, _, rfl, rfl, ?_⟩⟩
      · show [V.ref p, V.int ((n : Int) - 1)] = _
        rw [e1]
      · have := k H' s'
        unfold lf at this
        rw [if_neg (by decide), if_neg e0] at this
        exact this
end
end W
namespace W
open PySem L2 G24
def k4 : List Str := ["lengths", "costs", "rows", "regular_from"]
def k5 : List Str := ["lengths", "costs", "rows", "regular_from", "period"]
/-- all that was tracked is as it was, but the object at p -/
def But (p : Addr) (H H' : Hp) : Prop := ∀ b o, b ≠ p → H b = some o → H' b = some o
theorem But.trans {p : Addr} {H H1 H2 : Hp} (a : But p H H1) (b : But p H1 H2) : But p H H2 := fun c o n e => b c o n (a c o n e)
theorem But.of {p : Addr} {H H1 : Hp} (a : Same H H1) : But p H H1 := fun c o _ e => a c o e
theorem But.own {p : Addr} {H H1 : Hp} {o : HO} (a : But p H H1) : But p H (upd H1 p o) := fun c u n e => by rw [upd_ne n]; exact a c u n e
theorem But.wr {p D : Addr} {H H1 : Hp} {o : HO} (nD : H D = none) (a : But p H H1) : But p H (upd H1 D o) := fun c u n e => by
  rw [upd_ne (fun z => by subst z; rw [nD] at e; cases e)]; exact a c u n e
theorem SqT.but {K : PySem.W.Frag} {p C dx a : Addr} {fs : List (Str × V)} {H H' : Hp} {xs : List V} (hp : H p = some (.ins C dx fs)) (e : But p H H') (h : SqT K H a xs) : SqT K H' a xs := by
  rcases h with (h | ⟨o, h⟩) | h
  · exact .inl (.inl (e _ _ (ne_of h hp (by intro z; cases z)) h))
  · exact .inl (.inr ⟨o, e _ _ (ne_of h hp (by intro z; cases z)) h⟩)
  · exact .inr h
theorem at_neg1 {xs : List V} {n : Nat} {v : V} (hl : xs.length = n + 1) (h : xs[n]? = some v) : atI xs (-1) = some v := by
  unfold atI ixN
  rw [if_neg (by omega), if_pos (by omega)]
  show xs[(-1 + (xs.length : Int)).toNat]? = some v
  rw [hl, show (-1 + ((n + 1 : Nat) : Int)).toNat = n from by omega]; exact h
def shKey (row : List Int) : List Key := (shape row).map Sum.inl
theorem shKey_inj {a b : List Int} (h : shKey a = shKey b) : shape a = shape b := by
  unfold shKey at h
  have : ∀ {l m : List Int}, l.map (Sum.inl : Int → Key) = m.map Sum.inl → l = m := by
    intro l
    induction l with
    | nil => intro m e; cases m with
      | nil => rfl
      | cons => simp at e
    | cons a r ih => intro m e; cases m with
      | nil => simp at e
      | cons b s =>
        rw [List.map_cons, List.map_cons] at e
        injection e with e1 e2
        injection e1 with e1
        rw [e1, ih e2]
  exact this h
theorem shKey_kV (row : List Int) : (shKey row).map kV = (shape row).map V.int := by
  unfold shKey; rw [List.map_map]; rfl
def knownN (c : Int → Int → Int) (ls : List Int) (N : Nat) : List (List Key × V) := (List.range N).map fun (i : Nat) => (shKey (rowN c ls i), V.int (i : Int))
theorem val_range {f : Nat → List Key} {k : List Key} : ∀ {l : List Nat} {v : V}, valV (l.map fun (i : Nat) => (f i, V.int (i : Int))) k = some v → ∃ i ∈ l, f i = k ∧ v = .int i
  | [], v, h => by simp [valV] at h
  | a :: l, v, h => by
    rw [List.map_cons] at h
    by_cases e : f a = k
    · rw [valV_pos (p := (f a, V.int (a : Int))) e] at h
      exact ⟨a, List.mem_cons_self, e, (Option.some.inj h).symm⟩
    · rw [valV_neg (p := (f a, V.int (a : Int))) e] at h
      obtain ⟨i, hi, r⟩ := val_range h
      exact ⟨i, List.mem_cons_of_mem _ hi, r⟩
theorem val_range_none {f : Nat → List Key} {k : List Key} : ∀ {l : List Nat}, valV (l.map fun (i : Nat) => (f i, V.int (i : Int))) k = none → ∀ i ∈ l, f i ≠ k
  | [], _, i, hi => by cases hi
  | a :: l, h, i, hi => by
    rw [List.map_cons] at h
    by_cases e : f a = k
    · rw [valV_pos (p := (f a, V.int (a : Int))) e] at h; cases h
    · rw [valV_neg (p := (f a, V.int (a : Int))) e] at h
      rcases List.mem_cons.mp hi with rfl | hi
      · exact e
      · exact val_range_none h i hi
theorem known_succ {c : Int → Int → Int} {ls : List Int} {N : Nat} (h : valV (knownN c ls N) (shKey (rowN c ls N)) = none) : putK (knownN c ls N) (shKey (rowN c ls N)) (.int N) = knownN c ls (N + 1) := by
  rw [putK_new _ h]
  unfold knownN
  rw [List.range_succ, List.map_append]; rfl
theorem fresh_succ {c : Int → Int → Int} {ls : List Int} {N : Nat} (F : Fresh c ls N) (h : valV (knownN c ls N) (shKey (rowN c ls N)) = none) : Fresh c ls (N + 1) := by
  intro i j hij hj e
  rcases Nat.lt_or_eq_of_le (Nat.lt_succ_iff.mp hj) with q | q
  · exact F i j hij q e
  · subst q
    exact val_range_none h i (List.mem_range.mpr hij) (by unfold shKey; rw [e])
section
variable {P : Program} {w : World} {K : PySem.W.Frag} {mg : Str → Option Value} {base : Heap}
def spWInit (K : PySem.W.Frag) (C : Addr) : Sp := fun vs H Q _ => ∃ (p dx a : Addr) (size : Int) (ls : List Int), vs = [.ref p, .ref a] ∧ H p = some (.ins C dx []) ∧ RulesAt K H a size ls ∧ Rules size ls ∧ size ≤ 100 ∧ ls.length ≤ 6 ∧ Few size ls ∧
  ∀ (H' : Hp) (r per : Nat) (b : Int), But p H H' → WkAt K C H' p size ls r per b → Q .non H'
theorem scWInit : FnScope ["self", "rules", "known", "shape", "first", "later", "least", "greatest"] ["self", "rules"] (defScope sWInit) := ⟨rfl, rfl, rfl, by decide +kernel, rfl, by decide +kernel, by decide +kernel⟩
theorem mem_prs {ls : List Int} {f l : Int} (hf : f ∈ ls) (hl : l ∈ ls) : ∃ j : Nat, (prs ls)[j]? = some (f, l) := by
  have : (f, l) ∈ prs ls := List.mem_flatMap.mpr ⟨f, hf, List.mem_map.mpr ⟨l, hl, rfl⟩⟩
  exact List.getElem?_of_mem this
theorem ok_winit {fa C fT fS fR : Addr} {fd fdT fdS fdR : FuncData} (F : Fun K "__init__" "Walks.__init__" sWInit fa fd) (B : Bi mg) (T : KW K C) (GT : FnOk P w K mg base CX0 2 fT fdT ["rules"] (spTurns K)) (kT : PySem.W.keepIn K (.ref fT) = true) (mT : mg "turns" = some (.ref fT)) (bT : Binds K fdT ["rules"] [])
    (GS : FnOk P w K mg base CX0 1 fS fdS ["self", "row"] (spShape K)) (mS : Mt K C "shape_of" fS fdS ["self", "row"]) (GR : FnOk P w K mg base CX0 1 fR fdR ["self", "row"] (spRow K C)) (mR : Mt K C "row_behind" fR fdR ["self", "row"]) :
    FnOk P w K mg base CX0 3 fa fd ["self", "rules"] (spWInit K C) := by
  refine F.ok scWInit (fun vs H Q E h => ?_) (fun cdv A outer s H vs Q E hr h => ?_)
  · obtain ⟨p, dx, a, size, ls, rfl, _⟩ := h
    rfl
  · obtain ⟨p, dx, a, size, ls, rfl, hp, RA, R, h100, h6, few, k⟩ := h
    have nd := scWInit.nd
    have hu := hu_of hr
    have hr1 : Room 1 _ := hr.mono (by decide)
    have lb := line_big
    refine ⟨_, pss_cons (ps_fld (pv 0) (pe_ix ix_tup (pv 1) pe_int (fun _ _ => rfl)) rfl)
      (pss_cons (ps_fld (pv 0) (GL.pe_dcT (own := [("first", 4), ("later", 5), ("least", 6), ("greatest", 7)]) (g := gTup K 4 (gCons (gName 4) (gCons (gName 5) (gCons (gName 6) (gCons (gName 7) gNil))))) (tt := tYes) (Nat.lt_of_succ_lt hu) rfl nd
          (pi_tup (pe_call GT hr rfl mT kT bT .nil pass0 (pa_cons (pv 1) pa_nil))) (blkOk_by (own := [("first", 4), ("later", 5), ("least", 6), ("greatest", 7)]) (N := ["self", "rules", "known", "shape", "first", "later", "least", "greatest"]) (sc := defScope sWInit) (by decide +kernel))
          (fun _ _ _ _ _ => pg_tup rfl (pgs_cons (pg_name (i := 4) nd rfl (Or.inl rfl)) (pgs_cons (pg_name (i := 5) nd rfl (Or.inl rfl)) (pgs_cons (pg_name (i := 6) nd rfl (Or.inl rfl)) (pgs_cons (pg_name (i := 7) nd rfl (Or.inl rfl)) pgs_nil))))) (fun _ _ _ _ _ => pts_nil)
          (fun _ _ _ _ _ => pe_tup (pa_cons (pv 4) (pa_cons (pv 5) pa_nil))) (fun _ _ _ _ _ => pv 6)) rfl)
      (pss_cons (ps_fld (pv 0) (pe_lst (pa_cons (pe_callTy call_tuple_of (by rfl) B.tuple (by decide +kernel) (pa_cons (pe_op op_rep (pe_lst (pa_cons pe_int pa_nil)) (pe_callB call_len_seq (by rfl) B.len PySem.boot_len (pa_cons (pe_fld (pv 0) rfl) pa_nil))) pa_nil)) pa_nil)) rfl)
      (pss_cons (ps_set (i := 2) nd rfl (.inl rfl) pe_dnewT)
      (pss_cons (ps_whileW PassesOwn.never (ptw_cmp (GL.op_nin hu) (pew_named (i := 3) nd rfl (.inl rfl) (pew_of (pe_meth (pv 0) T.cl mS.mt GS hr1 mS.b .nil pass0 (pa_cons (pe_ix ix_list (pe_fld (pv 0) rfl) (pe_un un_neg pe_int) (fun _ _ => rfl)) pa_nil)))) (pv 2) (by rfl))
          (pss_cons (ps_dput hu (pv 2) (pv 3) (pe_op op_sub (pe_callB call_len_seq (by rfl) B.len PySem.boot_len (pa_cons (pe_fld (pv 0) rfl) pa_nil)) pe_int) rfl)
          (pss_one (ps_expr (pe_bm PySem.F.plainAttrs_list PySem.F.slot_list_append PySem.F.type_list_append mt_append (pe_fld (pv 0) rfl)
            (pa_cons (pe_meth (pv 0) T.cl mR.mt GR hr1 mR.b .nil pass0 (pa_cons (pe_ix ix_list (pe_fld (pv 0) rfl) (pe_un un_neg pe_int) (fun _ _ => rfl)) pa_nil)) pa_nil))))) pss_nil)
      (pss_cons (ps_fld (pv 0) (pe_dget hu (pv 2) (pv 3) (fun _ _ => rfl)) rfl)
      (pss_cons (ps_fld (pv 0) (pe_op op_sub (pe_op op_sub (pe_callB call_len_seq (by rfl) B.len PySem.boot_len (pa_cons (pe_fld (pv 0) rfl) pa_nil)) pe_int) (pe_fld (pv 0) rfl)) rfl)
      (pss_one (ps_fld (pv 0) (pe_op op_sub (pe_callB (GL.cr_minT rfl) (by rfl) B.min PyProof.Rows.boot_min (pa_cons (pe_ix ix_list (pe_fld (pv 0) rfl) (pe_un un_neg pe_int) (fun _ _ => rfl)) pa_nil))
        (pe_callB (GL.cr_minT rfl) (by rfl) B.min PyProof.Rows.boot_min (pa_cons (pe_ix ix_list (pe_fld (pv 0) rfl) (pe_fld (pv 0) rfl) (fun _ _ => rfl)) pa_nil))) rfl)))))))), ?_⟩
    obtain ⟨l, ra, rl⟩ := id RA
    have Cc := cost_cst R
    have h1 := size_pos R
    -- self.lengths = rules[1]
    refine ⟨_, rfl, a, _, _, .ref l, rfl, rfl, ra, at_of (j := 1) rfl rfl, _, rfl, p, C, dx, [], rfl, hp, T.cl, T.lengths, by show 0 < 1000; decide, ?_⟩
    generalize eH1 : upd H p (HO.ins C dx (putF "lengths" (V.ref l) [])) = H1
    have b1 : But p H H1 := eH1 ▸ But.own (But.of (Same.refl H))
    have hp1 : H1 p = some (.ins C dx ((["lengths"] : List Str).zip [V.ref l])) := by rw [← eH1, upd_same]; rfl
    have ra1 := SqT.but hp b1 ra
    have rl1 := SqT.but hp b1 rl
    -- self.costs = {..}
    refine ⟨_, rfl, a, size, ls, rfl, ⟨l, ra1, rl1⟩, R, h100, h6, fun t qs H2 s2 ht QD => ⟨t, rfl, ⟨_, SqT.of ht⟩, fun D nD => ?_⟩⟩
    have ql := QD.1
    rw [prs_len] at ql
    have q36 : ls.length * ls.length ≤ 36 := Nat.mul_le_mul h6 h6
    refine GL.dcT_tup (K := K) (a := t) (xs := qs.map V.ref) (fun i H3 => Same H2 H3 ∧ ∃ kvs : List (List Key × V), H3 D = some (.dT kvs) ∧ kvs.length ≤ i ∧ ∀ (j : Nat) (pr : Int × Int), j < i → (prs ls)[j]? = some pr → valV kvs (cKey pr.1 pr.2) = some (.int (cost size ls pr.1 pr.2)))
      ⟨Same.put nD, [], upd_same, Nat.le_refl _, fun j pr h => absurd h (Nat.not_lt_zero j)⟩ (fun i H3 _ ⟨s3, _⟩ => SqT.of (s3 _ _ ht)) ?_ ?_
    · rintro i y H3 hi ⟨s3, kvs, hD, hkl, hkv⟩
      have il : i < (prs ls).length := by
        have := (List.getElem?_eq_some_iff.mp hi).1
        rw [List.length_map, QD.1] at this; exact this
      obtain ⟨q, eq, ey⟩ : ∃ q, qs[i]? = some q ∧ y = V.ref q := by
        rw [List.getElem?_map] at hi
        cases e : qs[i]? with
        | none => rw [e] at hi; cases hi
        | some q => rw [e] at hi; exact ⟨q, rfl, (Option.some.inj hi).symm⟩
      subst ey
      have ep := List.getElem?_eq_getElem il
      generalize (prs ls)[i] = pr at ep
      obtain ⟨g, hg⟩ := QD.2 i q pr eq ep
      refine ⟨q, _, rfl, SqT.of (s3 _ _ hg), rfl, _, _, rfl, _, _, rfl, _, _, rfl, _, _, rfl, rfl, rfl, _, rfl, _, rfl, by show 2 ≤ sizeLine; decide, fun kp nkp => ⟨_, rfl, kvs, cKey pr.1 pr.2, kp, rfl, upd_same, ?_, ?_, ?_⟩⟩
      · rw [upd_ne (ne_of_none hD nkp)]; exact hD
      · rw [prs_len] at il; omega
      · refine ⟨Same.wr nD (s3.trans (Same.put nkp)), _, upd_same, Nat.le_trans (length_putK _ _ _) (by omega), fun j pr' hj ej => ?_⟩
        rw [valV_put]
        split
        · rename_i e
          unfold cKey at e
          injection e with e1 e2
          injection e2 with e2 _
          injection e1 with e1
          injection e2 with e2
          rw [e1, e2]
        · rename_i e
          rcases Nat.lt_or_eq_of_le (Nat.lt_succ_iff.mp hj) with q | q
          · exact hkv j pr' q ej
          · subst q
            rw [ep] at ej
            cases ej
            exact absurd rfl e
    rintro H3 ⟨s3, kvs, hD, _, hkv⟩
    rw [List.length_map, ← QD.1.symm] at hkv
    have s13 := s2.trans s3
    have hp3 := s13 _ _ hp1
    have nDp : D ≠ p := (ne_of hp3 hD (by intro z; cases z)).symm
    refine ⟨_, rfl, p, C, dx, _, rfl, hp3, T.cl, T.costs, by show 1 < 1000; decide, ?_⟩
    rw [putF_new (ks := ["lengths"]) (vs := [V.ref l]) (by decide +kernel) rfl]
    show tSeq _ _ _ _ (upd H3 p (HO.ins C dx (k2.zip [V.ref l, V.ref D])))
    generalize eH4 : upd H3 p (HO.ins C dx (k2.zip [V.ref l, V.ref D])) = H4
    have b4 : But p H H4 := eH4 ▸ But.own (b1.trans (But.of s13))
    have hp4 : H4 p = some (.ins C dx (k2.zip [V.ref l, V.ref D])) := by rw [← eH4, upd_same]
    have hD4 : H4 D = some (.dT kvs) := by rw [← eH4, upd_ne nDp]; exact hD
    have rl4 := SqT.but hp b4 rl
    -- self.rows = [tuple([0] * len(self.lengths))]
    refine ⟨by show 1 ≤ sizeLine; decide, fun z0 nz0 => ⟨_, rfl, p, C, dx, _, _, rfl, Same.put nz0 _ _ hp4, T.cl, T.lengths, look_at (i := 0) (by decide +kernel) rfl, l, ls.map V.int, rfl, .inr (SqT.same (Same.put nz0) rl4), z0, _, [.int 0], rfl, rfl, upd_same, by omega, by rw [List.length_map]; omega, by rw [List.length_map]; show 1 * _ ≤ _; omega, fun z1 nz1 => ⟨z1, _, rfl, .inl ⟨SqL.of upd_same, fun q0 nq0 => ⟨by show 1 ≤ sizeLine; decide, fun rp nrp => ?_⟩⟩⟩⟩⟩
    have e0 : (List.replicate ((ls.map V.int).length : Int).toNat [V.int 0]).flatten = (rowN (cost size ls) ls 0).map V.int := by
      have e1 : ∀ n : Nat, (List.replicate n [V.int 0]).flatten = List.replicate n (V.int 0) := fun n => by
        induction n with
        | zero => rfl
        | succ n ih => rw [List.replicate_succ, List.replicate_succ, List.flatten_cons, ih]; rfl
      rw [e1]
      have e2 : ∀ m : List Int, List.replicate m.length (V.int 0) = (m.map fun _ => (0 : Int)).map V.int := fun m => by
        induction m with
        | nil => rfl
        | cons a r ih => rw [List.length_cons, List.replicate_succ, ih]; rfl
      rw [List.length_map, Int.toNat_natCast, e2]; rfl
    rw [e0] at nq0 nrp ⊢
    generalize eHr : upd (upd (upd (upd H4 z0 (HO.lst [V.int 0])) z1 (HO.lst ((rowN (cost size ls) ls 0).map V.int))) q0 (HO.tup ((rowN (cost size ls) ls 0).map V.int))) rp (HO.lst [V.ref q0]) = Hr
    have s4r : Same H4 Hr := by
      rw [← eHr]; exact (((Same.put nz0).trans (Same.put nz1)).trans (Same.put nq0)).trans (Same.put nrp)
    have hrp : Hr rp = some (.lst [.ref q0]) := by rw [← eHr, upd_same]
    have hq0 : Hr q0 = some (.tup ((rowN (cost size ls) ls 0).map V.int)) := by
      rw [← eHr, upd_ne (ne_of_none upd_same nrp), upd_same]
    have hpr := s4r _ _ hp4
    have npr : rp ≠ p := (ne_of hpr hrp (by intro z; cases z)).symm
    have npq : q0 ≠ p := (ne_of hpr hq0 (by intro z; cases z)).symm
    refine ⟨_, rfl, p, C, dx, _, rfl, hpr, T.cl, T.rows, by show 2 < 1000; decide, ?_⟩
    rw [putF_new (ks := k2) (vs := [V.ref l, V.ref D]) (by decide +kernel) rfl]
    show tSeq _ _ _ _ (upd Hr p (HO.ins C dx (k3.zip [V.ref l, V.ref D, V.ref rp])))
    generalize eH5 : upd Hr p (HO.ins C dx (k3.zip [V.ref l, V.ref D, V.ref rp])) = H5
    have b5 : But p H H5 := eH5 ▸ But.own (b4.trans (But.of s4r))
    have hp5 : H5 p = some (.ins C dx (k3.zip [V.ref l, V.ref D, V.ref rp])) := by rw [← eH5, upd_same]
    have hD5 : H5 D = some (.dT kvs) := by rw [← eH5, upd_ne nDp]; exact s4r _ _ hD4
    have hrp5 : H5 rp = some (.lst [.ref q0]) := by rw [← eH5, upd_ne npr]; exact hrp
    have hq5 : H5 q0 = some (.tup ((rowN (cost size ls) ls 0).map V.int)) := by rw [← eH5, upd_ne npq]; exact hq0
    have nrpH : ∀ b o, b ≠ p → H b = some o → b ≠ rp := fun b o n e => by
      have e4 := b4 b o n e
      have f4 : H4 rp = none := (((Same.put nz0).trans (Same.put nz1)).trans (Same.put nq0)).free nrp
      exact ne_of_none e4 f4
    clear eHr eH5 e0
    -- known = {}
    intro kd nkd
    have cA : ∀ H' : Hp, H' D = some (.dT kvs) → CostsAt H' D ls (cost size ls) := fun H' e => ⟨kvs, e, fun f hf l hl => by
      obtain ⟨j, hj⟩ := mem_prs hf hl
      exact hkv j (f, l) (List.getElem?_eq_some_iff.mp hj).1 hj⟩
    -- while (shape := self.shape_of(self.rows[-1])) not in known
    refine ⟨fun m σ H6 => ∃ (N : Nat) (v3 : Option V) (rows : List Addr), m + N = 5000001 ∧ σ = [some (.ref p), some (.ref a), some (.ref kd), v3, none, none, none, none] ∧ But p H H6 ∧ H6 p = some (.ins C dx (k3.zip [V.ref l, V.ref D, V.ref rp])) ∧ H6 D = some (.dT kvs) ∧ H6 rp = some (.lst (rows.map V.ref)) ∧
        rows.length = N + 1 ∧ (∀ (i : Nat) (q : Addr), rows[i]? = some q → H6 q = some (.tup ((rowN (cost size ls) ls i).map V.int))) ∧ H6 kd = some (.dT (knownN (cost size ls) ls N)) ∧ Fresh (cost size ls) ls N,
      ⟨5000001, 0, none, [q0], rfl, rfl, b5.trans (But.of (Same.put nkd)), by rw [upd_ne (ne_of_none hp5 nkd)]; exact hp5, by rw [upd_ne (ne_of_none hD5 nkd)]; exact hD5, by rw [upd_ne (ne_of_none hrp5 nkd)]; exact hrp5, rfl, ?_, upd_same, fun i j _ h => absurd h (Nat.not_lt_zero j)⟩, ?_⟩
    · intro i q hq
      cases i with
      | zero =>
        cases hq
        rw [upd_ne (ne_of_none hq5 nkd)]; exact hq5
      | succ i => simp at hq
    rintro m σ H6 ⟨N, v3, rows, hm, rfl, b6, hp6, hD6, hrp6, hrl, hrows, hkd, Fr⟩
    have ltN : N < rows.length := by omega
    have eN := List.getElem?_eq_getElem ltN
    generalize rows[N] = qN at eN
    have hqN := hrows N qN eN
    have few5 := fresh_le R Cc h1 Fr
    have few5' : N ≤ 5000000 := Nat.le_trans few5 few
    have rl6 := SqT.but hp b6 rl
    have fR3 : (k3.zip [V.ref l, V.ref D, V.ref rp]).lookup ("rows" : Str) = some (.ref rp) := look_at (i := 2) (by decide +kernel) rfl
    have lastq : atI (rows.map V.ref) (-1) = some (.ref qN) := at_neg1 (by rw [List.length_map]; exact hrl) (by rw [List.getElem?_map, eN]; rfl)
    have rne : rowN (cost size ls) ls N ≠ [] := fun e => by
      have := rowN_length (cost size ls) ls N
      rw [e] at this
      exact R.ne (List.eq_nil_of_length_eq_zero this.symm)
    refine ⟨_, rfl, p, dx, _, rfl, hp6, look_no (by decide +kernel), _, rfl, p, C, dx, _, _, rfl, hp6, T.cl, T.rows, fR3, _, rfl, rp, _, _, .ref qN, rfl, rfl, SqL.of hrp6, lastq, .ref p, qN, _, rfl, SqT.of hqN, rne, by rw [rowN_length]; omega, fun t H7 s7 ht => ?_⟩
    have ht' : H7 t = some (.tup ((shKey (rowN (cost size ls) ls N)).map kV)) := by rw [shKey_kV]; exact ht
    refine ⟨_, rfl, kd, _, rfl, DGet.t (k := shKey (rowN (cost size ls) ls N)) (s7 _ _ hkd) ht', _, rfl, ?_⟩
    have b7 := b6.trans (But.of s7)
    have hp7 := s7 _ _ hp6
    have hrp7 := s7 _ _ hrp6
    have hkd7 := s7 _ _ hkd
    have kdp : kd ≠ p := (ne_of hp7 hkd7 (by intro z; cases z)).symm
    have kdr : kd ≠ rp := (ne_of hrp7 hkd7 (by intro z; cases z)).symm
    have rpp : rp ≠ p := (ne_of hp7 hrp7 (by intro z; cases z)).symm
    cases ev : valV (knownN (cost size ls) ls N) (shKey (rowN (cost size ls) ls N)) with
    | none =>
      have Fr' := fresh_succ Fr ev
      have few6 : N + 1 ≤ 5000000 := Nat.le_trans (fresh_le R Cc h1 Fr') few
      refine iteT ⟨fun σ' H' => ∃ (v3 : Option V) (rows : List Addr), σ' = [some (.ref p), some (.ref a), some (.ref kd), v3, none, none, none, none] ∧ But p H H' ∧ H' p = some (.ins C dx (k3.zip [V.ref l, V.ref D, V.ref rp])) ∧ H' D = some (.dT kvs) ∧ H' rp = some (.lst (rows.map V.ref)) ∧
        rows.length = N + 1 + 1 ∧ (∀ (i : Nat) (q : Addr), rows[i]? = some q → H' q = some (.tup ((rowN (cost size ls) ls i).map V.int))) ∧ H' kd = some (.dT (knownN (cost size ls) ls (N + 1))), ?_, ?_⟩
      · rintro σ' H' ⟨v3', rows', rfl, c1, c2, c3, c4, c5, c6, c7⟩
        exact ⟨m - 1, by omega, N + 1, v3', rows', by omega, rfl, c1, c2, c3, c4, c5, c6, c7, Fr'⟩
      -- known[shape] = len(self.rows) - 1
      refine ⟨_, rfl, p, C, dx, _, _, rfl, hp7, T.cl, T.rows, fR3, rp, _, rfl, .inl (SqL.of hrp7), _, _, rfl, rfl, _, rfl, _, rfl, kd, _, rfl, DPut.t (k := shKey (rowN (cost size ls) ls N)) hkd7 ht' (by unfold knownN; rw [List.length_map, List.length_range]; omega), ?_⟩
      have en : (((rows.map V.ref).length : Nat) : Int) - 1 = (N : Int) := by rw [List.length_map, hrl]; omega
      have ek : putK (knownN (cost size ls) ls N) (shKey (rowN (cost size ls) ls N)) (V.int (((rows.map V.ref).length : Nat) - 1)) = knownN (cost size ls) ls (N + 1) := by
        rw [en]; exact known_succ ev
      have nk : ∀ b o, H7 b = some o → (∀ z, o ≠ .dT z) → upd H7 kd (.dT (putK (knownN (cost size ls) ls N) (shKey (rowN (cost size ls) ls N)) (V.int (((rows.map V.ref).length : Nat) - 1)))) b = some o := fun b o e hn => by
        rw [upd_ne (ne_of e hkd7 (hn _))]; exact e
      generalize eH8 : upd H7 kd (HO.dT (putK (knownN (cost size ls) ls N) (shKey (rowN (cost size ls) ls N)) (V.int (((rows.map V.ref).length : Nat) - 1)))) = H8 at nk
      have hp8 := nk _ _ hp7 (by intro z e; cases e)
      have hrp8 := nk _ _ hrp7 (by intro z e; cases e)
      have hqN8 := nk _ _ (s7 _ _ hqN) (by intro z e; cases e)
      have hkd8 : H8 kd = some (.dT (knownN (cost size ls) ls (N + 1))) := by rw [← eH8, upd_same, ek]
      have hD8 : H8 D = some (.dT kvs) := by
        have hDk : D ≠ kd := fun e => by
          have z := b5
          subst e
          exact absurd hD5 (by rw [nkd]; intro e; cases e)
        rw [← eH8, upd_ne hDk]; exact s7 _ _ hD6
      have b8' : But p H H8 := fun b o n e => by
        have hbk : b ≠ kd := fun z => by
          subst z
          have := b5 b o n e
          rw [nkd] at this; cases this
        rw [← eH8, upd_ne hbk]; exact b7 b o n e
      have rl8 := SqT.but hp b8' rl
      -- self.rows.append(self.row_behind(self.rows[-1]))
      refine ⟨_, rfl, p, C, dx, _, _, rfl, hp8, T.cl, T.rows, fR3, .inl ⟨rfl, _, SqL.of hrp8⟩, _, rfl, p, dx, _, rfl, hp8, look_no (by decide +kernel), _, rfl, p, C, dx, _, _, rfl, hp8, T.cl, T.rows, fR3, _, rfl, rp, _, _, .ref qN, rfl, rfl, SqL.of hrp8, lastq,
        p, dx, qN, l, D, _, ls, xr (cost size ls) ls N, cost size ls, rfl, hp8, look_at (i := 0) (by decide +kernel) rfl, look_at (i := 1) (by decide +kernel) rfl, rl8, cA _ hD8, SqT.of hqN8, R.ne, h6, fun t2 H9 s9 ht2 => ?_⟩
      have hrp9 := s9 _ _ hrp8
      have t2r : t2 ≠ rp := (ne_of hrp9 ht2 (by intro z; cases z)).symm
      refine ⟨rp, _, .ref t2, rfl, rfl, hrp9, by rw [List.length_map]; omega, ?_⟩
      refine ⟨some (.ref t), rows ++ [t2], rfl, fun b o n e => ?_, ?_, ?_, by rw [upd_same, List.map_append]; rfl, by rw [List.length_append, hrl]; rfl, fun i q hq => ?_, ?_⟩
      · have hbr : b ≠ rp := nrpH b o n e
        rw [upd_ne hbr]; exact s9 _ _ (b8' b o n e)
      · rw [upd_ne rpp.symm]; exact s9 _ _ hp8
      · rw [upd_ne (ne_of (s9 _ _ hD8) hrp9 (by intro z; cases z))]; exact s9 _ _ hD8
      · rcases Nat.lt_trichotomy i rows.length with q1 | q1 | q1
        · rw [List.getElem?_append_left q1] at hq
          have e1 := s9 _ _ (nk _ _ (s7 _ _ (hrows i q hq)) (by intro z e; cases e))
          rw [upd_ne (ne_of e1 hrp9 (by intro z; cases z))]; exact e1
        · subst q1
          rw [List.getElem?_append_right (Nat.le_refl _)] at hq
          simp at hq
          subst hq
          rw [upd_ne t2r, ht2, hrl]; rfl
        · rw [List.getElem?_eq_none (by rw [List.length_append]; simp; omega)] at hq
          cases hq
      · rw [upd_ne (ne_of (s9 _ _ hkd8) hrp9 (by intro z; cases z))]; exact s9 _ _ hkd8
    | some v =>
      obtain ⟨r, hr0, hkey, rfl⟩ := val_range ev
      have hrN : r < N := List.mem_range.mp hr0
      have hsh := shKey_inj hkey
      refine iteF ?_
      have gev : DGet H7 kd (.ref t) (some (.int (r : Int))) := by rw [← ev]; exact DGet.t (k := shKey (rowN (cost size ls) ls N)) hkd7 ht'
      refine ⟨_, rfl, _, rfl, kd, _, rfl, gev, _, rfl, p, C, dx, _, rfl, hp7, T.cl, T.from_, by show 3 < 1000; decide, ?_⟩
      rw [putF_new (ks := k3) (vs := [V.ref l, V.ref D, V.ref rp]) (by decide +kernel) rfl]
      show tSeq _ _ _ _ (upd H7 p (HO.ins C dx (k4.zip [V.ref l, V.ref D, V.ref rp, V.int r])))
      have hrp8 : upd H7 p (HO.ins C dx (k4.zip [V.ref l, V.ref D, V.ref rp, V.int r])) rp = some (.lst (rows.map V.ref)) := by rw [upd_ne rpp]; exact hrp7
      generalize eH8 : upd H7 p (HO.ins C dx (k4.zip [V.ref l, V.ref D, V.ref rp, V.int r])) = H8 at hrp8
      have hp8 : H8 p = some (.ins C dx (k4.zip [V.ref l, V.ref D, V.ref rp, V.int r])) := by rw [← eH8, upd_same]
      have b8 : But p H H8 := eH8 ▸ But.own b7
      have rows8 : ∀ (i : Nat) (q : Addr), rows[i]? = some q → H8 q = some (.tup ((rowN (cost size ls) ls i).map V.int)) := fun i q hq => by
        have e7 := s7 _ _ (hrows i q hq)
        rw [← eH8, upd_ne (ne_of e7 hp7 (by intro z; cases z))]; exact e7
      clear eH8
      refine ⟨_, rfl, p, C, dx, _, _, rfl, hp8, T.cl, T.rows, look_at (i := 2) (by decide +kernel) rfl, rp, _, rfl, .inl (SqL.of hrp8), _, _, rfl, rfl, _, rfl, p, C, dx, _, _, rfl, hp8, T.cl, T.from_, look_at (i := 3) (by decide +kernel) rfl, _, _, rfl, rfl, _, rfl, p, C, dx, _, rfl, hp8, T.cl, T.period, by show 4 < 1000; decide, ?_⟩
      have en : (((rows.map V.ref).length : Nat) : Int) - 1 - (r : Int) = ((N - r : Nat) : Int) := by rw [List.length_map, hrl]; omega
      rw [putF_new (ks := k4) (vs := [V.ref l, V.ref D, V.ref rp, V.int r]) (by decide +kernel) rfl]
      dsimp only
      rw [en]
      show sFld _ _ _ _ _ _ (upd H8 p (HO.ins C dx (k5.zip [V.ref l, V.ref D, V.ref rp, V.int r, V.int ((N - r : Nat) : Int)])))
      have hrp9 : upd H8 p (HO.ins C dx (k5.zip [V.ref l, V.ref D, V.ref rp, V.int r, V.int ((N - r : Nat) : Int)])) rp = some (.lst (rows.map V.ref)) := by rw [upd_ne rpp]; exact hrp8
      generalize eH9 : upd H8 p (HO.ins C dx (k5.zip [V.ref l, V.ref D, V.ref rp, V.int r, V.int ((N - r : Nat) : Int)])) = H9 at hrp9
      have hp9 : H9 p = some (.ins C dx (k5.zip [V.ref l, V.ref D, V.ref rp, V.int r, V.int ((N - r : Nat) : Int)])) := by rw [← eH9, upd_same]
      have b9 : But p H H9 := eH9 ▸ But.own b8
      have rows9 : ∀ (i : Nat) (q : Addr), rows[i]? = some q → H9 q = some (.tup ((rowN (cost size ls) ls i).map V.int)) := fun i q hq => by
        have e7 := rows8 i q hq
        rw [← eH9, upd_ne (ne_of e7 hp8 (by intro z; cases z))]; exact e7
      clear eH9
      have ltr : r < rows.length := by omega
      have er := List.getElem?_eq_getElem ltr
      generalize rows[r] = qr at er
      have rne2 : 0 < (rowN (cost size ls) ls r).length := by rw [rowN_length]; exact List.length_pos_iff.mpr R.ne
      have rne3 : 0 < (rowN (cost size ls) ls N).length := by rw [rowN_length]; exact List.length_pos_iff.mpr R.ne
      refine ⟨_, rfl, p, C, dx, _, _, rfl, hp9, T.cl, T.rows, look_at (i := 2) (by decide +kernel) rfl, _, rfl, rp, _, _, .ref qN, rfl, rfl, SqL.of hrp9, lastq, qN, _, rfl, SqT.of (rows9 N qN eN), rne3, fun mN hN1 hN2 => ⟨_, rfl, p, C, dx, _, _, rfl, hp9, T.cl, T.rows, look_at (i := 2) (by decide +kernel) rfl, _, rfl, p, C, dx, _, _, rfl, hp9, T.cl, T.from_, look_at (i := 3) (by decide +kernel) rfl,
        rp, _, _, .ref qr, rfl, rfl, SqL.of hrp9, at_of (j := r) rfl (by rw [List.getElem?_map, er]; rfl), qr, _, rfl, SqT.of (rows9 r qr er), rne2, fun mr hr1' hr2' => ⟨_, _, rfl, rfl, _, rfl, p, C, dx, _, rfl, hp9, T.cl, T.bytes, by show 5 < 1000; decide, ?_⟩⟩⟩
      rw [putF_new (ks := k5) (vs := [V.ref l, V.ref D, V.ref rp, V.int r, V.int ((N - r : Nat) : Int)]) (by decide +kernel) rfl]
      have eb1 := minL_eq hN1 hN2
      have eb2 := minL_eq hr1' hr2'
      have eNr : r + (N - r) = N := by omega
      refine k _ r (N - r) (mN - mr) (But.own b9) ⟨⟨dx, l, D, rp, rows, upd_same, SqT.but hp (But.own b9) rl, ?_, by omega, fun i q hq => ?_⟩, ⟨by omega, by rw [eNr]; exact Fr, by rw [eNr]; exact hsh.symm, by rw [eNr, eb1, eb2]⟩, R, by omega, h100, h6⟩
      · rw [upd_ne rpp]; exact hrp9
      · have e9 := rows9 i q hq
        rw [upd_ne (ne_of e9 hp9 (by intro z; cases z))]; exact e9
end
end W
namespace W
open PySem L2 G24
abbrev iDem : Nat := 7
abbrev sDInit : Stmt := inClass (top iDem) 0
abbrev sLeastFor : Stmt := inClass (top iDem) 4
abbrev sBreak : Stmt := inClass (top iDem) 5
abbrev sCall : Stmt := inClass (top iDem) 6
abbrev sNeeded : Stmt := top 8
abbrev sEnough : Stmt := top 9
abbrev sGreat : Stmt := top 12
abbrev sSize : Stmt := top 13
/-- the keyword-only parameters that most defs have -/
def kwFH : List (Str × V) := [("forced", .int 0), ("holds", .bl false)]
section
variable {K : PySem.W.Frag} {x qual : Str} {f : Addr} {fd : FuncData}
/-- what calls of a def with forced and holds bind: none, both, one of them -/
structure Kwd (K : PySem.W.Frag) (fd : FuncData) (ps : List Str) (n : Nat) : Prop where
  none_ : ∃ ds, Vals [.int 0, .bl false] ds ∧ Binds K fd ps ds
  both : KBn K fd ps n ["forced", "holds"] (fun us ws => us ++ ws) (fun vs zs => vs ++ zs)
  forced : ∃ mv : List Value, KBn K fd ps n ["forced"] (fun us ws => us ++ (ws ++ mv)) (fun vs zs => vs ++ (zs ++ [.bl false]))
  holds : ∃ mv : List Value, KBn K fd ps n ["holds"] (fun us ws => us ++ (mv ++ ws)) (fun vs zs => vs ++ (.int 0 :: zs))
theorem kwd2 (F : FunD K x qual (defArgs sDInit) (defBody sDInit) (defScope sDInit) [] kwFH f fd) : Kwd K fd ["self", "rules", "forced", "holds"] 2 where
  none_ := F.binds0 (ps := ["self", "rules", "forced", "holds"]) 2 (by decide) rfl fun D doc pm an cdv ct us ks h1 h2 => match us, h1, ks, h2 with | [_, _], _, [_, _], _ => ⟨_, _, _, _, _, _, rfl, rfl, ⟨_, _, _, _, _, _, rfl, rfl, rfl⟩⟩
  both := by
    obtain ⟨mv, h⟩ := F.kbinds0 (ps := ["self", "rules", "forced", "holds"]) 2 ["forced", "holds"] [] (fun us mv ws => us ++ ws) (by decide) (by simp) (fun r _ z => r.append z) fun D doc pm an cdv ct us mv ws h1 h2 h3 => match us, h1, mv, h2, ws, h3 with | [_, _], _, [], _, [_, _], _ => rfl
    exact h
  forced := by
    obtain ⟨mv, h⟩ := F.kbinds0 (ps := ["self", "rules", "forced", "holds"]) 2 ["forced"] [("holds", .bl false)] (fun us mv ws => us ++ (ws ++ mv)) (by decide) (by simp [kwFH]) (fun r m z => r.append (z.append m)) fun D doc pm an cdv ct us mv ws h1 h2 h3 => match us, h1, mv, h2, ws, h3 with | [_, _], _, [_], _, [_], _ => ⟨_, _, _, _, _, _, rfl, rfl, rfl⟩
    exact ⟨mv, h⟩
  holds := by
    obtain ⟨mv, h⟩ := F.kbinds0 (ps := ["self", "rules", "forced", "holds"]) 2 ["holds"] [("forced", .int 0)] (fun us mv ws => us ++ (mv ++ ws)) (by decide) (by simp [kwFH]) (fun r m z => r.append (m.append z)) fun D doc pm an cdv ct us mv ws h1 h2 h3 => match us, h1, mv, h2, ws, h3 with | [_, _], _, [_], _, [_], _ => ⟨_, _, _, _, _, _, rfl, rfl, rfl⟩
    exact ⟨mv, h⟩
theorem kwd_needed (F : FunD K x qual (defArgs sNeeded) (defBody sNeeded) (defScope sNeeded) [] kwFH f fd) : Kwd K fd ["rules", "limit", "forced", "holds"] 2 where
  none_ := F.binds0 (ps := ["rules", "limit", "forced", "holds"]) 2 (by decide) rfl fun D doc pm an cdv ct us ks h1 h2 => match us, h1, ks, h2 with | [_, _], _, [_, _], _ => ⟨_, _, _, _, _, _, rfl, rfl, ⟨_, _, _, _, _, _, rfl, rfl, rfl⟩⟩
  both := by
    obtain ⟨mv, h⟩ := F.kbinds0 (ps := ["rules", "limit", "forced", "holds"]) 2 ["forced", "holds"] [] (fun us mv ws => us ++ ws) (by decide) (by simp) (fun r _ z => r.append z) fun D doc pm an cdv ct us mv ws h1 h2 h3 => match us, h1, mv, h2, ws, h3 with | [_, _], _, [], _, [_, _], _ => rfl
    exact h
  forced := by
    obtain ⟨mv, h⟩ := F.kbinds0 (ps := ["rules", "limit", "forced", "holds"]) 2 ["forced"] [("holds", .bl false)] (fun us mv ws => us ++ (ws ++ mv)) (by decide) (by simp [kwFH]) (fun r m z => r.append (z.append m)) fun D doc pm an cdv ct us mv ws h1 h2 h3 => match us, h1, mv, h2, ws, h3 with | [_, _], _, [_], _, [_], _ => ⟨_, _, _, _, _, _, rfl, rfl, rfl⟩
    exact ⟨mv, h⟩
  holds := by
    obtain ⟨mv, h⟩ := F.kbinds0 (ps := ["rules", "limit", "forced", "holds"]) 2 ["holds"] [("forced", .int 0)] (fun us mv ws => us ++ (mv ++ ws)) (by decide) (by simp [kwFH]) (fun r m z => r.append (m.append z)) fun D doc pm an cdv ct us mv ws h1 h2 h3 => match us, h1, mv, h2, ws, h3 with | [_, _], _, [_], _, [_], _ => ⟨_, _, _, _, _, _, rfl, rfl, rfl⟩
    exact ⟨mv, h⟩
theorem kwd_enough (F : FunD K x qual (defArgs sEnough) (defBody sEnough) (defScope sEnough) [] kwFH f fd) : Kwd K fd ["rules", "kept", "limit", "forced", "holds"] 3 where
  none_ := F.binds0 (ps := ["rules", "kept", "limit", "forced", "holds"]) 3 (by decide) rfl fun D doc pm an cdv ct us ks h1 h2 => match us, h1, ks, h2 with | [_, _, _], _, [_, _], _ => ⟨_, _, _, _, _, _, rfl, rfl, ⟨_, _, _, _, _, _, rfl, rfl, rfl⟩⟩
  both := by
    obtain ⟨mv, h⟩ := F.kbinds0 (ps := ["rules", "kept", "limit", "forced", "holds"]) 3 ["forced", "holds"] [] (fun us mv ws => us ++ ws) (by decide) (by simp) (fun r _ z => r.append z) fun D doc pm an cdv ct us mv ws h1 h2 h3 => match us, h1, mv, h2, ws, h3 with | [_, _, _], _, [], _, [_, _], _ => rfl
    exact h
  forced := by
    obtain ⟨mv, h⟩ := F.kbinds0 (ps := ["rules", "kept", "limit", "forced", "holds"]) 3 ["forced"] [("holds", .bl false)] (fun us mv ws => us ++ (ws ++ mv)) (by decide) (by simp [kwFH]) (fun r m z => r.append (z.append m)) fun D doc pm an cdv ct us mv ws h1 h2 h3 => match us, h1, mv, h2, ws, h3 with | [_, _, _], _, [_], _, [_], _ => ⟨_, _, _, _, _, _, rfl, rfl, rfl⟩
    exact ⟨mv, h⟩
  holds := by
    obtain ⟨mv, h⟩ := F.kbinds0 (ps := ["rules", "kept", "limit", "forced", "holds"]) 3 ["holds"] [("forced", .int 0)] (fun us mv ws => us ++ (mv ++ ws)) (by decide) (by simp [kwFH]) (fun r m z => r.append (m.append z)) fun D doc pm an cdv ct us mv ws h1 h2 h3 => match us, h1, mv, h2, ws, h3 with | [_, _, _], _, [_], _, [_], _ => ⟨_, _, _, _, _, _, rfl, rfl, rfl⟩
    exact ⟨mv, h⟩
theorem kwd_great (F : FunD K x qual (defArgs sGreat) (defBody sGreat) (defScope sGreat) [] kwFH f fd) : Kwd K fd ["rules", "kept", "forced", "holds"] 2 where
  none_ := F.binds0 (ps := ["rules", "kept", "forced", "holds"]) 2 (by decide) rfl fun D doc pm an cdv ct us ks h1 h2 => match us, h1, ks, h2 with | [_, _], _, [_, _], _ => ⟨_, _, _, _, _, _, rfl, rfl, ⟨_, _, _, _, _, _, rfl, rfl, rfl⟩⟩
  both := by
    obtain ⟨mv, h⟩ := F.kbinds0 (ps := ["rules", "kept", "forced", "holds"]) 2 ["forced", "holds"] [] (fun us mv ws => us ++ ws) (by decide) (by simp) (fun r _ z => r.append z) fun D doc pm an cdv ct us mv ws h1 h2 h3 => match us, h1, mv, h2, ws, h3 with | [_, _], _, [], _, [_, _], _ => rfl
    exact h
  forced := by
    obtain ⟨mv, h⟩ := F.kbinds0 (ps := ["rules", "kept", "forced", "holds"]) 2 ["forced"] [("holds", .bl false)] (fun us mv ws => us ++ (ws ++ mv)) (by decide) (by simp [kwFH]) (fun r m z => r.append (z.append m)) fun D doc pm an cdv ct us mv ws h1 h2 h3 => match us, h1, mv, h2, ws, h3 with | [_, _], _, [_], _, [_], _ => ⟨_, _, _, _, _, _, rfl, rfl, rfl⟩
    exact ⟨mv, h⟩
  holds := by
    obtain ⟨mv, h⟩ := F.kbinds0 (ps := ["rules", "kept", "forced", "holds"]) 2 ["holds"] [("forced", .int 0)] (fun us mv ws => us ++ (mv ++ ws)) (by decide) (by simp [kwFH]) (fun r m z => r.append (m.append z)) fun D doc pm an cdv ct us mv ws h1 h2 h3 => match us, h1, mv, h2, ws, h3 with | [_, _], _, [_], _, [_], _ => ⟨_, _, _, _, _, _, rfl, rfl, rfl⟩
    exact ⟨mv, h⟩
theorem kwd_size (F : FunD K x qual (defArgs sSize) (defBody sSize) (defScope sSize) [] kwFH f fd) : Kwd K fd ["lengths", "kept", "limit", "forced", "holds"] 3 where
  none_ := F.binds0 (ps := ["lengths", "kept", "limit", "forced", "holds"]) 3 (by decide) rfl fun D doc pm an cdv ct us ks h1 h2 => match us, h1, ks, h2 with | [_, _, _], _, [_, _], _ => ⟨_, _, _, _, _, _, rfl, rfl, ⟨_, _, _, _, _, _, rfl, rfl, rfl⟩⟩
  both := by
    obtain ⟨mv, h⟩ := F.kbinds0 (ps := ["lengths", "kept", "limit", "forced", "holds"]) 3 ["forced", "holds"] [] (fun us mv ws => us ++ ws) (by decide) (by simp) (fun r _ z => r.append z) fun D doc pm an cdv ct us mv ws h1 h2 h3 => match us, h1, mv, h2, ws, h3 with | [_, _, _], _, [], _, [_, _], _ => rfl
    exact h
  forced := by
    obtain ⟨mv, h⟩ := F.kbinds0 (ps := ["lengths", "kept", "limit", "forced", "holds"]) 3 ["forced"] [("holds", .bl false)] (fun us mv ws => us ++ (ws ++ mv)) (by decide) (by simp [kwFH]) (fun r m z => r.append (z.append m)) fun D doc pm an cdv ct us mv ws h1 h2 h3 => match us, h1, mv, h2, ws, h3 with | [_, _, _], _, [_], _, [_], _ => ⟨_, _, _, _, _, _, rfl, rfl, rfl⟩
    exact ⟨mv, h⟩
  holds := by
    obtain ⟨mv, h⟩ := F.kbinds0 (ps := ["lengths", "kept", "limit", "forced", "holds"]) 3 ["holds"] [("forced", .int 0)] (fun us mv ws => us ++ (mv ++ ws)) (by decide) (by simp [kwFH]) (fun r m z => r.append (m.append z)) fun D doc pm an cdv ct us mv ws h1 h2 h3 => match us, h1, mv, h2, ws, h3 with | [_, _, _], _, [_], _, [_], _ => ⟨_, _, _, _, _, _, rfl, rfl, rfl⟩
    exact ⟨mv, h⟩
end

/-! ### a Demand -/
def kD : List Str := ["given_rules", "given_forced", "given_holds", "walks"]
/-- the classes as the top has left them -/
structure KD (K : PySem.W.Frag) (C : Addr) : Prop where
  cl : Cls K C
  rules : NoAttr K C "given_rules"
  forced : NoAttr K C "given_forced"
  holds : NoAttr K C "given_holds"
  walks : NoAttr K C "walks"
/-- d is a Demand of the rules (size, ls) -/
structure DemAt (K : PySem.W.Frag) (CW CD : Addr) (H : Hp) (d : Addr) (size : Int) (ls : List Int) (fo : Nat) (ho : Bool) (r per : Nat) (b : Int) : Prop where
  ex : ∃ (dx a wp : Addr), H d = some (.ins CD dx (kD.zip [.ref a, .int fo, .bl ho, .ref wp])) ∧ WkAt K CW H wp size ls r per b
theorem DemAt.same {K : PySem.W.Frag} {CW CD : Addr} {H H' : Hp} {d : Addr} {size : Int} {ls : List Int} {fo : Nat} {ho : Bool} {r per : Nat} {b : Int} (D : DemAt K CW CD H d size ls fo ho r per b) (e : Same H H') : DemAt K CW CD H' d size ls fo ho r per b :=
  let ⟨dx, a, wp, h1, h2⟩ := D.ex
  ⟨dx, a, wp, e _ _ h1, h2.same e⟩
/-- what is asked of rules that are handed in -/
structure Book (K : PySem.W.Frag) (H : Hp) (a : Addr) (size : Int) (ls : List Int) : Prop where
  at_ : RulesAt K H a size ls
  rules : Rules size ls
  s100 : size ≤ 100
  l6 : ls.length ≤ 6
  few : Few size ls
theorem Book.same {K : PySem.W.Frag} {H H' : Hp} {a : Addr} {size : Int} {ls : List Int} (B : Book K H a size ls) (e : Same H H') : Book K H' a size ls := ⟨B.at_.same e, B.rules, B.s100, B.l6, B.few⟩
section
variable {P : Program} {w : World} {K : PySem.W.Frag} {mg : Str → Option Value} {base : Heap}
def spDInit (K : PySem.W.Frag) (CW CD : Addr) : Sp := fun vs H Q _ => ∃ (p dx a : Addr) (size : Int) (ls : List Int) (fo : Nat) (ho : Bool), vs = [.ref p, .ref a, .int fo, .bl ho] ∧ H p = some (.ins CD dx []) ∧ Book K H a size ls ∧
  ∀ (H' : Hp) (r per : Nat) (b : Int), But p H H' → DemAt K CW CD H' p size ls fo ho r per b → Q .non H'
theorem scDInit : FnScope ["self", "rules", "forced", "holds"] ["self", "rules", "forced", "holds"] (defScope sDInit) := ⟨rfl, rfl, rfl, by decide +kernel, rfl, by decide +kernel, by decide +kernel⟩
theorem ok_dinit {fa CW CD fW : Addr} {fd fdW : FuncData} (F : FunD K "__init__" "Demand.__init__" (defArgs sDInit) (defBody sDInit) (defScope sDInit) [] kwFH fa fd) (T : KD K CD)
    (MW : Mk K CW fW) (GW : FnOk P w K mg base CX0 3 fW fdW ["self", "rules"] (spWInit K CW)) (bW : Binds K fdW ["self", "rules"] []) (mW : mg "Walks" = some (.ref CW)) : FnOk P w K mg base CX0 5 fa fd ["self", "rules", "forced", "holds"] (spDInit K CW CD) := by
  refine F.ok scDInit (fun vs H Q E h => ?_) (fun cdv A outer s H vs Q E hr h => ?_)
  · obtain ⟨p, dx, a, size, ls, fo, ho, rfl, _⟩ := h
    rfl
  · obtain ⟨p, dx, a, size, ls, fo, ho, rfl, hp, BK, k⟩ := h
    refine ⟨_, PSs.nox (pss_cons (ps_fld (pv 0) (pv 1) rfl) (pss_cons (ps_fld (pv 0) (pv 2) rfl) (pss_cons (ps_fld (pv 0) (pv 3) rfl) (pss_one (ps_fld (pv 0) (pe_make MW GW hr rfl mW bW .nil pass0 (pa_cons (pv 1) pa_nil)) rfl))))), ?_⟩
    refine ⟨_, rfl, _, rfl, p, CD, dx, _, rfl, hp, T.cl, T.rules, by show 0 < 1000; decide, _, rfl, _, rfl, p, CD, dx, _, rfl, upd_same, T.cl, T.forced, by show 1 < 1000; decide, ?_⟩
    rw [upd_upd, show putF "given_rules" (V.ref a) [] = (["given_rules"] : List Str).zip [V.ref a] from rfl, putF_new (ks := ["given_rules"]) (vs := [V.ref a]) (by decide +kernel) rfl]
    refine ⟨_, rfl, _, rfl, p, CD, dx, _, rfl, upd_same, T.cl, T.holds, by show 2 < 1000; decide, ?_⟩
    rw [upd_upd, putF_new (ks := [("given_rules" : Str)] ++ [("given_forced" : Str)]) (vs := [V.ref a] ++ [V.int fo]) (by decide +kernel) rfl]
    generalize eH1 : upd H p _ = H1
    have b1 : But p H H1 := eH1 ▸ But.own (But.of (Same.refl H))
    have hp1 : H1 p = some (.ins CD dx ((["given_rules", "given_forced", "given_holds"] : List Str).zip [V.ref a, V.int fo, V.bl ho])) := by rw [← eH1, upd_same]; rfl
    have BK1 : RulesAt K H1 a size ls := let ⟨l, r1, r2⟩ := BK.at_; ⟨l, SqT.but hp b1 r1, SqT.but hp b1 r2⟩
    refine ⟨_, rfl, fun x dx2 nx ndx nex => ?_⟩
    have sM : Same H1 (upd (upd H1 dx2 (.own x)) x (.ins CW dx2 [])) := (Same.put ndx).trans (fun b o e => by rw [upd_ne (fun z => by subst z; rw [upd_ne nex.symm, nx] at e; cases e)]; exact e)
    refine ⟨x, dx2, a, size, ls, rfl, upd_same, BK1.same sM, BK.rules, BK.s100, BK.l6, BK.few, fun H2 r per b e2 Wk => ⟨rfl, ?_⟩⟩
    have hpx : p ≠ x := ne_of_none hp1 nx
    have hp2 := e2 p _ hpx (sM _ _ hp1)
    refine ⟨_, rfl, p, CD, dx, _, rfl, hp2, T.cl, T.walks, by show 3 < 1000; decide, ?_⟩
    rw [putF_new (ks := ["given_rules", "given_forced", "given_holds"]) (vs := [V.ref a, V.int fo, V.bl ho]) (by decide +kernel) rfl]
    obtain ⟨dxw, lw, cdw, rpw, rows, w1, w2, w3, w4, w5⟩ := Wk.ex
    refine k _ r per b (But.own fun b o n e => ?_) ⟨dx, a, x, upd_same, ⟨⟨dxw, lw, cdw, rpw, rows, ?_, SqT.but hp2 (But.own (But.of (Same.refl H2))) w2, ?_, w4, fun i q hq => ?_⟩, Wk.reg, Wk.rules, Wk.few, Wk.s100, Wk.l6⟩⟩
    · have e1 := b1 b o n e
      exact e2 b o (ne_of_none e1 nx) (sM _ _ e1)
    · rw [upd_ne hpx.symm]; exact w1
    · rw [upd_ne (ne_of w3 hp2 (by intro z; cases z))]; exact w3
    · have := w5 i q hq
      rw [upd_ne (ne_of this hp2 (by intro z; cases z))]; exact this
/-! ### least_for, breaking_limit, the call -/
def spLeastFor (K : PySem.W.Frag) (CW CD : Addr) : Sp := fun vs H Q _ => ∃ (d : Addr) (n : Nat) (size : Int) (ls : List Int) (fo : Nat) (ho : Bool) (r per : Nat) (b : Int), vs = [.ref d, .int n] ∧ DemAt K CW CD H d size ls fo ho r per b ∧ ∀ H', Same H H' → Q (.int (lf (cost size ls) ls ho n)) H'
theorem scLeastFor : FnScope ["self", "rotations"] ["self", "rotations"] (defScope sLeastFor) := ⟨rfl, rfl, rfl, by decide +kernel, rfl, by decide +kernel, by decide +kernel⟩
theorem ok_leastfor {fa CW CD fE fB : Addr} {fd fdE fdB : FuncData} (F : Fun K "least_for" "Demand.least_for" sLeastFor fa fd) (T : KD K CD) (TW : KW K CW)
    (GE : FnOk P w K mg base CX0 1 fE fdE ["self", "files"] (spEnd K CW)) (mE : Mt K CW "least_end" fE fdE ["self", "files"]) (GB : FnOk P w K mg base CX0 2 fB fdB ["self", "rotations"] (spBytes K CW)) (mB : Mt K CW "least_bytes" fB fdB ["self", "rotations"]) :
    FnOk P w K mg base CX0 3 fa fd ["self", "rotations"] (spLeastFor K CW CD) := by
  refine F.ok scLeastFor (fun vs H Q E h => ?_) (fun cdv A outer s H vs Q E hr h => ?_)
  · obtain ⟨d, n, size, ls, fo, ho, r, per, b, rfl, _⟩ := h
    rfl
  · obtain ⟨d, n, size, ls, fo, ho, r, per, b, rfl, D, k⟩ := h
    obtain ⟨dx, a, wp, hd, Wk⟩ := D.ex
    obtain ⟨dxw, lw, cdw, rpw, rows, w1, w2, w3, w4, w5⟩ := id Wk.ex
    refine ⟨_, pss_one (ps_ret (pe_ifExp (pt_val (pe_fld (pv 0) rfl)) (pe_meth (pe_fld (pv 0) rfl) TW.cl mE.mt GE (hr.mono (by decide)) mE.b .nil pass0 (pa_cons (pv 1) pa_nil)) (pe_meth (pe_fld (pv 0) rfl) TW.cl mB.mt GB hr mB.b .nil pass0 (pa_cons (pv 1) pa_nil)))), ?_⟩
    refine ⟨_, rfl, d, CD, dx, _, .bl ho, rfl, hd, T.cl, T.holds, look_at (i := 2) (by decide +kernel) rfl, ho, rfl, ?_⟩
    cases ho with
    | true => exact iteT ⟨_, rfl, d, CD, dx, _, _, rfl, hd, T.cl, T.walks, look_at (i := 3) (by decide +kernel) rfl, wp, dxw, _, rfl, w1, look_no (by decide +kernel), _, rfl, wp, n, size, ls, r, per, b, rfl, Wk, k⟩
    | false => exact iteF ⟨_, rfl, d, CD, dx, _, _, rfl, hd, T.cl, T.walks, look_at (i := 3) (by decide +kernel) rfl, wp, dxw, _, rfl, w1, look_no (by decide +kernel), _, rfl, wp, n, size, ls, r, per, b, rfl, Wk, k⟩
def spBreak (K : PySem.W.Frag) (CW CD : Addr) : Sp := fun vs H Q _ => ∃ (d : Addr) (n : Nat) (size : Int) (ls : List Int) (fo : Nat) (ho : Bool) (r per : Nat) (b : Int), vs = [.ref d, .int n] ∧ DemAt K CW CD H d size ls fo ho r per b ∧ ∀ H', Same H H' → Q (.int (lf (cost size ls) ls ho (n + 1 - fo))) H'
theorem scBreak : FnScope ["self", "kept"] ["self", "kept"] (defScope sBreak) := ⟨rfl, rfl, rfl, by decide +kernel, rfl, by decide +kernel, by decide +kernel⟩
theorem ok_break {fa CW CD fL : Addr} {fd fdL : FuncData} (F : Fun K "breaking_limit" "Demand.breaking_limit" sBreak fa fd) (B : Bi mg) (T : KD K CD) (GL : FnOk P w K mg base CX0 3 fL fdL ["self", "rotations"] (spLeastFor K CW CD)) (mL : Mt K CD "least_for" fL fdL ["self", "rotations"]) :
    FnOk P w K mg base CX0 4 fa fd ["self", "kept"] (spBreak K CW CD) := by
  refine F.ok scBreak (fun vs H Q E h => ?_) (fun cdv A outer s H vs Q E hr h => ?_)
  · obtain ⟨d, n, size, ls, fo, ho, r, per, b, rfl, _⟩ := h
    rfl
  · obtain ⟨d, n, size, ls, fo, ho, r, per, b, rfl, D, k⟩ := h
    obtain ⟨dx, a, wp, hd, Wk⟩ := id D.ex
    refine ⟨_, pss_one (ps_ret (pe_meth (pv 0) T.cl mL.mt GL hr mL.b .nil pass0 (pa_cons (pe_callB (call_max2 rfl) (by rfl) B.max PyProof.Rows.boot_max (pa_cons pe_int (pa_cons (pe_op op_sub (pe_op op_add (pv 1) pe_int) (pe_fld (pv 0) rfl)) pa_nil))) pa_nil))), ?_⟩
    refine ⟨_, rfl, d, dx, _, rfl, hd, look_no (by decide +kernel), _, rfl, _, _, rfl, rfl, _, rfl, d, CD, dx, _, _, rfl, hd, T.cl, T.forced, look_at (i := 1) (by decide +kernel) rfl, _, _, rfl, rfl, _, _, rfl, d, n + 1 - fo, size, ls, fo, ho, r, per, b, ?_, D, k⟩
    show [V.ref d, V.int (if (n : Int) + 1 - fo > 0 then (n : Int) + 1 - fo else 0)] = _
    rw [show (if (n : Int) + 1 - fo > 0 then (n : Int) + 1 - fo else 0) = ((n + 1 - fo : Nat) : Int) from by split <;> omega]
def spCall (K : PySem.W.Frag) (CW CD : Addr) : Sp := fun vs H Q _ => ∃ (d : Addr) (limit size : Int) (ls : List Int) (fo : Nat) (ho : Bool) (r per : Nat) (b : Int), vs = [.ref d, .int limit] ∧ 0 ≤ limit ∧ DemAt K CW CD H d size ls fo ho r per b ∧
  ∀ (H' : Hp) (z : Int), Same H H' → Needs (cost size ls) ls ho fo limit z → Q (.int z) H'
theorem scCall : FnScope ["self", "limit", "low", "high", "middle"] ["self", "limit"] (defScope sCall) := ⟨rfl, rfl, rfl, by decide +kernel, rfl, by decide +kernel, by decide +kernel⟩
theorem ok_call {fa CW CD fL : Addr} {fd fdL : FuncData} (F : Fun K "__call__" "Demand.__call__" sCall fa fd) (T : KD K CD) (GL : FnOk P w K mg base CX0 3 fL fdL ["self", "rotations"] (spLeastFor K CW CD)) (mL : Mt K CD "least_for" fL fdL ["self", "rotations"]) :
    FnOk P w K mg base CX0 4 fa fd ["self", "limit"] (spCall K CW CD) := by
  refine F.ok scCall (fun vs H Q E h => ?_) (fun cdv A outer s H vs Q E hr h => ?_)
  · obtain ⟨d, limit, size, ls, fo, ho, r, per, b, rfl, _⟩ := h
    rfl
  · obtain ⟨d, limit, size, ls, fo, ho, r, per, b, rfl, h0, D, k⟩ := h
    have nd := scCall.nd
    obtain ⟨dx, a, wp, hd, Wk⟩ := id D.ex
    have R := Wk.rules
    have Cc := cost_cst R
    refine ⟨_, pss_cons (ps_par (i := 2) (j := 3) (by rfl) nd rfl rfl (by decide) rfl rfl (pa_cons pe_int (pa_cons (pv 1) pa_nil)) (by rfl))
      (pss_cons (ps_if (pt_cmpR op_lt (pv 1) (pe_meth (pv 0) T.cl mL.mt GL hr mL.b .nil pass0 (pa_cons pe_int pa_nil)) (nomark _)) (pss_one (ps_ret pe_int)) pss_nil)
      (pss_cons (ps_while PassesOwn.never (pt_cmpR op_lt (pv 2) (pv 3) (nomark _))
        (pss_cons (ps_set (i := 4) nd rfl (.inl rfl) (pe_op op_fdiv (pe_op op_add (pe_op op_add (pv 2) (pv 3)) pe_int) pe_int))
        (pss_one (ps_if (pt_cmpR op_le (pe_meth (pv 0) T.cl mL.mt GL hr mL.b .nil pass0 (pa_cons (pv 4) pa_nil)) (pv 1) (nomark _))
          (pss_one (ps_set (i := 2) nd rfl (.inl rfl) (pv 4))) (pss_one (ps_set (i := 3) nd rfl (.inl rfl) (pe_op op_sub (pv 4) pe_int)))))))
      (pss_one (ps_ret (pe_op op_add (pv 2) (pe_fld (pv 0) rfl)))))), ?_⟩
    refine ⟨_, rfl, _, _, rfl, ?_⟩
    refine ⟨_, rfl, _, rfl, d, dx, _, rfl, hd, look_no (by decide +kernel), d, 0, size, ls, fo, ho, r, per, b, rfl, D, fun H1 s1 => ⟨_, _, rfl, rfl, _, rfl, ?_⟩⟩
    by_cases c : limit < lf (cost size ls) ls ho 0
    · rw [decide_eq_true c]
      exact iteT (k H1 0 s1 ⟨fun _ => rfl, fun h => by omega⟩)
    · rw [decide_eq_false c]
      refine iteF ⟨fun m σ H2 => ∃ (lo hi : Nat) (v4 : Option V), m + lo = hi ∧ σ = [some (.ref d), some (.int limit), some (.int lo), some (.int hi), v4] ∧ Same H H2 ∧ lf (cost size ls) ls ho lo ≤ limit ∧ limit < lf (cost size ls) ls ho (hi + 1),
        ⟨limit.toNat, 0, limit.toNat, none, by omega, by rw [Int.toNat_of_nonneg h0]; rfl, s1, by omega, by have := lf_ge R Cc ho (limit.toNat + 1); omega⟩, ?_⟩
      rintro m σ H2 ⟨lo, hi, v4, hm, rfl, s2, h1, h2⟩
      refine ⟨_, rfl, _, rfl, _, _, rfl, rfl, _, rfl, ?_⟩
      by_cases c2 : (lo : Int) < hi
      · rw [decide_eq_true c2]
        refine iteT ⟨fun σ' H' => ∃ (lo' hi' : Nat) (v4 : Option V), hi' < lo' + m ∧ lo' ≤ hi' ∧ σ' = [some (.ref d), some (.int limit), some (.int lo'), some (.int hi'), v4] ∧ Same H H' ∧ lf (cost size ls) ls ho lo' ≤ limit ∧ limit < lf (cost size ls) ls ho (hi' + 1), ?_, ?_⟩
        · rintro σ' H' ⟨lo', hi', v4', q1, q2, rfl, q3, q4, q5⟩
          exact ⟨hi' - lo', by omega, lo', hi', v4', by omega, rfl, q3, q4, q5⟩
        · have em : ((lo : Int) + hi + 1) / 2 = (((lo + hi + 1) / 2 : Nat) : Int) := by omega
          refine ⟨_, rfl, _, rfl, _, _, rfl, rfl, _, _, rfl, rfl, _, _, rfl, rfl, ⟨by decide, by decide⟩, ?_⟩
          refine ⟨_, rfl, d, dx, _, rfl, s2 _ _ hd, look_no (by decide +kernel), _, rfl, d, (lo + hi + 1) / 2, size, ls, fo, ho, r, per, b, by show [V.ref d, V.int (((lo : Int) + hi + 1) / 2)] = _; rw [em], D.same s2, fun H3 s3 => ⟨_, rfl, _, _, rfl, rfl, _, rfl, ?_⟩⟩
          by_cases c3 : lf (cost size ls) ls ho ((lo + hi + 1) / 2) ≤ limit
          · rw [decide_eq_true c3]
            refine iteT ⟨_, rfl, (lo + hi + 1) / 2, hi, some (.int ((lo + hi + 1) / 2 : Nat)), by omega, by omega, ?_, s2.trans s3, c3, h2⟩
            rw [← em]; rfl
          · rw [decide_eq_false c3]
            refine iteF ⟨_, rfl, _, _, rfl, rfl, lo, (lo + hi + 1) / 2 - 1, some (.int ((lo + hi + 1) / 2 : Nat)), by omega, by omega, ?_, s2.trans s3, h1, ?_⟩
            · rw [show (((lo + hi + 1) / 2 - 1 : Nat) : Int) = ((lo : Int) + hi + 1) / 2 - 1 from by omega, ← em]; rfl
            · rw [show (lo + hi + 1) / 2 - 1 + 1 = (lo + hi + 1) / 2 from by omega]; omega
      · rw [decide_eq_false c2]
        have eq : lo = hi := by omega
        subst eq
        refine iteF ⟨_, rfl, _, rfl, d, CD, dx, _, _, rfl, s2 _ _ hd, T.cl, T.forced, look_at (i := 1) (by decide +kernel) rfl, _, _, rfl, rfl, k H2 _ s2 ⟨fun h => absurd h c, fun _ => ⟨lo, h1, h2, rfl⟩⟩⟩
end
end W
namespace W
open PySem L2 G24
/-- behind the making of an object all that was tracked is as it was -/
theorem Same.make {H H3 : Hp} {x dx C : Addr} (nx : H x = none) (ndx : H dx = none) (e : But x (upd (upd H dx (.own x)) x (.ins C dx [])) H3) : Same H H3 := fun b o h => by
  have h1 : b ≠ x := ne_of_none h nx
  refine e b o h1 ?_
  rw [upd_ne h1, upd_ne (ne_of_none h ndx)]; exact h
theorem Same.made1 {H : Hp} {x dx C : Addr} (nx : H x = none) (ndx : H dx = none) : Same H (upd (upd H dx (.own x)) x (.ins C dx [])) := Same.make nx ndx fun _ _ _ h => h
/-- what the classes and the defs of needed.py are, as callers need them -/
structure Lib (P : Program) (w : World) (K : PySem.W.Frag) (mg : Str → Option Value) (base : Heap) (CW CD fD fCall fBrk : Addr) (fdD fdCall fdBrk : FuncData) : Prop where
  T : KD K CD
  MD : Mk K CD fD
  mD : mg "Demand" = some (.ref CD)
  GD : FnOk P w K mg base CX0 5 fD fdD ["self", "rules", "forced", "holds"] (spDInit K CW CD)
  kD : Kwd K fdD ["self", "rules", "forced", "holds"] 2
  GC : FnOk P w K mg base CX0 4 fCall fdCall ["self", "limit"] (spCall K CW CD)
  bC : Binds K fdCall ["self", "limit"] []
  cO : StX.CallO K CD fCall
  GB : FnOk P w K mg base CX0 4 fBrk fdBrk ["self", "kept"] (spBreak K CW CD)
  mB : Mt K CD "breaking_limit" fBrk fdBrk ["self", "kept"]
section
variable {P : Program} {w : World} {K : PySem.W.Frag} {mg : Str → Option Value} {base : Heap} {CW CD fD fCall fBrk : Addr} {fdD fdCall fdBrk : FuncData}
def spNeeded (K : PySem.W.Frag) : Sp := fun vs H Q _ => ∃ (a : Addr) (limit size : Int) (ls : List Int) (fo : Nat) (ho : Bool), vs = [.ref a, .int limit, .int fo, .bl ho] ∧ 0 ≤ limit ∧ Book K H a size ls ∧
  ∀ (H' : Hp) (z : Int), Same H H' → Needs (cost size ls) ls ho fo limit z → Q (.int z) H'
theorem scNeeded : FnScope ["rules", "limit", "forced", "holds"] ["rules", "limit", "forced", "holds"] (defScope sNeeded) := ⟨rfl, rfl, rfl, by decide +kernel, rfl, by decide +kernel, by decide +kernel⟩
theorem ok_needed {fa : Addr} {fd : FuncData} (F : FunD K "needed" "needed" (defArgs sNeeded) (defBody sNeeded) (defScope sNeeded) [] kwFH fa fd) (L : Lib P w K mg base CW CD fD fCall fBrk fdD fdCall fdBrk) : FnOk P w K mg base CX0 7 fa fd ["rules", "limit", "forced", "holds"] (spNeeded K) := by
  refine F.ok scNeeded (fun vs H Q E h => ?_) (fun cdv A outer s H vs Q E hr h => ?_)
  · obtain ⟨a, limit, size, ls, fo, ho, rfl, _⟩ := h
    rfl
  · obtain ⟨a, limit, size, ls, fo, ho, rfl, h0, BK, k⟩ := h
    refine ⟨_, PSs.nox (pss_one (ps_ret (StX.pe_callO (pe_makeK (n := 1) L.MD L.GD hr (by rfl) L.mD L.kD.both pass0 (pa_cons (pv 0) pa_nil) (pk_cons (pv 2) (pk_cons (pv 3) pk_nil))) L.cO (L.GC.raw L.bC .nil) (hr.mono (by decide)) pass0 (pa_cons (pv 1) pa_nil)))), ?_⟩
    refine ⟨_, rfl, _, rfl, _, rfl, rfl, rfl, fun x dx nx ndx nex => ⟨x, dx, a, size, ls, fo, ho, rfl, upd_same, BK.same (Same.made1 nx ndx), fun H2 r per b e D => ⟨rfl, x, rfl, _, rfl, ?_, x, limit, size, ls, fo, ho, r, per, b, rfl, h0, D, fun H3 z s3 N => k H3 z ((Same.make nx ndx e).trans s3) N⟩⟩⟩
    obtain ⟨dx', a', wp, h1, _⟩ := D.ex
    exact .inr ⟨_, _, h1⟩
def spEnough (K : PySem.W.Frag) : Sp := fun vs H Q _ => ∃ (a : Addr) (kept limit size : Int) (ls : List Int) (fo : Nat) (ho : Bool), vs = [.ref a, .int kept, .int limit, .int fo, .bl ho] ∧ 0 ≤ limit ∧ Book K H a size ls ∧
  ∀ (H' : Hp) (z : Int), Same H H' → Needs (cost size ls) ls ho fo limit z → Q (.bl (decide (z ≤ kept))) H'
theorem scEnough : FnScope ["rules", "kept", "limit", "forced", "holds"] ["rules", "kept", "limit", "forced", "holds"] (defScope sEnough) := ⟨rfl, rfl, rfl, by decide +kernel, rfl, by decide +kernel, by decide +kernel⟩
theorem ok_enough {fa fN : Addr} {fd fdN : FuncData} (F : FunD K "is_enough" "is_enough" (defArgs sEnough) (defBody sEnough) (defScope sEnough) [] kwFH fa fd) (GN : FnOk P w K mg base CX0 7 fN fdN ["rules", "limit", "forced", "holds"] (spNeeded K)) (kN : PySem.W.keepIn K (.ref fN) = true) (mN : mg "needed" = some (.ref fN)) (bN : Kwd K fdN ["rules", "limit", "forced", "holds"] 2) :
    FnOk P w K mg base CX0 8 fa fd ["rules", "kept", "limit", "forced", "holds"] (spEnough K) := by
  refine F.ok scEnough (fun vs H Q E h => ?_) (fun cdv A outer s H vs Q E hr h => ?_)
  · obtain ⟨a, kept, limit, size, ls, fo, ho, rfl, _⟩ := h
    rfl
  · obtain ⟨a, kept, limit, size, ls, fo, ho, rfl, h0, BK, k⟩ := h
    refine ⟨_, PSs.nox (pss_one (ps_ret (pe_cmpR op_le (pe_callN (n := 2) GN hr (by rfl) mN kN bN.both pass0 (pa_cons (pv 0) (pa_cons (pv 2) pa_nil)) (pk_cons (pv 3) (pk_cons (pv 4) pk_nil))) (pv 1) (nomark _)))), ?_⟩
    exact ⟨_, rfl, _, rfl, _, rfl, _, rfl, rfl, rfl, a, limit, size, ls, fo, ho, rfl, h0, BK, fun H2 z s2 N => ⟨_, rfl, _, _, rfl, rfl, k H2 z s2 N⟩⟩
def spGreat (K : PySem.W.Frag) : Sp := fun vs H Q _ => ∃ (a : Addr) (n : Nat) (size : Int) (ls : List Int) (fo : Nat) (ho : Bool), vs = [.ref a, .int n, .int fo, .bl ho] ∧ Book K H a size ls ∧ ∀ H', Same H H' → Q (.int (lf (cost size ls) ls ho (n + 1 - fo) - 1)) H'
theorem scGreat : FnScope ["rules", "kept", "forced", "holds"] ["rules", "kept", "forced", "holds"] (defScope sGreat) := ⟨rfl, rfl, rfl, by decide +kernel, rfl, by decide +kernel, by decide +kernel⟩
theorem ok_great {fa : Addr} {fd : FuncData} (F : FunD K "greatest_limit" "greatest_limit" (defArgs sGreat) (defBody sGreat) (defScope sGreat) [] kwFH fa fd) (L : Lib P w K mg base CW CD fD fCall fBrk fdD fdCall fdBrk) : FnOk P w K mg base CX0 7 fa fd ["rules", "kept", "forced", "holds"] (spGreat K) := by
  refine F.ok scGreat (fun vs H Q E h => ?_) (fun cdv A outer s H vs Q E hr h => ?_)
  · obtain ⟨a, n, size, ls, fo, ho, rfl, _⟩ := h
    rfl
  · obtain ⟨a, n, size, ls, fo, ho, rfl, BK, k⟩ := h
    refine ⟨_, PSs.nox (pss_one (ps_ret (pe_op op_sub (pe_meth (pe_makeK (n := 1) L.MD L.GD hr (by rfl) L.mD L.kD.both pass0 (pa_cons (pv 0) pa_nil) (pk_cons (pv 2) (pk_cons (pv 3) pk_nil))) L.T.cl L.mB.mt L.GB (hr.mono (by decide)) L.mB.b .nil pass0 (pa_cons (pv 1) pa_nil)) pe_int))), ?_⟩
    refine ⟨_, rfl, _, rfl, _, rfl, rfl, rfl, fun x dx nx ndx nex => ⟨x, dx, a, size, ls, fo, ho, rfl, upd_same, BK.same (Same.made1 nx ndx), fun H2 r per b e D => ⟨rfl, ?_⟩⟩⟩
    obtain ⟨dx', a', wp, h1, _⟩ := id D.ex
    exact ⟨x, dx', _, rfl, h1, look_no (by decide +kernel), _, rfl, x, n, size, ls, fo, ho, r, per, b, rfl, D, fun H3 s3 => ⟨_, _, rfl, rfl, k H3 ((Same.make nx ndx e).trans s3)⟩⟩
/-! ### least_size -/
/-- so many files are enough -/
def Eno (ls : List Int) (fo : Nat) (ho : Bool) (kept limit s : Int) : Prop := ∃ z, Needs (cost s ls) ls ho fo limit z ∧ z ≤ kept
structure Lens (ls : List Int) (last : Int) : Prop where
  ne : ls ≠ []
  asc : ls.Pairwise (· < ·)
  lo : ∀ l ∈ ls, 1 ≤ l
  last : ls.getLast? = some last
  l6 : ls.length ≤ 6
theorem Lens.rules {ls : List Int} {last s : Int} (L : Lens ls last) (h : last ≤ s) : Rules s ls := ⟨L.ne, L.asc, L.lo, fun l hl => Int.le_trans (asc_last L.asc L.last l hl) h⟩
theorem Lens.mem {ls : List Int} {last : Int} (L : Lens ls last) : last ∈ ls := by
  obtain ⟨x, hx, e⟩ := getLast_mem' L.ne
  rw [L.last] at e; cases e; exact hx
theorem atLast : ∀ {ls : List Int} {last : Int}, ls.getLast? = some last → atI (ls.map V.int) (-1) = some (.int last) := fun {ls last} h => by
  have hne : ls ≠ [] := fun e => by subst e; simp at h
  have hl : (ls.map V.int).length = (ls.length - 1) + 1 := by
    have := List.length_pos_iff.mpr hne
    rw [List.length_map]; omega
  refine at_neg1 hl ?_
  rw [List.getElem?_map, ← List.getLast?_eq_getElem?, h]; rfl
def spSize (K : PySem.W.Frag) : Sp := fun vs H Q _ => ∃ (l : Addr) (kept limit : Int) (ls : List Int) (last top : Int) (fo : Nat) (ho : Bool), vs = [.ref l, .int kept, .int limit, .int fo, .bl ho] ∧ 0 ≤ limit ∧ SqT K H l (ls.map V.int) ∧ Lens ls last ∧ last ≤ top ∧ top ≤ 100 ∧
  (∀ s, last ≤ s → s ≤ top → Few s ls) ∧ (top = 100 ∨ Eno ls fo ho kept limit top) ∧
  ∀ H', Same H H' → ((∀ s, last ≤ s → s ≤ top → Eno ls fo ho kept limit s → (∀ s', last ≤ s' → s' < s → ¬ Eno ls fo ho kept limit s') → Q (.int s) H') ∧ ((∀ s', last ≤ s' → s' ≤ 100 → ¬ Eno ls fo ho kept limit s') → top = 100 → Q .non H'))
theorem scSize : FnScope ["lengths", "kept", "limit", "forced", "holds", "size"] ["lengths", "kept", "limit", "forced", "holds"] (defScope sSize) := ⟨rfl, rfl, rfl, by decide +kernel, rfl, by decide +kernel, by decide +kernel⟩
theorem ok_size {fa fE : Addr} {fd fdE : FuncData} {tk : Tok} (F : FunD K "least_size" "least_size" (defArgs sSize) (defBody sSize) (defScope sSize) [] kwFH fa fd) (B : Bi mg) (mM : mg "MOST_SIZE" = some (.int 100 tk)) (GE : FnOk P w K mg base CX0 8 fE fdE ["rules", "kept", "limit", "forced", "holds"] (spEnough K)) (kE : PySem.W.keepIn K (.ref fE) = true) (mE : mg "is_enough" = some (.ref fE))
    (bE : Kwd K fdE ["rules", "kept", "limit", "forced", "holds"] 3) : FnOk P w K mg base CX0 9 fa fd ["lengths", "kept", "limit", "forced", "holds"] (spSize K) := by
  refine F.ok scSize (fun vs H Q E h => ?_) (fun cdv A outer s H vs Q E hr h => ?_)
  · obtain ⟨l, kept, limit, ls, last, top, fo, ho, rfl, _⟩ := h
    rfl
  · obtain ⟨l, kept, limit, ls, last, top, fo, ho, rfl, h0, hl, L, t1, t2, fw, fin, k⟩ := h
    have nd := scSize.nd
    have l1 := L.lo _ L.mem
    refine ⟨_, PSs.nox (pss_cons (ps_for PassesOwn.never rfl (pi_range2 (by rfl) B.range (pa_cons (pe_ix ix_tup (pv 0) (pe_un un_neg pe_int) (fun _ _ => rfl)) (pa_cons (pe_op op_add (pe_glob (v := .int 100) (by rfl) mM ⟨_, rfl⟩) pe_int) pa_nil))) (pg_name (i := 5) nd rfl (.inl rfl))
        (pss_one (ps_if (pt_val (pe_callN (n := 3) GE hr (by rfl) mE kE bE.both pass0 (pa_cons (pe_tup (pa_cons (pv 5) (pa_cons (pv 0) pa_nil))) (pa_cons (pv 1) (pa_cons (pv 2) pa_nil))) (pk_cons (pv 3) (pk_cons (pv 4) pk_nil)))) (pss_one (ps_ret (pv 5))) pss_nil)))
      (pss_one (ps_ret pe_non))), ?_⟩
    refine ⟨_, rfl, _, rfl, l, _, _, .int last, rfl, rfl, hl, atLast L.last, _, _, rfl, rfl, last, 101, rfl, ⟨by omega, by omega, by omega, by omega⟩, ?_⟩
    refine for_range (lo := last) (n := (101 - last).toNat) (fun i σ H2 => ∃ v5 : Option V, σ = [some (.ref l), some (.int kept), some (.int limit), some (.int fo), some (.bl ho), v5] ∧ Same H H2 ∧ ∀ s', last ≤ s' → s' < last + i → ¬ Eno ls fo ho kept limit s')
      ⟨none, rfl, Same.refl H, fun s' a b => by omega⟩ ?_ ?_
    · rintro i σ H2 hi ⟨v5, rfl, s2, no⟩
      have it : last + (i : Int) ≤ top := by
        rcases fin with e | e
        · omega
        · rcases Int.lt_or_le top (last + i) with q | q
          · exact absurd e (no top t1 q)
          · exact q
      have R := L.rules (s := last + i) (by omega)
      refine ⟨_, rfl, _, rfl, by show 2 ≤ sizeLine; decide, fun t nt => ⟨_, rfl, _, rfl, _, rfl, _, rfl, rfl, rfl, t, kept, limit, last + i, ls, fo, ho, rfl, h0, ⟨⟨l, SqT.of upd_same, SqT.same (Same.put nt) (SqT.same s2 hl)⟩, R, by omega, L.l6, fw _ (by omega) it⟩, fun H3 z s3 N => ⟨_, rfl, ?_⟩⟩⟩
      have s23 := s2.trans ((Same.put nt).trans s3)
      by_cases c : z ≤ kept
      · rw [decide_eq_true c]
        exact iteT ⟨_, rfl, (k H3 s23).1 (last + i) (by omega) it ⟨z, N, c⟩ no⟩
      · rw [decide_eq_false c]
        refine iteF ⟨_, rfl, s23, fun s' a b => ?_⟩
        by_cases e : s' = last + i
        · subst e
          rintro ⟨z', N', c'⟩
          exact c (by rw [N.inj R (cost_cst R) N']; exact c')
        · exact no s' a (by omega)
    · rintro σ H2 ⟨v5, rfl, s2, no⟩
      have no' : ∀ s', last ≤ s' → s' ≤ 100 → ¬ Eno ls fo ho kept limit s' := fun s' a b => no s' a (by omega)
      rcases fin with e | e
      · exact (k H2 s2).2 no' e
      · exact absurd e (no' top t1 t2)
end
end W
namespace W
open PySem L2 G24
abbrev sTake : Stmt := top 17
abbrev sOf : Stmt := top 18
abbrev sBox : Stmt := top 16
/-- the law's box: the digits that are left, a number, how many were mixed -/
def BoxAt (H : Hp) (p : Addr) (n : Nat) : Prop := ∃ o m c : Int, H p = some (.lst [.int o, .int m, .int c]) ∧ 0 ≤ o ∧ 0 ≤ m ∧ m < 2305843009213693921 ∧ 0 ≤ c ∧ c ≤ n
theorem BoxAt.same {H H' : Hp} {p : Addr} {n : Nat} (B : BoxAt H p n) (e : Same H H') : BoxAt H' p n := let ⟨o, m, c, h, r⟩ := B; ⟨o, m, c, e _ _ h, r⟩
theorem BoxAt.mono {H : Hp} {p : Addr} {n k : Nat} (B : BoxAt H p n) (e : n ≤ k) : BoxAt H p k := let ⟨o, m, c, h, r1, r2, r3, r4, r5⟩ := B; ⟨o, m, c, h, r1, r2, r3, r4, by omega⟩
section
variable {P : Program} {w : World} {K : PySem.W.Frag} {mg : Str → Option Value} {base : Heap}
def spTake : Sp := fun vs H Q _ => ∃ (p : Addr) (many : Int) (n : Nat), vs = [.ref p, .int many] ∧ 0 < many ∧ many < 2 ^ 63 ∧ BoxAt H p n ∧ n ≤ 1000000 ∧ ∀ (H' : Hp) (v : Int), But p H H' → BoxAt H' p (n + 1) → 0 ≤ v → v < many → Q (.int v) H'
theorem scTake : FnScope ["box", "many", "digit", "mixed"] ["box", "many"] (defScope sTake) := ⟨rfl, rfl, rfl, by decide +kernel, rfl, by decide +kernel, by decide +kernel⟩
theorem ok_take {fa : Addr} {fd : FuncData} (F : Fun K "_law_take" "_law_take" sTake fa fd) : FnOk P w K mg base CX0 1 fa fd ["box", "many"] spTake := by
  refine F.ok scTake (fun vs H Q E h => ?_) (fun cdv A outer s H vs Q E hr h => ?_)
  · obtain ⟨p, many, n, rfl, _⟩ := h
    rfl
  · obtain ⟨p, many, n, rfl, m0, m1, ⟨o, m, c, hp, o0, b0, b1, c0, c1⟩, hn, k⟩ := h
    have nd := scTake.nd
    refine ⟨_, pss_cons (ps_if (pt_cmpR op_gt (pe_ix ix_list (pv 0) pe_int (fun _ _ => rfl)) pe_int (nomark _))
        (pss_cons (ps_set (i := 2) nd rfl (.inl rfl) (pe_op op_mod (pe_ix ix_list (pv 0) pe_int (fun _ _ => rfl)) (pv 1)))
        (pss_cons (ps_asg (pe_op op_fdivW (pe_ix ix_list (pv 0) pe_int (fun _ _ => rfl)) (pv 1)) (pg_sub (pv 0) pe_int set_list))
        (pss_one (ps_ret (pv 2))))) pss_nil)
      (pss_cons (ps_asg (pe_op op_add (pe_ix ix_list (pv 0) pe_int (fun _ _ => rfl)) pe_int) (pg_sub (pv 0) pe_int set_list))
      (pss_cons (ps_set (i := 3) nd rfl (.inl rfl) (pe_op op_mod (pe_op op_mul (pe_op op_add (pe_op op_add (pe_ix ix_list (pv 0) pe_int (fun _ _ => rfl)) (pe_op op_mul (pe_op op_mul pe_int (pe_ix ix_list (pv 0) pe_int (fun _ _ => rfl))) (pe_ix ix_list (pv 0) pe_int (fun _ _ => rfl)))) pe_int) pe_int) pe_int))
      (pss_cons (ps_set (i := 3) nd rfl (.inl rfl) (pe_op op_mod (pe_op op_mul (pv 3) (pe_op op_add (pe_op op_mod (pv 3) pe_int) (pe_op op_mul pe_int (pe_ix ix_list (pv 0) pe_int (fun _ _ => rfl))))) pe_int))
      (pss_one (ps_ret (pe_op op_mod (pe_op op_add (pe_op op_fdiv (pv 3) pe_int) (pe_op op_fdiv (pv 3) pe_int)) (pv 1))))))), ?_⟩
    have at0 : ∀ a b d : V, atI [a, b, d] 0 = some a := fun a b d => at_of (j := 0) rfl rfl
    have at1 : ∀ a b d : V, atI [a, b, d] 1 = some b := fun a b d => at_of (j := 1) rfl rfl
    have at2 : ∀ a b d : V, atI [a, b, d] 2 = some d := fun a b d => at_of (j := 2) rfl rfl
    refine ⟨_, rfl, p, _, 0, _, rfl, rfl, SqL.of hp, at0 _ _ _, _, _, rfl, rfl, _, rfl, ?_⟩
    by_cases q : (0 : Int) < o
    · rw [decide_eq_true q]
      refine iteT ⟨_, rfl, p, _, 0, _, rfl, rfl, SqL.of hp, at0 _ _ _, _, rfl, _, _, rfl, rfl, m0, ?_⟩
      refine ⟨_, rfl, p, _, 0, _, rfl, rfl, SqL.of hp, at0 _ _ _, _, rfl, _, _, rfl, rfl, wide_div (b := 63) m0 (by omega) (by decide) (by decide), ?_⟩
      refine ⟨_, rfl, p, _, 0, 0, rfl, rfl, hp, rfl, _, rfl, ?_⟩
      exact k _ _ (But.own (But.of (Same.refl H))) ⟨o / many, m, c, upd_same, Int.ediv_nonneg (by omega) (by omega), b0, b1, c0, by omega⟩ (Int.emod_nonneg _ (by omega)) (Int.emod_lt_of_pos _ m0)
    · rw [decide_eq_false q]
      refine iteF ⟨_, rfl, p, _, 2, _, rfl, rfl, SqL.of hp, at2 _ _ _, _, _, rfl, rfl, _, rfl, p, _, 2, 2, rfl, rfl, hp, rfl, ?_⟩
      have hp1 : upd H p (.lst (([.int o, .int m, .int c] : List V).set 2 (.int (c + 1)))) p = some (.lst [.int o, .int m, .int (c + 1)]) := upd_same
      generalize eH1 : upd H p (.lst (([.int o, .int m, .int c] : List V).set 2 (.int (c + 1)))) = H1 at hp1
      have b1' : But p H H1 := eH1 ▸ But.own (But.of (Same.refl H))
      show tSeq _ _ _ _ H1
      refine ⟨_, rfl, p, _, 1, _, rfl, rfl, SqL.of hp1, at1 _ _ _, _, rfl, p, _, 2, _, rfl, rfl, SqL.of hp1, at2 _ _ _, _, _, rfl, rfl, .inl ⟨by decide, by decide⟩, _, rfl, p, _, 2, _, rfl, rfl, SqL.of hp1, at2 _ _ _, _, _, rfl, rfl, .inr ⟨by omega, by omega⟩, _, _, rfl, rfl, _, _, rfl, rfl, _, _, rfl, rfl, .inr ⟨by decide, by decide⟩, _, _, rfl, rfl, by show (0 : Int) < 2305843009213693921; decide, ?_⟩
      generalize eX : (m + 65557 * (c + 1) * (c + 1) + 19) * 48311 % 2305843009213693921 = x1
      have x0 : 0 ≤ x1 := eX ▸ Int.emod_nonneg _ (by decide)
      have x2 : x1 < 2305843009213693921 := eX ▸ Int.emod_lt_of_pos _ (by decide)
      refine ⟨_, rfl, _, rfl, _, _, rfl, rfl, by show (0 : Int) < 1000037; decide, _, rfl, p, _, 2, _, rfl, rfl, SqL.of hp1, at2 _ _ _, _, _, rfl, rfl, .inl ⟨by decide, by decide⟩, _, _, rfl, rfl, _, _, rfl, rfl, .inl ⟨?_, ?_⟩, _, _, rfl, rfl, by show (0 : Int) < 2305843009213693907; decide, ?_⟩
      · show -(2 ^ 64) < (m + 65557 * (c + 1) * (c + 1) + 19) * 48311 % 2305843009213693921
        rw [eX]; omega
      · show (m + 65557 * (c + 1) * (c + 1) + 19) * 48311 % 2305843009213693921 < 2 ^ 64
        rw [eX]; omega
      refine ⟨_, rfl, _, _, rfl, rfl, ⟨by decide, by decide⟩, _, rfl, _, _, rfl, rfl, ⟨by decide, by decide⟩, _, _, rfl, rfl, _, rfl, _, _, rfl, rfl, m0, ?_⟩
      exact k _ _ b1' ⟨o, m, c + 1, hp1, o0, b0, b1, by omega, by omega⟩ (Int.emod_nonneg _ (by omega)) (Int.emod_lt_of_pos _ m0)
/-- one of some things -/
def spOf (K : PySem.W.Frag) : Sp := fun vs H Q _ => ∃ (p q : Addr) (n : Nat) (xs : List V), vs = [.ref p, .ref q] ∧ p ≠ q ∧ H q = some (.lst xs) ∧ xs ≠ [] ∧ xs.length ≤ 1000 ∧ BoxAt H p n ∧ n ≤ 1000000 ∧ ∀ (H' : Hp) (x : V), But p H H' → BoxAt H' p (n + 1) → x ∈ xs → Q x H'
theorem scOf : FnScope ["box", "some"] ["box", "some"] (defScope sOf) := ⟨rfl, rfl, rfl, by decide +kernel, rfl, by decide +kernel, by decide +kernel⟩
theorem ok_of {fa fT : Addr} {fd fdT : FuncData} (F : Fun K "_law_of" "_law_of" sOf fa fd) (B : Bi mg) (GT : FnOk P w K mg base CX0 1 fT fdT ["box", "many"] spTake) (kT : PySem.W.keepIn K (.ref fT) = true) (mT : mg "_law_take" = some (.ref fT)) (bT : Binds K fdT ["box", "many"] []) : FnOk P w K mg base CX0 2 fa fd ["box", "some"] (spOf K) := by
  refine F.ok scOf (fun vs H Q E h => ?_) (fun cdv A outer s H vs Q E hr h => ?_)
  · obtain ⟨p, q, n, xs, rfl, _⟩ := h
    rfl
  · obtain ⟨p, q, n, xs, rfl, hpq, hq, hne, hl, BX, hn, k⟩ := h
    have hpos := List.length_pos_iff.mpr hne
    refine ⟨_, pss_one (ps_ret (pe_ix ix_list (pv 1) (pe_call GT hr (by rfl) mT kT bT .nil pass0 (pa_cons (pv 0) (pa_cons (pe_callB call_len_seq (by rfl) B.len PySem.boot_len (pa_cons (pv 1) pa_nil)) pa_nil))) (fun _ _ => rfl))), ?_⟩
    refine ⟨_, rfl, _, rfl, _, rfl, q, xs, rfl, .inl (SqL.of hq), p, (xs.length : Nat), n, rfl, by omega, by omega, BX, hn, fun H' v b BX' v0 v1 => ?_⟩
    have lt : v.toNat < xs.length := by omega
    have ex := List.getElem?_eq_getElem lt
    refine ⟨q, xs, v, xs[v.toNat], rfl, rfl, SqL.of (b _ _ (Ne.symm hpq) hq), at_of (j := v.toNat) (by omega) ex, k H' _ b BX' (List.mem_of_getElem? ex)⟩
/-! ### _law_box -/
theorem b01 (b : Bool) : (-(2 ^ 64) < (if b = true then (1 : Int) else 0) ∧ (if b = true then (1 : Int) else 0) < 2 ^ 64) ∧ 0 ≤ (if b = true then (1 : Int) else 0) := by cases b <;> decide
def spBox (K : PySem.W.Frag) : Sp := fun vs H Q _ => ∃ (a : Addr) (ns : List Int) (k : Int), vs = [.ref a, .int k] ∧ SqL K H a (ns.map V.int) ∧ 0 ≤ k ∧ k ≤ 100 ∧ ∀ (p : Addr) (H' : Hp), H p = none → Same H H' → BoxAt H' p 0 → Q (.ref p) H'
theorem scBox : FnScope ["script", "k", "cell", "own"] ["script", "k"] (defScope sBox) := ⟨rfl, rfl, rfl, by decide +kernel, rfl, by decide +kernel, by decide +kernel⟩
theorem ok_box {fa : Addr} {fd : FuncData} (F : Fun K "_law_box" "_law_box" sBox fa fd) (B : Bi mg) : FnOk P w K mg base CX0 1 fa fd ["script", "k"] (spBox K) := by
  refine F.ok scBox (fun vs H Q E h => ?_) (fun cdv A outer s H vs Q E hr h => ?_)
  · obtain ⟨a, ns, k, rfl, _⟩ := h
    rfl
  · obtain ⟨a, ns, kk, rfl, ha, k0, k1, k⟩ := h
    have nd := scBox.nd
    refine ⟨_, pss_cons (ps_set (i := 2) nd rfl (.inl rfl) (pe_ifExp (pt_cmpR op_lt (pv 1) (pe_callB call_len_seq (by rfl) B.len PySem.boot_len (pa_cons (pv 0) pa_nil)) (nomark _)) (pe_ix ix_list (pv 0) (pv 1) (fun _ _ => rfl)) (pe_op op_add (pe_op op_mul pe_int (pv 1)) pe_int)))
      (pss_cons (ps_set (i := 3) nd rfl (.inl rfl) (pe_op op_mul (pe_op op_mod (pe_callB call_abs (by rfl) B.abs PyProof.Rows.boot_abs (pa_cons (pv 2) pa_nil)) (pe_op GL.op_powW (pe_op op_pow pe_int pe_int) pe_int))
        (pe_callTy call_int1 (by rfl) B.int (by decide +kernel) (pa_cons (pe_cmpR op_ge (pe_callB call_abs (by rfl) B.abs PyProof.Rows.boot_abs (pa_cons (pv 2) pa_nil)) (pe_op op_pow pe_int pe_int) (nomark _)) pa_nil))))
      (pss_one (ps_ret (pe_lst (pa_cons (pv 3) (pa_cons (pe_op op_mod (pe_op op_add (pe_op op_add (pe_op op_mul (pe_op op_mod (pv 2) pe_int) pe_int) (pe_op op_mul (pe_op op_mul pe_int (pv 1)) (pv 1))) pe_int) pe_int) (pa_cons pe_int pa_nil))))))), ?_⟩
    refine ⟨_, rfl, _, rfl, a, _, rfl, .inl ha, _, _, rfl, rfl, _, rfl, ?_⟩
    by_cases q : kk < (ns.length : Nat)
    · rw [List.length_map, decide_eq_true q]
      have lt : kk.toNat < ns.length := by omega
      have ex := List.getElem?_eq_getElem lt
      refine iteT ⟨_, rfl, _, rfl, a, _, kk, .int ns[kk.toNat], rfl, rfl, ha, at_of (j := kk.toNat) (by omega) (by rw [List.getElem?_map, ex]; rfl), ?_⟩
      refine ⟨_, rfl, _, rfl, _, _, rfl, rfl, ⟨by decide, by decide, by decide⟩, _, _, rfl, rfl, ⟨by decide, by decide +kernel⟩, _, _, rfl, rfl, ?_, _, rfl, _, rfl, _, _, rfl, rfl, ⟨by decide, by decide, by decide⟩, _, _, rfl, rfl, .inr ⟨_, rfl, _, _, rfl, rfl, .inr ?_, ?_⟩⟩
      · show (0 : Int) < ((10 : Int) ^ (60 : Int).toNat) ^ (5 : Int).toNat
        decide +kernel
      · exact (b01 _).1
      refine ⟨_, rfl, _, rfl, _, _, rfl, rfl, by show (0 : Int) < 2305843009213693951; decide, _, _, rfl, rfl, .inr ⟨by decide, by decide⟩, _, rfl, _, _, rfl, rfl, .inl ⟨by decide, by decide⟩, _, rfl, _, _, rfl, rfl, .inr ⟨by omega, by omega⟩, _, _, rfl, rfl, _, _, rfl, rfl, _, _, rfl, rfl, by show (0 : Int) < 2305843009213693921; decide, by show 3 ≤ sizeLine; decide, fun p np => ?_⟩
      refine k p _ np (Same.put np) ⟨_, _, _, upd_same, ?_, Int.emod_nonneg _ (by decide), Int.emod_lt_of_pos _ (by decide), Int.le_refl _, Int.le_refl _⟩
      refine Int.mul_nonneg (Int.emod_nonneg _ (by decide +kernel)) (b01 _).2
    · rw [List.length_map, decide_eq_false q]
      refine iteF ⟨_, rfl, _, _, rfl, rfl, .inl ⟨by decide, by decide⟩, _, _, rfl, rfl, ?_⟩
      refine ⟨_, rfl, _, rfl, _, _, rfl, rfl, ⟨by decide, by decide, by decide⟩, _, _, rfl, rfl, ⟨by decide, by decide +kernel⟩, _, _, rfl, rfl, ?_, _, rfl, _, rfl, _, _, rfl, rfl, ⟨by decide, by decide, by decide⟩, _, _, rfl, rfl, .inr ⟨_, rfl, _, _, rfl, rfl, .inr ?_, ?_⟩⟩
      · show (0 : Int) < ((10 : Int) ^ (60 : Int).toNat) ^ (5 : Int).toNat
        decide +kernel
      · exact (b01 _).1
      refine ⟨_, rfl, _, rfl, _, _, rfl, rfl, by show (0 : Int) < 2305843009213693951; decide, _, _, rfl, rfl, .inr ⟨by decide, by decide⟩, _, rfl, _, _, rfl, rfl, .inl ⟨by decide, by decide⟩, _, rfl, _, _, rfl, rfl, .inr ⟨by omega, by omega⟩, _, _, rfl, rfl, _, _, rfl, rfl, _, _, rfl, rfl, by show (0 : Int) < 2305843009213693921; decide, by show 3 ≤ sizeLine; decide, fun p np => ?_⟩
      refine k p _ np (Same.put np) ⟨_, _, _, upd_same, ?_, Int.emod_nonneg _ (by decide), Int.emod_lt_of_pos _ (by decide), Int.le_refl _, Int.le_refl _⟩
      refine Int.mul_nonneg (Int.emod_nonneg _ (by decide +kernel)) (b01 _).2
end
end W
namespace W
open PySem L2 G24
/-! ### lists of ints as data -/
theorem lay_ints : ∀ l : List Int, PyData.canLayAll0 (l.map PyData.int) = true
  | [] => rfl
  | x :: l => by
    show (PyData.canLay0 (.int x) && PyData.canLayAll0 (l.map PyData.int)) = true
    rw [lay_ints l]; rfl
theorem dep_ints : ∀ l : List Int, PyData.depthAll (l.map PyData.int) ≤ 1
  | [] => by decide
  | x :: l => by
    show max (PyData.depth (.int x)) (PyData.depthAll (l.map PyData.int)) ≤ 1
    exact Nat.max_le.mpr ⟨by simp [PyData.depth], dep_ints l⟩
theorem shp_list (l : List Int) : SeqAt.shaped (.list (l.map PyData.int)) = true := by
  unfold SeqAt.shaped
  rw [Bool.and_eq_true_iff]
  exact ⟨lay_ints l, decide_eq_true (by show PyData.depthAll (l.map PyData.int) + 1 ≤ 64; have := dep_ints l; omega)⟩
theorem shp_tup (l : List Int) : SeqAt.shaped (.tuple (l.map PyData.int)) = true := by
  unfold SeqAt.shaped
  rw [Bool.and_eq_true_iff]
  exact ⟨lay_ints l, decide_eq_true (by show PyData.depthAll (l.map PyData.int) + 1 ≤ 64; have := dep_ints l; omega)⟩
theorem dp_ints {K : PySem.W.Frag} {H : Hp} : ∀ l : List Int, DpAll K H (l.map V.int) (l.map PyData.int)
  | [] => .nil
  | x :: l => .cons (.int x) (dp_ints l)
/-! ### two demands: what breaks at a smaller limit -/
section
variable {s s' : Int} {ls ls' : List Int} {r r' p p' : Nat} {b b' : Int}
/-- the limit that breaks n files -/
noncomputable def brk (s : Int) (ls : List Int) (n : Nat) : Int := lf (cost s ls) ls false (n + 1)
theorem brk_eq (s : Int) (ls : List Int) (n : Nat) : brk s ls n = ls.headD 0 + le (cost s ls) ls n := rfl
/-- the loss in a common period -/
def loss (p p' : Nat) (b b' : Int) : Int := p * b' - p' * b
theorem gap_shift (R : Rules s ls) (R' : Rules s' ls') (G : Reg (cost s ls) ls r p b) (G' : Reg (cost s' ls') ls' r' p' b') (n j : Nat) (h : r ≤ n) (h' : r' ≤ n) :
    brk s ls (n + j * (p * p')) - brk s' ls' (n + j * (p * p')) = brk s ls n - brk s' ls' n - j * loss p p' b b' := by
  have e1 := le_times R.ne G.step (j * p') n h
  have e2 := le_times R'.ne G'.step (j * p) n h'
  rw [show j * p' * p = j * (p * p') from by rw [Nat.mul_assoc, Nat.mul_comm p' p]] at e1
  rw [show j * p * p' = j * (p * p') from by rw [Nat.mul_assoc]] at e2
  rw [brk_eq, brk_eq, brk_eq, brk_eq, e1, e2]
  unfold loss
  have : ((j * p' : Nat) : Int) * b = j * (p' * b) := by rw [Int.natCast_mul, Int.mul_assoc]
  rw [this]
  have : ((j * p : Nat) : Int) * b' = j * (p * b') := by rw [Int.natCast_mul, Int.mul_assoc]
  rw [this, Int.mul_sub]
  omega
theorem gap_found (R : Rules s ls) (R' : Rules s' ls') (G : Reg (cost s ls) ls r p b) (G' : Reg (cost s' ls') ls' r' p' b') {n : Nat} (h : r ≤ n) (h' : r' ≤ n) (hl : 0 < loss p p' b b') (hg : 0 ≤ brk s ls n - brk s' ls' n) :
    ∃ m : Nat, (n : Int) + ((brk s ls n - brk s' ls' n) / loss p p' b b' + 1) * ((p : Int) * p') = m ∧ brk s ls m < brk s' ls' m := by
  generalize eg : brk s ls n - brk s' ls' n = g at hg
  generalize el : loss p p' b b' = l at hl
  have q0 : 0 ≤ g / l := Int.ediv_nonneg hg (by omega)
  refine ⟨n + (g / l + 1).toNat * (p * p'), ?_, ?_⟩
  · rw [Int.natCast_add, Int.natCast_mul, Int.natCast_mul, Int.toNat_of_nonneg (by omega)]
  · have e := gap_shift R R' G G' n (g / l + 1).toNat h h'
    rw [eg, el, Int.toNat_of_nonneg (by omega)] at e
    have m1 := Int.emod_lt_of_pos g hl
    have m2 := Int.emod_add_mul_ediv g l
    rw [Int.add_mul, Int.one_mul, Int.mul_comm (g / l) l] at e
    omega
theorem gap_all (R : Rules s ls) (R' : Rules s' ls') (G : Reg (cost s ls) ls r p b) (G' : Reg (cost s' ls') ls' r' p' b') {B : Nat} (h : r ≤ B) (h' : r' ≤ B) (hl : loss p p' b b' ≤ 0) (hg : ∀ n, n < B + p * p' → brk s' ls' n ≤ brk s ls n) :
    ∀ n, brk s' ls' n ≤ brk s ls n := by
  intro n
  have cp : 0 < p * p' := Nat.mul_pos G.pos G'.pos
  by_cases c : n < B
  · exact hg n (by omega)
  · have e := Nat.mod_add_div (n - B) (p * p')
    have lt := Nat.mod_lt (n - B) cp
    generalize (n - B) % (p * p') = k at e lt
    generalize (n - B) / (p * p') = j at e
    have en : n = B + k + j * (p * p') := by rw [Nat.mul_comm] at e; omega
    have g := gap_shift R R' G G' (B + k) j (by omega) (by omega)
    rw [← en] at g
    have hk := hg (B + k) (by omega)
    have : (j : Int) * loss p p' b b' ≤ 0 := Int.mul_nonpos_of_nonneg_of_nonpos (by omega) hl
    omega
end
/-- fewer lengths never break at a smaller limit -/
theorem brk_sub {s : Int} {ls ls' : List Int} (R : Rules s ls) (R' : Rules s ls') (hs : ∀ l ∈ ls', l ∈ ls) (n : Nat) : brk s ls n ≤ brk s ls' n := by
  rw [brk_eq, brk_eq]
  have h1 := le_sub (c := cost s ls) (c' := cost s ls') R'.ne hs (fun f hf l hl => cost_sub R R' hs hf hl) n
  have h2 : ls.headD 0 ≤ ls'.headD 0 := by
    have m := hs _ (head_mem R'.ne)
    have asc := R.asc
    revert m
    generalize ls'.headD 0 = x
    intro m
    cases ls with
    | nil => cases m
    | cons a q =>
      rcases List.mem_cons.mp m with e | e
      · rw [e]; exact Int.le_refl _
      · exact Int.le_of_lt ((List.pairwise_cons.mp asc).1 x e)
  omega
end W
namespace W
open PySem L2 G24
abbrev sForced : Stmt := inClass (top iDem) 2
abbrev sNums : Stmt := inClass (top iDem) 7
abbrev sGrow : Stmt := inClass (top iDem) 8
abbrev sFna : Stmt := inClass (top iDem) 9
abbrev sFa : Stmt := inClass (top iDem) 10
abbrev sEq : Stmt := inClass (top iDem) 12
section
variable {P : Program} {w : World} {K : PySem.W.Frag} {mg : Str → Option Value} {base : Heap} {CW CD : Addr}
/-! ### the property, growth, numbers_with -/
def spForced (K : PySem.W.Frag) (CW CD : Addr) : Sp := fun vs H Q _ => ∃ (d : Addr) (size : Int) (ls : List Int) (fo : Nat) (ho : Bool) (r per : Nat) (b : Int), vs = [.ref d] ∧ DemAt K CW CD H d size ls fo ho r per b ∧ Q (.int fo) H
theorem scForced : FnScope ["self"] ["self"] (defScope sForced) := ⟨rfl, rfl, rfl, by decide +kernel, rfl, by decide +kernel, by decide +kernel⟩
theorem ok_forced {fa : Addr} {fd : FuncData} (F : Fun K "forced" "Demand.forced" sForced fa fd) (T : KD K CD) : FnOk P w K mg base CX0 1 fa fd ["self"] (spForced K CW CD) := by
  refine F.ok scForced (fun vs H Q E h => ?_) (fun cdv A outer s H vs Q E hr h => ?_)
  · obtain ⟨d, size, ls, fo, ho, r, per, b, rfl, _⟩ := h
    rfl
  · obtain ⟨d, size, ls, fo, ho, r, per, b, rfl, D, k⟩ := h
    obtain ⟨dx, a, wp, hd, Wk⟩ := D.ex
    refine ⟨_, pss_one (ps_ret (pe_fld (pv 0) rfl)), ?_⟩
    exact ⟨_, rfl, d, CD, dx, _, _, rfl, hd, T.cl, T.forced, look_at (i := 1) (by decide +kernel) rfl, k⟩
def spGrow (K : PySem.W.Frag) (CW CD : Addr) : Sp := fun vs H Q _ => ∃ (d : Addr) (n : Nat) (size : Int) (ls : List Int) (fo : Nat) (ho : Bool) (r per : Nat) (b : Int), vs = [.ref d, .int n] ∧ DemAt K CW CD H d size ls fo ho r per b ∧ Q (.int ((n : Int) / per * b)) H
theorem scGrow : FnScope ["self", "files"] ["self", "files"] (defScope sGrow) := ⟨rfl, rfl, rfl, by decide +kernel, rfl, by decide +kernel, by decide +kernel⟩
theorem ok_grow {fa : Addr} {fd : FuncData} (F : Fun K "growth" "Demand.growth" sGrow fa fd) (T : KD K CD) (TW : KW K CW) : FnOk P w K mg base CX0 1 fa fd ["self", "files"] (spGrow K CW CD) := by
  refine F.ok scGrow (fun vs H Q E h => ?_) (fun cdv A outer s H vs Q E hr h => ?_)
  · obtain ⟨d, n, size, ls, fo, ho, r, per, b, rfl, _⟩ := h
    rfl
  · obtain ⟨d, n, size, ls, fo, ho, r, per, b, rfl, D, k⟩ := h
    obtain ⟨dx, a, wp, hd, Wk⟩ := D.ex
    obtain ⟨dxw, lw, cdw, rpw, rows, w1, w2, w3, w4, w5⟩ := id Wk.ex
    have pp := Wk.reg.pos
    have few := Wk.few
    obtain ⟨b0, b1⟩ := bytes_small Wk
    refine ⟨_, pss_one (ps_ret (pe_op op_mul (pe_op op_fdiv (pv 1) (pe_fld (pe_fld (pv 0) rfl) rfl)) (pe_fld (pe_fld (pv 0) rfl) rfl))), ?_⟩
    refine ⟨_, rfl, _, rfl, d, CD, dx, _, _, rfl, hd, T.cl, T.walks, look_at (i := 3) (by decide +kernel) rfl, wp, CW, dxw, _, _, rfl, w1, TW.cl, TW.period, look_at (i := 4) (by decide +kernel) rfl, _, _, rfl, rfl, ⟨by omega, by omega⟩, ?_⟩
    exact ⟨_, rfl, d, CD, dx, _, _, rfl, hd, T.cl, T.walks, look_at (i := 3) (by decide +kernel) rfl, wp, CW, dxw, _, _, rfl, w1, TW.cl, TW.bytes, look_at (i := 5) (by decide +kernel) rfl, _, _, rfl, rfl, .inr ⟨by omega, by omega⟩, k⟩
def spNums (K : PySem.W.Frag) (CW CD : Addr) : Sp := fun vs H Q _ => ∃ (d e : Addr) (size size' : Int) (ls ls' : List Int) (ho ho' : Bool) (r per r' per' : Nat) (b b' : Int), vs = [.ref d, .ref e] ∧ DemAt K CW CD H d size ls 0 ho r per b ∧ DemAt K CW CD H e size' ls' 0 ho' r' per' b' ∧
  ∀ (t : Addr) (H' : Hp) (B : Nat), Same H H' → H' t = some (.tup [.int B, .int ((per : Int) * per')]) → r < B → r' < B → B ≤ 5000001 → Q (.ref t) H'
theorem scNums : FnScope ["self", "other", "common", "begin", "one"] ["self", "other"] (defScope sNums) := ⟨rfl, rfl, rfl, by decide +kernel, rfl, by decide +kernel, by decide +kernel⟩
theorem ok_nums {fa fF : Addr} {fd fdF : FuncData} {p : Addr} (F : Fun K "numbers_with" "Demand.numbers_with" sNums fa fd) (B : Bi mg) (T : KD K CD) (TW : KW K CW) (PF : PropOf K CD "forced" p fF) (GF : FnOk P w K mg base CX0 1 fF fdF ["self"] (spForced K CW CD)) (bF : Binds K fdF ["self"] []) :
    FnOk P w K mg base CX0 3 fa fd ["self", "other"] (spNums K CW CD) := by
  refine F.ok scNums (fun vs H Q E h => ?_) (fun cdv A outer s H vs Q E hr h => ?_)
  · obtain ⟨d, e, size, size', ls, ls', ho, ho', r, per, r', per', b, b', rfl, _⟩ := h
    rfl
  · obtain ⟨d, e, size, size', ls, ls', ho, ho', r, per, r', per', b, b', rfl, D, D', k⟩ := h
    have nd := scNums.nd
    have hr2 : Room 2 _ := hr
    refine ⟨_, pss_cons (ps_set (i := 2) nd rfl (.inl rfl) (pe_op op_mul (pe_fld (pe_fld (pv 0) rfl) rfl) (pe_fld (pe_fld (pv 1) rfl) rfl)))
      (pss_cons (ps_set (i := 3) nd rfl (.inl rfl) (pe_op op_add (pe_callB (cr_max rfl) (by rfl) B.max PyProof.Rows.boot_max (pa_cons
        (pe_lc (own := [("one", 4)]) (g := gName 4) (tt := tYes) rfl nd (pi_tup (pe_tup (pa_cons (pv 0) (pa_cons (pv 1) pa_nil)))) (blkOk_by (own := [("one", 4)]) (N := ["self", "other", "common", "begin", "one"]) (sc := defScope sNums) (by decide +kernel))
          (fun _ _ _ _ _ => pg_name (i := 4) nd rfl (Or.inl rfl)) (fun _ _ _ _ _ => pts_nil)
          (fun _ _ _ _ _ => pe_op op_add (pe_fldK K (pe_fldK K (pv 4))) (pe_prop (pv 4) T.cl PF GF hr2 bF .nil pass0 rfl))) pa_nil)) pe_int))
      (pss_one (ps_ret (pe_tup (pa_cons (pv 3) (pa_cons (pv 2) pa_nil)))))), ?_⟩
    obtain ⟨dx, a, wp, hd, Wk⟩ := id D.ex
    obtain ⟨dxw, lw, cdw, rpw, rows, w1, _⟩ := id Wk.ex
    obtain ⟨dx', a', wp', hd', Wk'⟩ := id D'.ex
    obtain ⟨dxw', lw', cdw', rpw', rows', w1', _⟩ := id Wk'.ex
    have few := Wk.few
    have few' := Wk'.few
    have pp := Wk.reg.pos
    have pp' := Wk'.reg.pos
    refine ⟨_, rfl, d, CD, dx, _, _, rfl, hd, T.cl, T.walks, look_at (i := 3) (by decide +kernel) rfl, wp, CW, dxw, _, _, rfl, w1, TW.cl, TW.period, look_at (i := 4) (by decide +kernel) rfl, _, rfl, e, CD, dx', _, _, rfl, hd', T.cl, T.walks, look_at (i := 3) (by decide +kernel) rfl, wp', CW, dxw', _, _, rfl, w1', TW.cl, TW.period, look_at (i := 4) (by decide +kernel) rfl, _, _, rfl, rfl, .inr ⟨by omega, by omega⟩, ?_⟩
    refine ⟨_, rfl, _, rfl, by show 2 ≤ sizeLine; decide, fun t nt => ⟨t, rfl, ⟨_, SqT.of upd_same⟩, fun L nL => ?_⟩⟩
    have ht : upd H t (.tup [.ref d, .ref e]) t = some (.tup [.ref d, .ref e]) := upd_same
    have s1 : Same H (upd H t (.tup [.ref d, .ref e])) := Same.put nt
    generalize upd H t (.tup [.ref d, .ref e]) = H1 at ht s1 nL ⊢
    refine lc_tup (K := K) (a := t) (xs := [V.ref d, V.ref e]) (fun i H2 => Same H1 H2 ∧ H2 L = some (.lst ((([(r : Int), (r' : Int)] : List Int).take i).map V.int))) ⟨Same.put nL, upd_same⟩ (fun i H2 _ ⟨s2, _⟩ => SqT.of (s2 _ _ ht)) ?_ ?_
    · rintro i y H2 hi ⟨s2, hL⟩
      have s12 := s1.trans s2
      match i, hi with
      | 0, hi =>
        obtain rfl : V.ref d = y := Option.some.inj hi
        exact ⟨rfl, _, rfl, d, CD, dx, _, _, rfl, s12 _ _ hd, T.cl, T.walks, look_at (i := 3) (by decide +kernel) rfl, wp, CW, dxw, _, _, rfl, s12 _ _ w1, TW.cl, TW.from_, look_at (i := 3) (by decide +kernel) rfl, _, rfl, d, dx, _, rfl, s12 _ _ hd, d, size, ls, 0, ho, r, per, b, rfl, D.same s12, _, _, rfl, rfl, _, hL, by show 0 < sizeLine; decide, Same.wr nL s2, upd_same⟩
      | 1, hi =>
        obtain rfl : V.ref e = y := Option.some.inj hi
        exact ⟨rfl, _, rfl, e, CD, dx', _, _, rfl, s12 _ _ hd', T.cl, T.walks, look_at (i := 3) (by decide +kernel) rfl, wp', CW, dxw', _, _, rfl, s12 _ _ w1', TW.cl, TW.from_, look_at (i := 3) (by decide +kernel) rfl, _, rfl, e, dx', _, rfl, s12 _ _ hd', e, size', ls', 0, ho', r', per', b', rfl, D'.same s12, _, _, rfl, rfl, _, hL, by show 1 < sizeLine; decide, Same.wr nL s2, upd_same⟩
      | n + 2, hi => cases hi
    · rintro H2 ⟨s2, hL⟩
      refine ⟨L, [(r : Int), (r' : Int)], rfl, SqL.of hL, Nat.succ_pos _, fun m hm hm2 => ⟨_, _, rfl, rfl, ?_⟩⟩
      obtain ⟨M, rfl⟩ : ∃ M : Nat, m = M := by
        rcases List.mem_cons.mp hm with q | q
        · exact ⟨r, q⟩
        · exact ⟨r', List.mem_singleton.mp q⟩
      have m1 := hm2 r List.mem_cons_self
      have m2 := hm2 r' (List.mem_cons_of_mem _ List.mem_cons_self)
      have m3 : M ≤ 5000000 := by
        rcases List.mem_cons.mp hm with q | q
        · omega
        · have := List.mem_singleton.mp q; omega
      refine ⟨_, rfl, _, rfl, by show 2 ≤ sizeLine; decide, fun u nu => k u _ (M + 1) ((s1.trans s2).trans (Same.put nu)) upd_same (by omega) (by omega) (by omega)⟩
end
end W
namespace W
open PySem L2 G24
section
variable {P : Program} {w : World} {K : PySem.W.Frag} {mg : Str → Option Value} {base : Heap} {CW CD : Addr}
theorem iteDn {c A B : Prop} [Decidable c] (hc : ¬ c) (h : B) : if decide c = true then A else B := by rw [decide_eq_false hc]; exact iteF h
theorem iteD {c A B : Prop} [Decidable c] (hc : c) (h : A) : if decide c = true then A else B := by rw [decide_eq_true hc]; exact iteT h
/-- a demand without rotations by hand, its reader does not hold its file -/
def DA (K : PySem.W.Frag) (CW CD : Addr) (H : Hp) (d : Addr) (size : Int) (ls : List Int) : Prop := ∃ (r per : Nat) (b : Int), DemAt K CW CD H d size ls 0 false r per b
theorem DA.same {H H' : Hp} {d : Addr} {size : Int} {ls : List Int} (D : DA K CW CD H d size ls) (e : Same H H') : DA K CW CD H' d size ls := let ⟨r, per, b, h⟩ := D; ⟨r, per, b, h.same e⟩
def spFna (K : PySem.W.Frag) (CW CD : Addr) : Sp := fun vs H Q _ => ∃ (d e : Addr) (size size' : Int) (ls ls' : List Int), vs = [.ref d, .ref e] ∧ DA K CW CD H d size ls ∧ DA K CW CD H e size' ls' ∧
  ∀ H' : Hp, Same H H' → ((∀ n, brk size' ls' n ≤ brk size ls n) → Q .non H') ∧ (∀ n : Nat, brk size ls n < brk size' ls' n → Q (.int n) H')
theorem scFna : FnScope ["self", "other", "begin", "common", "loss", "found", "kept", "gap"] ["self", "other"] (defScope sFna) := ⟨rfl, rfl, rfl, by decide +kernel, rfl, by decide +kernel, by decide +kernel⟩
theorem ok_fna {fa fN fG fB : Addr} {fd fdN fdG fdB : FuncData} (F : Fun K "first_number_above" "Demand.first_number_above" sFna fa fd) (B : Bi mg) (T : KD K CD)
    (GN : FnOk P w K mg base CX0 3 fN fdN ["self", "other"] (spNums K CW CD)) (mN : Mt K CD "numbers_with" fN fdN ["self", "other"]) (GG : FnOk P w K mg base CX0 1 fG fdG ["self", "files"] (spGrow K CW CD)) (mG : Mt K CD "growth" fG fdG ["self", "files"])
    (GB : FnOk P w K mg base CX0 4 fB fdB ["self", "kept"] (spBreak K CW CD)) (mB : Mt K CD "breaking_limit" fB fdB ["self", "kept"]) : FnOk P w K mg base CX0 5 fa fd ["self", "other"] (spFna K CW CD) := by
  refine F.ok scFna (fun vs H Q E h => ?_) (fun cdv A outer s H vs Q E hr h => ?_)
  · obtain ⟨d, e, size, size', ls, ls', rfl, _⟩ := h
    rfl
  · obtain ⟨d, e, size, size', ls, ls', rfl, ⟨r, per, b, D⟩, ⟨r', per', b', D'⟩, k⟩ := h
    have nd := scFna.nd
    have r1 : Room 1 _ := hr.mono (by decide)
    have r3 : Room 3 _ := hr.mono (by decide)
    refine ⟨_, pss_cons (ps_asg (pe_meth (pv 0) T.cl mN.mt GN r3 mN.b .nil pass0 (pa_cons (pv 1) pa_nil)) (pg_tup (by rfl) (pgs_cons (pg_name (i := 2) nd rfl (.inl rfl)) (pgs_cons (pg_name (i := 3) nd rfl (.inl rfl)) pgs_nil))))
      (pss_cons (ps_set (i := 4) nd rfl (.inl rfl) (pe_op op_sub (pe_meth (pv 1) T.cl mG.mt GG r1 mG.b .nil pass0 (pa_cons (pv 3) pa_nil)) (pe_meth (pv 0) T.cl mG.mt GG r1 mG.b .nil pass0 (pa_cons (pv 3) pa_nil))))
      (pss_cons (ps_set (i := 5) nd rfl (.inl rfl) (pe_lst pa_nil))
      (pss_cons (ps_for PassesOwn.never rfl (pi_range1 (by rfl) B.range (pa_cons (pe_op op_add (pv 2) (pv 3)) pa_nil)) (pg_name (i := 6) nd rfl (.inl rfl))
        (pss_cons (ps_set (i := 7) nd rfl (.inl rfl) (pe_op op_sub (pe_meth (pv 0) T.cl mB.mt GB hr mB.b .nil pass0 (pa_cons (pv 6) pa_nil)) (pe_meth (pv 1) T.cl mB.mt GB hr mB.b .nil pass0 (pa_cons (pv 6) pa_nil))))
        (pss_cons (ps_if (pt_cmpR op_lt (pv 7) pe_int (nomark _)) (pss_one (ps_ret (pv 6))) pss_nil)
        (pss_one (ps_if (pw_and (pt_cmpR op_ge (pv 6) (pv 2) (nomark _)) (pw_and1 (pt_cmpR op_gt (pv 4) pe_int (nomark _)))).pt
          (pss_one (ps_expr (pe_bm PySem.F.plainAttrs_list PySem.F.slot_list_append PySem.F.type_list_append mt_append (pv 5) (pa_cons (pe_op op_add (pv 6) (pe_op op_mul (pe_op op_add (pe_op op_fdivW (pv 7) (pv 4)) pe_int) (pv 3))) pa_nil)))) pss_nil)))))
      (pss_one (ps_ret (pe_ifExp (pt_cmpR (op_neD hr.units) (pv 5) (pe_lst pa_nil) (nomark _)) (pe_callB (cr_min rfl) (by rfl) B.min PyProof.Rows.boot_min (pa_cons (pv 5) pa_nil)) pe_non)))))), ?_⟩
    obtain ⟨dx, a, wp, hd, Wk⟩ := id D.ex
    obtain ⟨dx', a', wp', hd', Wk'⟩ := id D'.ex
    have R := Wk.rules
    have R' := Wk'.rules
    have pp := Wk.reg.pos
    have pp' := Wk'.reg.pos
    have sh := Wk.reg.short R Wk.l6
    have sh' := Wk'.reg.short R' Wk'.l6
    obtain ⟨b0, b1⟩ := bytes_small Wk
    obtain ⟨b0', b1'⟩ := bytes_small Wk'
    -- begin, common
    refine ⟨_, rfl, d, dx, _, rfl, hd, look_no (by decide +kernel), _, rfl, d, e, size, size', ls, ls', false, false, r, per, r', per', b, b', rfl, D, D', fun t H1 M s1 ht rM rM' M5 => ?_⟩
    have cc : per * per' ≤ 60 * 60 := Nat.mul_le_mul sh sh'
    have c1 : 0 < per * per' := Nat.mul_pos pp pp'
    refine ⟨t, _, rfl, SqT.of ht, rfl, _, _, rfl, _, _, rfl, rfl, ?_⟩
    -- loss
    refine ⟨_, rfl, e, dx', _, rfl, s1 _ _ hd', look_no (by decide +kernel), _, rfl, e, per * per', size', ls', 0, false, r', per', b', rfl, D'.same s1, _, rfl, d, dx, _, rfl, s1 _ _ hd, look_no (by decide +kernel), _, rfl, d, per * per', size, ls, 0, false, r, per, b, rfl, D.same s1, _, _, rfl, rfl, ?_⟩
    have eL : ((per * per' : Nat) : Int) / per' * b' - ((per * per' : Nat) : Int) / per * b = loss per per' b b' := by
      unfold loss
      rw [← Int.natCast_ediv, ← Int.natCast_ediv, Nat.mul_div_cancel _ pp', Nat.mul_comm per per', Nat.mul_div_cancel _ pp]
    have lossB : loss per per' b b' < 2 ^ 63 := by
      unfold loss
      have h1 : (per : Int) * b' ≤ 60 * 500000000 := Int.mul_le_mul (by omega) b1' b0' (by decide)
      have h2 : 0 ≤ (per' : Int) * b := Int.mul_nonneg (by omega) b0
      omega
    have fnd : ∀ n : Nat, M ≤ n → 0 < loss per per' b b' → 0 ≤ brk size ls n - brk size' ls' n → ∃ m : Nat, (n : Int) + ((brk size ls n - brk size' ls' n) / loss per per' b b' + 1) * ((per : Int) * per') = m ∧ brk size ls m < brk size' ls' m :=
      fun n h1 h2 h3 => gap_found R R' Wk.reg Wk'.reg (by omega) (by omega) h2 h3
    have all : loss per per' b b' ≤ 0 → (∀ n, n < M + per * per' → brk size' ls' n ≤ brk size ls n) → ∀ n, brk size' ls' n ≤ brk size ls n := fun h1 h2 => gap_all R R' Wk.reg Wk'.reg (by omega) (by omega) h1 h2
    generalize loss per per' b b' = L at eL lossB fnd all
    -- found
    refine ⟨by show 0 ≤ sizeLine; exact Nat.zero_le _, fun fl nfl => ?_⟩
    have s2 : Same H (upd H1 fl (.lst [])) := s1.trans (Same.put nfl)
    have nfH : H fl = none := s1.free nfl
    have eC : ((per * per' : Nat) : Int) = (per : Int) * per' := Int.natCast_mul _ _
    refine ⟨_, rfl, _, rfl, _, _, rfl, rfl, (M : Int) + ((per : Int) * per'), rfl, by omega, by omega, ?_⟩
    have eN : ((M : Int) + (per : Int) * per').toNat = M + per * per' := by omega
    refine for_range (lo := 0) (n := ((M : Int) + (per : Int) * per').toNat) (fun i σ H2 => ∃ (v6 v7 : Option V) (fs : List Int), σ = [some (.ref d), some (.ref e), some (.int M), some (.int ((per : Int) * per')), some (.int L), some (.ref fl), v6, v7] ∧ Same H H2 ∧ H2 fl = some (.lst (fs.map V.int)) ∧
        (∀ j, j < i → brk size' ls' j ≤ brk size ls j) ∧ (∀ x ∈ fs, ∃ m : Nat, x = m ∧ brk size ls m < brk size' ls' m) ∧ fs.length ≤ i - M ∧ (0 < L → M < i → fs ≠ []))
      ⟨none, none, [], by rw [← eL]; rfl, s2, upd_same, (fun j h => absurd h (Nat.not_lt_zero _)), (fun x h => by cases h), Nat.zero_le _, (fun _ h => absurd h (Nat.not_lt_zero _))⟩ ?_ ?_
    · rintro i σ H2 hi ⟨v6, v7, fs, rfl, s3, hf, g1, g2, g3, g4⟩
      have hi' : i < M + per * per' := by omega
      refine ⟨_, rfl, d, dx, _, rfl, s3 _ _ hd, look_no (by decide +kernel), _, rfl, d, i, size, ls, 0, false, r, per, b, by show [V.ref d, V.int (0 + (i : Int))] = _; rw [Int.zero_add], D.same s3, fun H3 s4 => ⟨_, rfl, e, dx', _, rfl, (s3.trans s4) _ _ hd', look_no (by decide +kernel), _, rfl, e, i, size', ls', 0, false, r', per', b', by show [V.ref e, V.int (0 + (i : Int))] = _; rw [Int.zero_add], D'.same (s3.trans s4), fun H4 s5 => ⟨_, _, rfl, rfl, ?_⟩⟩⟩
      have s35 := (s3.trans s4).trans s5
      have hf4 := s5 _ _ (s4 _ _ hf)
      refine ⟨_, rfl, _, _, rfl, rfl, _, rfl, ?_⟩
      by_cases c : brk size ls i - brk size' ls' i < 0
      · refine iteD c ⟨_, rfl, ?_⟩
        have := (k H4 s35).2 i (by omega)
        rw [← Int.zero_add (i : Int)] at this
        exact this
      · refine iteDn c ⟨_, rfl, _, rfl, _, _, rfl, rfl, _, rfl, ?_⟩
        have g1' : ∀ j, j < i + 1 → brk size' ls' j ≤ brk size ls j := fun j hj => by
          by_cases q : j = i
          · subst q; omega
          · exact g1 j (by omega)
        by_cases c2 : (0 : Int) + i ≥ M
        · refine iteD c2 ⟨_, rfl, _, _, rfl, rfl, _, rfl, ?_⟩
          by_cases c3 : L > 0
          · refine iteD c3 ⟨_, rfl, .inl ⟨rfl, _, SqL.of hf4⟩, _, rfl, _, rfl, _, rfl, _, _, rfl, rfl, wide_div (b := 63) c3 (by omega) (by decide) (by decide), _, _, rfl, rfl, _, rfl, _, _, rfl, rfl, .inr ⟨by omega, by omega⟩, _, _, rfl, rfl, fl, _, _, rfl, rfl, hf4, by rw [List.length_map]; have := line_big; omega, ?_⟩
            obtain ⟨m, em, hm⟩ := fnd i (by omega) c3 (by omega)
            refine ⟨_, _, fs ++ [0 + (i : Int) + ((brk size ls i - brk size' ls' i) / L + 1) * ((per : Int) * per')], rfl, Same.wr nfH s35, by rw [upd_same, List.map_append]; rfl, g1', fun x hx => ?_, by rw [List.length_append, List.length_singleton]; omega, fun _ _ q => by simp at q⟩
            rcases List.mem_append.mp hx with hx | hx
            · exact g2 x hx
            · rw [List.mem_singleton.mp hx, Int.zero_add]
              exact ⟨m, em, hm⟩
          · refine iteDn c3 ?_
            exact ⟨_, _, fs, rfl, s35, hf4, g1', g2, by omega, fun q => absurd q c3⟩
        · refine iteDn c2 ?_
          exact ⟨_, _, fs, rfl, s35, hf4, g1', g2, by omega, fun _ q => absurd (show (0 : Int) + i ≥ M by omega) c2⟩
    · rintro σ H2 ⟨v6, v7, fs, rfl, s3, hf, g1, g2, g3, g4⟩
      rw [eN] at g1 g3 g4
      refine ⟨_, rfl, by show 0 ≤ sizeLine; exact Nat.zero_le _, fun q nq => ⟨_, _, .lst (SqL.of ((Same.put nq) _ _ hf)) (dp_ints fs), .lst (xs := []) (ds := []) (SqL.of upd_same) .nil, shp_list fs, rfl, _, rfl, ?_⟩⟩
      cases fs with
      | nil =>
        refine iteF ((k _ (s3.trans (Same.put nq))).1 (all ?_ g1))
        rcases Int.lt_or_le 0 L with q | q
        · exact absurd rfl (g4 q (by omega))
        · exact q
      | cons y fs =>
        refine iteT ⟨_, rfl, fl, y :: fs, rfl, SqL.of ((Same.put nq) _ _ hf), Nat.succ_pos _, fun m hm _ => ?_⟩
        obtain ⟨n, rfl, hn⟩ := g2 m hm
        exact (k _ (s3.trans (Same.put nq))).2 n hn
end
end W
namespace W
open PySem L2 G24
/-- x == y, two instances of C whose class says what is equal -/
def rEqO (C : Addr) (sp : Sp) (E : XK) : R2 := fun x y H Q => ∃ a b dx dy fs gs, x = .ref a ∧ y = .ref b ∧ H a = some (.ins C dx fs) ∧ H b = some (.ins C dy gs) ∧ sp [.ref a, .ref b] H (fun z H' => ∃ c, z = .bl c ∧ Q (.bl c) H') E
theorem op_eqO {X : Cx} {CX : CXT} {C f : Addr} {fd : FuncData} {ps : List Str} {n : Nat} {E : XK} {sp : Sp} (F : FnOk X.prog X.w X.K X.mg X.base CX n f fd ps sp) (at_ : PySem.W.findIn X.K (.ref C) "__eq__" = some (some (.ref f)))
    (fn : PySem.W.isFn X.K (.ref f) = true) (hb : Binds X.K fd ps []) (hx : Passes CX X E) (hr : Room n X.A) : OpR X (compareOp .Eq) (rEqO C sp E) := by
  rintro pins s σ H x y v u Q I rx ry ⟨a, b, dx, dy, fs, gs, rfl, rfl, ga, gb, h⟩
  cases rx
  cases ry
  obtain ⟨_, oa, _⟩ := ins_get I.hok ga
  obtain ⟨_, ob, _⟩ := ins_get I.hok gb
  obtain ⟨_, la, _⟩ := oa.look
  obtain ⟨_, lb, _⟩ := ob.look
  obtain ⟨m, fr⟩ := I.fr
  refine PySem.W.cmp_K (op := .Eq) (tb := .ref C) hr.units0 fr I.ok.mod.kin la lb.type (by simp [PySem.W.notFirst]) at_ fn ?_
  refine wpAny_mono (run_fn (us := [.ref a, .ref b]) (vs := [.ref a, .ref b]) F hr hb .nil hx I (.cons rfl (.cons rfl .nil)) h) (fun u s' q => ?_) fun _ _ q => q
  obtain ⟨z, H', J, rz, c, rfl, q⟩ := q
  cases rz
  exact ⟨.bl c, H', J, rfl, q⟩
section
variable {P : Program} {w : World} {K : PySem.W.Frag} {mg : Str → Option Value} {base : Heap} {CW CD : Addr}
def spFa (K : PySem.W.Frag) (CW CD : Addr) : Sp := fun vs H Q _ => ∃ (d e : Addr) (size size' : Int) (ls ls' : List Int), vs = [.ref d, .ref e] ∧ DA K CW CD H d size ls ∧ DA K CW CD H e size' ls' ∧
  ∀ H' : Hp, Same H H' → ((∀ n, brk size' ls' n ≤ brk size ls n) → Q .non H') ∧ (∀ n : Nat, brk size ls n < brk size' ls' n → Q (.int (brk size ls n)) H')
theorem scFa : FnScope ["self", "other", "kept"] ["self", "other"] (defScope sFa) := ⟨rfl, rfl, rfl, by decide +kernel, rfl, by decide +kernel, by decide +kernel⟩
theorem ok_fa {fa fN fB : Addr} {fd fdN fdB : FuncData} (F : Fun K "first_above" "Demand.first_above" sFa fa fd) (T : KD K CD)
    (GN : FnOk P w K mg base CX0 5 fN fdN ["self", "other"] (spFna K CW CD)) (mN : Mt K CD "first_number_above" fN fdN ["self", "other"])
    (GB : FnOk P w K mg base CX0 4 fB fdB ["self", "kept"] (spBreak K CW CD)) (mB : Mt K CD "breaking_limit" fB fdB ["self", "kept"]) : FnOk P w K mg base CX0 6 fa fd ["self", "other"] (spFa K CW CD) := by
  refine F.ok scFa (fun vs H Q E h => ?_) (fun cdv A outer s H vs Q E hr h => ?_)
  · obtain ⟨d, e, size, size', ls, ls', rfl, _⟩ := h
    rfl
  · obtain ⟨d, e, size, size', ls, ls', rfl, D, D', k⟩ := h
    have nd := scFa.nd
    have r4 : Room 4 _ := hr.mono (by decide)
    refine ⟨_, pss_cons (ps_set (i := 2) nd rfl (.inl rfl) (pe_meth (pv 0) T.cl mN.mt GN hr mN.b .nil pass0 (pa_cons (pv 1) pa_nil)))
      (pss_one (ps_ret (pe_ifExp (pt_cmp (pc_isN (pv 2))) pe_non (pe_meth (pv 0) T.cl mB.mt GB r4 mB.b .nil pass0 (pa_cons (pv 2) pa_nil))))), ?_⟩
    obtain ⟨r, per, b, DD⟩ := id D
    obtain ⟨dx, a, wp, hd, Wk⟩ := id DD.ex
    refine ⟨_, rfl, d, dx, _, rfl, hd, look_no (by decide +kernel), _, rfl, d, e, size, size', ls, ls', rfl, D, D', fun H1 s1 => ⟨fun al => ?_, fun n hn => ?_⟩⟩
    · exact ⟨_, rfl, _, rfl, iteD rfl ((k H1 s1).1 al)⟩
    · exact ⟨_, rfl, _, rfl, iteDn (fun q => by cases q) ⟨_, rfl, d, dx, _, rfl, s1 _ _ hd, look_no (by decide +kernel), _, rfl, d, n, size, ls, 0, false, r, per, b, rfl, DD.same s1, fun H2 s2 => (k H2 (s1.trans s2)).2 n hn⟩⟩
def spEqD (K : PySem.W.Frag) (CW CD : Addr) : Sp := fun vs H Q _ => ∃ (d e : Addr) (size size' : Int) (ls ls' : List Int), vs = [.ref d, .ref e] ∧ DA K CW CD H d size ls ∧ DA K CW CD H e size' ls' ∧
  ∀ H' : Hp, Same H H' → ((∀ n, brk size' ls' n = brk size ls n) → Q (.bl true) H') ∧ (∀ n : Nat, brk size ls n ≠ brk size' ls' n → Q (.bl false) H')
theorem scEq : FnScope ["self", "other"] ["self", "other"] (defScope sEq) := ⟨rfl, rfl, rfl, by decide +kernel, rfl, by decide +kernel, by decide +kernel⟩
theorem ok_eq {fa fN : Addr} {fd fdN : FuncData} (F : Fun K "__eq__" "Demand.__eq__" sEq fa fd) (T : KD K CD) (IC : C8.InsC K CD) (mD : mg "Demand" = some (.ref CD)) (mI : mg "isinstance" = none)
    (GN : FnOk P w K mg base CX0 5 fN fdN ["self", "other"] (spFna K CW CD)) (mN : Mt K CD "first_number_above" fN fdN ["self", "other"]) : FnOk P w K mg base CX0 6 fa fd ["self", "other"] (spEqD K CW CD) := by
  refine F.ok scEq (fun vs H Q E h => ?_) (fun cdv A outer s H vs Q E hr h => ?_)
  · obtain ⟨d, e, size, size', ls, ls', rfl, _⟩ := h
    rfl
  · obtain ⟨d, e, size, size', ls, ls', rfl, D, D', k⟩ := h
    refine ⟨_, pss_cons (ps_if (pt_not (pt_val (pe_callB (C8.call_isC IC) (by rfl) mI PyProof.Rows.boot_isinstance (pa_cons (pv 1) (pa_cons (C8.pe_gc (v := .ref CD) (by rfl) ⟨_, mD, rfl⟩) pa_nil))))) (pss_one (ps_ret pe_bl)) pss_nil)
      (pss_one (ps_ret (pe_and (pe_cmp (pc_isN (pe_meth (pv 0) T.cl mN.mt GN hr mN.b .nil pass0 (pa_cons (pv 1) pa_nil)))) (pe_one (pe_cmp (pc_isN (pe_meth (pv 1) T.cl mN.mt GN hr mN.b .nil pass0 (pa_cons (pv 0) pa_nil)))))))), ?_⟩
    obtain ⟨r, per, b, DD⟩ := id D
    obtain ⟨dx, a, wp, hd, Wk⟩ := id DD.ex
    obtain ⟨r', per', b', DD'⟩ := id D'
    obtain ⟨dx', a', wp', hd', Wk'⟩ := id DD'.ex
    refine ⟨_, rfl, e, dx', _, rfl, hd', _, rfl, iteF ?_⟩
    refine ⟨_, rfl, d, dx, _, rfl, hd, look_no (by decide +kernel), _, rfl, d, e, size, size', ls, ls', rfl, D, D', fun H1 s1 => ⟨fun al => ?_, fun n hn => ?_⟩⟩
    · refine ⟨_, rfl, iteD rfl ⟨_, rfl, e, dx', _, rfl, s1 _ _ hd', look_no (by decide +kernel), _, rfl, e, d, size', size, ls', ls, rfl, D'.same s1, D.same s1, fun H2 s2 => ⟨fun al' => ?_, fun n hn => ?_⟩⟩⟩
      · exact (k H2 (s1.trans s2)).1 fun n => Int.le_antisymm (al n) (al' n)
      · exact (k H2 (s1.trans s2)).2 n (fun q => by rw [q] at hn; exact Int.lt_irrefl _ hn)
    · refine ⟨_, rfl, iteDn (fun q => by cases q) ((k H1 s1).2 n (fun q => by rw [q] at hn; exact Int.lt_irrefl _ hn))⟩
end
end W
namespace W
open PySem L2 G24
abbrev sNl : Stmt := top 14
/-- all lengths but one -/
def oth (ls : List Int) (x : Int) : List Int := ls.filter fun y => decide (y ≠ x)
theorem oth_take {ls : List Int} {x z : Int} {i : Nat} (hz : ls[i]? = some z) : oth (ls.take (i + 1)) x = if z = x then oth (ls.take i) x else oth (ls.take i) x ++ [z] := by
  unfold oth
  rw [List.take_add_one, hz, List.filter_append]
  by_cases h : z = x
  · rw [if_pos h]; subst h; simp
  · rw [if_neg h]; simp [h]
theorem iteS {c A B : Prop} [Decidable c] (hc : ¬ c) (h : A) : if (!decide c) = true then A else B := by rw [decide_eq_false hc]; exact iteT h
theorem oth_rules {size : Int} {ls : List Int} (R : Rules size ls) (h1 : ls.length ≠ 1) (x : Int) : Rules size (oth ls x) where
  ne := by
    intro e
    have all : ∀ y ∈ ls, y = x := fun y hy => by
      by_cases q : y = x
      · exact q
      · have : y ∈ oth ls x := List.mem_filter.mpr ⟨hy, decide_eq_true q⟩
        rw [e] at this; cases this
    match ls, R.ne, R.asc, h1, all with
    | [a], _, _, h1, _ => exact h1 rfl
    | a :: b :: r, _, asc, _, all =>
      have := (List.pairwise_cons.mp asc).1 b List.mem_cons_self
      have := all a List.mem_cons_self
      have := all b (List.mem_cons_of_mem _ List.mem_cons_self)
      omega
  asc := R.asc.filter _
  lo := fun l hl => R.lo l ((List.mem_filter.mp hl).1)
  hi := fun l hl => R.hi l ((List.mem_filter.mp hl).1)
theorem oth_len (ls : List Int) (x : Int) : (oth ls x).length ≤ ls.length := List.length_filter_le _ _
theorem oth_sub {ls : List Int} {x l : Int} (h : l ∈ oth ls x) : l ∈ ls := (List.mem_filter.mp h).1
/-- without x all stays the same -/
def Sm (size : Int) (ls : List Int) (x : Int) : Prop := ∀ n, brk size ls n = brk size (oth ls x) n
open Classical in
/-- the lengths without which all stays the same -/
noncomputable def due (size : Int) (ls rs : List Int) : List Int := rs.filter fun x => decide (Sm size ls x)
theorem due_take {size : Int} {ls : List Int} {z : Int} {i : Nat} (hz : ls[i]? = some z) : (Sm size ls z → due size ls (ls.take (i + 1)) = due size ls (ls.take i) ++ [z]) ∧ (¬ Sm size ls z → due size ls (ls.take (i + 1)) = due size ls (ls.take i)) := by
  unfold due
  rw [List.take_add_one, hz, List.filter_append]
  exact ⟨fun h => by simp [h], fun h => by simp [h]⟩
theorem due_len (size : Int) (ls rs : List Int) : (due size ls rs).length ≤ rs.length := List.length_filter_le _ _
theorem SqT.but2 {K : PySem.W.Frag} {p a : Addr} {xs ys : List V} {H H' : Hp} (hp : H p = some (.lst ys)) (e : But p H H') (h : SqT K H a xs) : SqT K H' a xs := by
  rcases h with (h | ⟨o, h⟩) | h
  · exact .inl (.inl (e _ _ (ne_of h hp (by intro z; cases z)) h))
  · exact .inl (.inr ⟨o, e _ _ (ne_of h hp (by intro z; cases z)) h⟩)
  · exact .inr h
/-- a list of ints elsewhere may change -/
theorem DemAt.but {K : PySem.W.Frag} {CW CD : Addr} {H H' : Hp} {p d : Addr} {is : List Int} {size : Int} {ls : List Int} {fo : Nat} {ho : Bool} {r per : Nat} {b : Int} (hp : H p = some (.lst (is.map V.int))) (e : But p H H') (D : DemAt K CW CD H d size ls fo ho r per b) : DemAt K CW CD H' d size ls fo ho r per b := by
  obtain ⟨dx, a, wp, h1, W⟩ := D.ex
  obtain ⟨dxw, lw, cdw, rpw, rows, w1, w2, w3, w4, w5⟩ := W.ex
  refine ⟨dx, a, wp, e _ _ (ne_of h1 hp (by intro z; cases z)) h1, ⟨⟨dxw, lw, cdw, rpw, rows, e _ _ (ne_of w1 hp (by intro z; cases z)) w1, SqT.but2 hp e w2, e _ _ (ne_of w3 hp ?_) w3, w4, fun i q hq => e _ _ (ne_of (w5 i q hq) hp (by intro z; cases z)) (w5 i q hq)⟩, W.reg, W.rules, W.few, W.s100, W.l6⟩⟩
  intro z
  cases rows with
  | nil => cases w4
  | cons q rows =>
    cases is with
    | nil => cases z
    | cons i is => cases z
/-- rules of at most five lengths -/
structure Bk (K : PySem.W.Frag) (H : Hp) (a : Addr) (size : Int) (ls : List Int) : Prop where
  at_ : RulesAt K H a size ls
  rules : Rules size ls
  s100 : size ≤ 100
  l5 : ls.length ≤ 5
theorem Bk.book {K : PySem.W.Frag} {H : Hp} {a : Addr} {size : Int} {ls : List Int} (S : Bk K H a size ls) : Book K H a size ls := ⟨S.at_, S.rules, S.s100, by have := S.l5; omega, few_big S.s100 S.l5⟩
theorem Bk.same {K : PySem.W.Frag} {H H' : Hp} {a : Addr} {size : Int} {ls : List Int} (S : Bk K H a size ls) (e : Same H H') : Bk K H' a size ls := ⟨S.at_.same e, S.rules, S.s100, S.l5⟩
section
variable {P : Program} {w : World} {K : PySem.W.Frag} {mg : Str → Option Value} {base : Heap} {CW CD fD fCall fBrk fE : Addr} {fdD fdCall fdBrk fdE : FuncData}
def spNl (K : PySem.W.Frag) : Sp := fun vs H Q _ => ∃ (a : Addr) (size : Int) (ls : List Int), vs = [.ref a] ∧ Bk K H a size ls ∧
  ∀ (t : Addr) (H' : Hp), Same H H' → SqT K H' t ((if ls.length = 1 then [] else due size ls ls).map V.int) → Q (.ref t) H'
theorem scNl : FnScope ["rules", "size", "lengths", "found", "whole", "one", "others", "other"] ["rules"] (defScope sNl) := ⟨rfl, rfl, rfl, by decide +kernel, rfl, by decide +kernel, by decide +kernel⟩
theorem ok_nl {fa : Addr} {fd : FuncData} (F : Fun K "needless" "needless" sNl fa fd) (B : Bi mg) (L : Lib P w K mg base CW CD fD fCall fBrk fdD fdCall fdBrk)
    (GE : FnOk P w K mg base CX0 6 fE fdE ["self", "other"] (spEqD K CW CD)) (mE : Mt K CD "__eq__" fE fdE ["self", "other"]) : FnOk P w K mg base CX0 7 fa fd ["rules"] (spNl K) := by
  refine F.ok scNl (fun vs H Q E h => ?_) (fun cdv A outer s H vs Q E hr h => ?_)
  · obtain ⟨a, size, ls, rfl, _⟩ := h
    rfl
  · obtain ⟨a, size, ls, rfl, S, k⟩ := h
    have nd := scNl.nd
    obtain ⟨dD, vD, bD⟩ := L.kD.none_
    refine ⟨_, pss_cons (ps_asg (pv 0) (pg_tup (by rfl) (pgs_cons (pg_name (i := 1) nd rfl (.inl rfl)) (pgs_cons (pg_name (i := 2) nd rfl (.inl rfl)) pgs_nil))))
      (pss_cons (ps_if (pt_cmpR op_eq (pe_callB call_len_seq (by rfl) B.len PySem.boot_len (pa_cons (pv 2) pa_nil)) pe_int (nomark _)) (pss_one (ps_ret (pe_tup pa_nil))) pss_nil)
      (pss_cons (ps_par (i := 3) (j := 4) (by rfl) nd rfl rfl (by decide) rfl rfl (pa_cons (pe_lst pa_nil) (pa_cons (pe_make L.MD L.GD hr (by rfl) L.mD bD vD pass0 (pa_cons (pv 0) pa_nil)) pa_nil)) (by rfl))
      (pss_cons (ps_for PassesOwn.never rfl (pi_tup (pv 2)) (pg_name (i := 5) nd rfl (.inr rfl))
        (pss_cons (ps_set (i := 6) nd rfl (.inl rfl) (pe_callTy call_tuple_of (by rfl) B.tuple (by decide +kernel) (pa_cons
          (pe_lc (own := [("other", 7)]) (g := gName 7) rfl nd (pi_tup (pv 2)) (blkOk_by (own := [("other", 7)]) (N := ["rules", "size", "lengths", "found", "whole", "one", "others", "other"]) (sc := defScope sNl) (by decide +kernel))
            (fun _ _ _ _ _ => pg_name (i := 7) nd rfl (Or.inl rfl)) (fun _ _ _ _ _ => pts_one (pt_cmpR op_ne (pv 7) (pv 5) (nomark _))) (fun _ _ _ _ _ => pv 7)) pa_nil)))
        (pss_one (ps_if (pt_cmpR (op_eqO (C := CD) GE mE.mt.at_ mE.mt.fn mE.b pass0 hr) (pe_make L.MD L.GD hr (by rfl) L.mD bD vD pass0 (pa_cons (pe_tup (pa_cons (pv 1) (pa_cons (pv 6) pa_nil))) pa_nil)) (pv 4) (nomark _))
          (pss_one (ps_expr (pe_bm PySem.F.plainAttrs_list PySem.F.slot_list_append PySem.F.type_list_append mt_append (pv 3) (pa_cons (pv 5) pa_nil)))) pss_nil))))
      (pss_one (ps_ret (pe_callTy call_tuple_of (by rfl) B.tuple (by decide +kernel) (pa_cons (pv 3) pa_nil))))))), ?_⟩
    have R := S.rules
    obtain ⟨l, ra, rl⟩ := S.at_
    refine ⟨_, rfl, a, _, rfl, ra, rfl, _, _, rfl, _, _, rfl, rfl, ?_⟩
    refine ⟨_, rfl, l, _, rfl, .inr rl, rfl, _, rfl, ?_⟩
    rw [List.length_map]
    by_cases h1 : ls.length = 1
    · refine iteD (congrArg V.int (by omega)) ⟨by show 0 ≤ sizeLine; exact Nat.zero_le _, fun t nt => k t _ (Same.put nt) ?_⟩
      rw [if_pos h1]
      exact SqT.of upd_same
    refine iteDn (fun q => h1 (by injection q with q; omega)) ?_
    -- found, whole
    refine ⟨by show 0 ≤ sizeLine; exact Nat.zero_le _, fun fl nfl => ⟨_, rfl, fun x dx nx ndx nex => ⟨x, dx, a, size, ls, 0, false, rfl, upd_same, (S.same ((Same.put nfl).trans (Same.made1 nx ndx))).book, fun H1 r per b e1 D => ⟨rfl, _, _, rfl, ?_⟩⟩⟩⟩
    have sm := Same.make nx ndx e1
    have s1 : Same H H1 := (Same.put nfl).trans sm
    have hf1 : H1 fl = some (.lst []) := sm _ _ upd_same
    refine ⟨_, rfl, l, rfl, ⟨_, SqT.same s1 rl⟩, ?_⟩
    refine for_tup (K := K) (a := l) (xs := ls.map V.int) (fun i σ H2 => ∃ v5 v6 v7 : Option V, σ = [some (.ref a), some (.int size), some (.ref l), some (.ref fl), some (.ref x), v5, v6, v7] ∧ Same H H2 ∧ DA K CW CD H2 x size ls ∧ H2 fl = some (.lst ((due size ls (ls.take i)).map V.int)))
      ⟨none, none, none, rfl, s1, ⟨r, per, b, D⟩, hf1⟩ (fun i σ H2 _ ⟨_, _, _, _, s2, _⟩ => SqT.same s2 rl) ?_ ?_
    · rintro i y σ H2 hi ⟨v5, v6, v7, rfl, s2, DX, hf⟩
      obtain ⟨z, hz, rfl⟩ := int_of_map hi
      refine ⟨_, rfl, l, rfl, ⟨_, SqT.same s2 rl⟩, fun D0 nD0 => ?_⟩
      refine lc_tup (K := K) (a := l) (xs := ls.map V.int) (fun j H3 => Same H2 H3 ∧ H3 D0 = some (.lst ((oth (ls.take j) z).map V.int))) ⟨Same.put nD0, upd_same⟩ (fun j H3 _ ⟨s3, _⟩ => SqT.same s3 (SqT.same s2 rl)) ?_ ?_
      · rintro j y H3 hj ⟨s3, hD⟩
        obtain ⟨u, hu, rfl⟩ := int_of_map hj
        have ot := oth_take (x := z) hu
        refine ⟨rfl, _, rfl, _, rfl, rfl, _, rfl, ?_⟩
        by_cases q : u = z
        · rw [if_pos q] at ot
          exact iteNS (congrArg V.int q) ⟨s3, by rw [ot]; exact hD⟩
        · rw [if_neg q] at ot
          refine iteS (fun w => q (by injection w)) ⟨_, rfl, _, hD, ?_, Same.wr nD0 s3, by rw [upd_same, ot, List.map_append]; rfl⟩
          rw [List.length_map]
          have h5 := S.l5
          have a1 := oth_len (ls.take j) z
          rw [List.length_take] at a1
          have := line_big
          omega
      · rintro H3 ⟨s3, hD⟩
        rw [List.length_map, List.take_length] at hD
        refine ⟨D0, _, rfl, .inl ⟨SqL.of hD, fun t nt => ?_⟩⟩
        have s4 : Same H2 (upd H3 t (.tup ((oth ls z).map V.int))) := s3.trans (Same.put nt)
        have ht : upd H3 t (.tup ((oth ls z).map V.int)) t = some (.tup ((oth ls z).map V.int)) := upd_same
        generalize upd H3 t (.tup ((oth ls z).map V.int)) = H4 at s4 ht ⊢
        refine ⟨_, rfl, _, rfl, by show 2 ≤ sizeLine; decide, fun u nu => fun x' dx' nx' ndx' nex' => ?_⟩
        have s5 := s4.trans (Same.put nu (o := .tup [.int size, .ref t]))
        have BO : Bk K (upd H4 u (.tup [.int size, .ref t])) u size (oth ls z) := ⟨⟨t, SqT.of upd_same, SqT.of ((Same.put nu) _ _ ht)⟩, oth_rules R h1 z, S.s100, Nat.le_trans (oth_len ls z) S.l5⟩
        refine ⟨x', dx', u, size, oth ls z, 0, false, rfl, upd_same, (BO.same (Same.made1 nx' ndx')).book, fun H5 r' per' b' e5 D5 => ⟨rfl, _, rfl, ?_⟩⟩
        have s6 := s5.trans (Same.make nx' ndx' e5)
        have DX5 := DX.same s6
        obtain ⟨dq, aq, wq, hq, _⟩ := id D5.ex
        obtain ⟨r2, per2, b2, DD⟩ := id DX5
        obtain ⟨dw, aw, ww, hw, _⟩ := id DD.ex
        refine ⟨x', x, dq, dw, _, _, rfl, rfl, hq, hw, x', x, size, size, oth ls z, ls, rfl, ⟨r', per', b', D5⟩, DX5, fun H6 s7 => ⟨fun al => ⟨_, rfl, _, rfl, iteT ?_⟩, fun n hn => ⟨_, rfl, _, rfl, iteF ?_⟩⟩⟩
        · have hf6 := (s6.trans s7) _ _ hf
          refine ⟨_, rfl, .inl ⟨rfl, _, SqL.of hf6⟩, _, rfl, fl, _, _, rfl, rfl, hf6, ?_, ?_⟩
          · rw [List.length_map]
            have h5 := S.l5
            have a1 := due_len size ls (ls.take i)
            rw [List.length_take] at a1
            have := line_big
            omega
          · exact ⟨_, _, _, rfl, Same.wr nfl (s2.trans (s6.trans s7)), ⟨_, _, _, (DD.same s7).but hf6 (But.own (But.of (Same.refl _)))⟩, by rw [upd_same, (due_take hz).1 al, List.map_append]; rfl⟩
        · refine ⟨_, _, _, rfl, s2.trans (s6.trans s7), DX5.same s7, ?_⟩
          rw [(due_take hz).2 fun al => hn (al n).symm]
          exact (s6.trans s7) _ _ hf
    · rintro σ H2 ⟨v5, v6, v7, rfl, s2, DX, hf⟩
      rw [List.length_map, List.take_length] at hf
      refine ⟨_, rfl, fl, _, rfl, .inl ⟨SqL.of hf, fun t nt => k t _ (s2.trans (Same.put nt)) ?_⟩⟩
      rw [if_neg h1]
      exact SqT.of upd_same
end
end W
namespace W
open PySem L2 G24
abbrev sLen : Stmt := top 19
/-- a def of the module, as callers need it -/
structure At (P : Program) (w : World) (K : PySem.W.Frag) (mg : Str → Option Value) (base : Heap) (x : Str) (k : Nat) (f : Addr) (fd : FuncData) (ps : List Str) (sp : Sp) : Prop where
  g : FnOk P w K mg base CX0 k f fd ps sp
  k : PySem.W.keepIn K (.ref f) = true
  m : mg x = some (.ref f)
theorem BoxAt.ys {H : Hp} {p : Addr} {n : Nat} (B : BoxAt H p n) : ∃ is : List Int, H p = some (.lst (is.map V.int)) := let ⟨o, m, c, h, _⟩ := B; ⟨[o, m, c], h⟩
theorem keys_putK {kvs : List (Key × V)} {k : Key} {v : V} : (k ∈ kvs.map (·.1) → (putK kvs k v).map (·.1) = kvs.map (·.1)) ∧ (¬ k ∈ kvs.map (·.1) → (putK kvs k v).map (·.1) = kvs.map (·.1) ++ [k]) := by
  unfold putK
  refine ⟨fun h => ?_, fun h => ?_⟩
  · have e : (kvs.any fun kv => decide (kv.1 = k)) = true := by
      obtain ⟨p, hp, e⟩ := List.mem_map.mp h
      exact List.any_eq_true.mpr ⟨p, hp, decide_eq_true e⟩
    rw [if_pos e, List.map_map]
    refine List.map_congr_left fun p _ => ?_
    show (if p.1 = k then (p.1, v) else p).1 = p.1
    split <;> rfl
  · have e : ¬ (kvs.any fun kv => decide (kv.1 = k)) = true := fun z => by
      obtain ⟨p, hp, e⟩ := List.any_eq_true.mp z
      exact h (List.mem_map.mpr ⟨p, hp, of_decide_eq_true e⟩)
    rw [if_neg e, List.map_append]; rfl
/-- the keys of a dict are these ints -/
def KeysI (kvs : List (Key × V)) (ks : List Int) : Prop := kvs.map (·.1) = ks.map Sum.inl ∧ ks.Nodup
theorem KeysI.put {kvs : List (Key × V)} {ks : List Int} (h : KeysI kvs ks) (z : Int) (v : V) : ∃ ks', KeysI (putK kvs (.inl z) v) ks' ∧ ks'.length ≤ ks.length + 1 ∧ (∀ y ∈ ks', y ∈ ks ∨ y = z) ∧ ∀ y ∈ ks, y ∈ ks' := by
  obtain ⟨e, nd⟩ := h
  by_cases hz : z ∈ ks
  · refine ⟨ks, ⟨?_, nd⟩, Nat.le_succ _, fun y hy => .inl hy, fun y hy => hy⟩
    rw [keys_putK.1 (by rw [e]; exact List.mem_map_of_mem hz), e]
  · refine ⟨ks ++ [z], ⟨?_, List.nodup_append.mpr ⟨nd, by simp, fun a ha b hb q => hz (by rw [List.mem_singleton.mp hb] at q; exact q ▸ ha)⟩⟩, by simp, fun y hy => ?_, fun y hy => List.mem_append_left _ hy⟩
    · have : ¬ (Sum.inl z : Key) ∈ ks.map Sum.inl := fun q => by
        obtain ⟨y, hy, e⟩ := List.mem_map.mp q
        injection e with e
        exact hz (e ▸ hy)
      rw [keys_putK.2 (by rw [e]; exact this), e, List.map_append]; rfl
    · rcases List.mem_append.mp hy with hy | hy
      · exact .inl hy
      · exact .inr (List.mem_singleton.mp hy)
theorem pair_lt {l : List Int} (h : l.Pairwise (· ≤ ·)) (nd : l.Nodup) : l.Pairwise (· < ·) := by
  induction l with
  | nil => exact .nil
  | cons a r ih =>
    rw [List.pairwise_cons] at h ⊢
    rw [List.nodup_cons] at nd
    refine ⟨fun b hb => ?_, ih h.2 nd.2⟩
    have := h.1 b hb
    have : a ≠ b := fun e => nd.1 (e ▸ hb)
    omega
/-- lengths as the law draws them -/
structure LenOk (top : Int) (ls : List Int) : Prop where
  asc : ls.Pairwise (· < ·)
  lo : ∀ l ∈ ls, 1 ≤ l
  hi : ∀ l ∈ ls, l ≤ top ∨ l ≤ 9
  mem : top ∈ ls
  l5 : ls.length ≤ 5
section
variable {P : Program} {w : World} {K : PySem.W.Frag} {mg : Str → Option Value} {base : Heap} {fT fO : Addr} {fdT fdO : FuncData}
def spLen (K : PySem.W.Frag) : Sp := fun vs H Q _ => ∃ (p : Addr) (top : Int) (n : Nat), vs = [.ref p, .int top] ∧ 1 ≤ top ∧ top ≤ 100 ∧ BoxAt H p n ∧ n + 100 ≤ 1000000 ∧
  ∀ (H' : Hp) (t : Addr) (ls : List Int), But p H H' → BoxAt H' p (n + 17) → H' t = some (.tup (ls.map V.int)) → LenOk top ls → Q (.ref t) H'
theorem scLen : FnScope ["box", "top", "found", "turn"] ["box", "top"] (defScope sLen) := ⟨rfl, rfl, rfl, by decide +kernel, rfl, by decide +kernel, by decide +kernel⟩
theorem ok_len {fa : Addr} {fd : FuncData} (F : Fun K "_law_lengths" "_law_lengths" sLen fa fd) (B : Bi mg) (TK : At P w K mg base "_law_take" 1 fT fdT ["box", "many"] spTake) (bT : Binds K fdT ["box", "many"] [])
    (OF : At P w K mg base "_law_of" 2 fO fdO ["box", "some"] (spOf K)) (bO : Binds K fdO ["box", "some"] []) : FnOk P w K mg base CX0 3 fa fd ["box", "top"] (spLen K) := by
  refine F.ok scLen (fun vs H Q E h => ?_) (fun cdv A outer s H vs Q E hr h => ?_)
  · obtain ⟨p, top, n, rfl, _⟩ := h
    rfl
  · obtain ⟨p, top, n, rfl, t1, t2, BX, hn, k⟩ := h
    have nd := scLen.nd
    have hu := hu_of hr
    have r1 : Room 1 _ := hr.mono (by decide)
    refine ⟨_, pss_cons (ps_set (i := 2) nd rfl (.inl rfl) (pe_disp (pps_cons (pv 1) pe_bl pps_nil) (by rfl) (by rfl) (fun z => by cases z) (by decide)))
      (pss_cons (ps_for PassesOwn.never rfl (pi_range1 (by rfl) B.range (pa_cons (pe_op op_add pe_int (pe_call TK.g r1 (by rfl) TK.m TK.k bT .nil pass0 (pa_cons (pv 0) (pa_cons pe_int pa_nil)))) pa_nil)) (pg_name (i := 3) nd rfl (.inl rfl))
        (pss_one (ps_dput hu (pv 2) (pe_call OF.g hr (by rfl) OF.m OF.k bO .nil pass0 (pa_cons (pv 0) (pa_cons (pe_lst (pa_cons (pe_op op_add pe_int (pe_call TK.g r1 (by rfl) TK.m TK.k bT .nil pass0 (pa_cons (pv 0) (pa_cons (pv 1) pa_nil))))
            (pa_cons (pe_op op_add pe_int (pe_call TK.g r1 (by rfl) TK.m TK.k bT .nil pass0 (pa_cons (pv 0) (pa_cons (pv 1) pa_nil)))) (pa_cons (pv 1) (pa_cons (pe_op op_add pe_int (pe_call TK.g r1 (by rfl) TK.m TK.k bT .nil pass0 (pa_cons (pv 0) (pa_cons pe_int pa_nil)))) pa_nil))))) pa_nil))) pe_bl rfl)))
      (pss_one (ps_ret (pe_callTy call_tuple_of (by rfl) B.tuple (by decide +kernel) (pa_cons (pe_callB (call_sortedDI rfl) (by rfl) B.sorted (by decide +kernel) (pa_cons (pv 2) pa_nil)) pa_nil))))), ?_⟩
    intro d nd1
    refine ⟨_, rfl, upd_same, [(.inl top, .bl true)], rfl, by show 1 ≤ 15; decide, ?_⟩
    have hd1 : upd (upd H d (.dK [])) d (.dK (mergeK [] [(.inl top, .bl true)])) d = some (.dK [(.inl top, .bl true)]) := upd_same
    have s1 : Same H (upd (upd H d (.dK [])) d (.dK (mergeK [] [(.inl top, .bl true)]))) := Same.wr nd1 (Same.put nd1)
    generalize upd (upd H d (.dK [])) d (.dK (mergeK [] [(.inl top, .bl true)])) = H1 at hd1 s1 ⊢
    refine ⟨_, rfl, p, 3, n, rfl, by decide, by decide, BX.same s1, by omega, fun H2 u b2 BX2 u0 u1 => ⟨_, _, rfl, rfl, 2 + u, rfl, by omega, by omega, ?_⟩⟩
    obtain ⟨ys1, hp1⟩ := (BX.same s1).ys
    have hd2 : H2 d = some (.dK [(.inl top, .bl true)]) := b2 d _ (ne_of hd1 hp1 (by intro z; cases z)) hd1
    have dH : ∀ b o, b ≠ p → H b = some o → b ≠ d := fun b o _ e => ne_of_none e nd1
    refine for_range (lo := 0) (n := (2 + u).toNat) (fun i σ H3 => ∃ (v3 : Option V) (kvs : List (Key × V)) (ks : List Int), σ = [some (.ref p), some (.int top), some (.ref d), v3] ∧ But p H H3 ∧ BoxAt H3 p (n + 1 + 4 * i) ∧ H3 d = some (.dK kvs) ∧ KeysI kvs ks ∧ ks.length ≤ i + 1 ∧ (∀ y ∈ ks, 1 ≤ y ∧ (y ≤ top ∨ y ≤ 9)) ∧ top ∈ ks)
      ⟨none, [(.inl top, .bl true)], [top], rfl, (But.of s1).trans b2, BX2, hd2, ⟨rfl, by simp⟩, Nat.le_refl _, (fun y hy => by rw [List.mem_singleton.mp hy]; exact ⟨t1, .inl (Int.le_refl _)⟩), List.mem_singleton.mpr rfl⟩ ?_ ?_
    · rintro i σ H3 hi ⟨v3, kvs, ks, rfl, b3, BX3, hd3, KI, kl, kr, km⟩
      have i4 : i < 4 := by omega
      refine ⟨_, rfl, _, rfl, _, rfl, _, rfl, p, top, _, rfl, by omega, by omega, BX3, by omega, fun H4 x b4 BX4 x0 x1 => ⟨_, _, rfl, rfl, _, rfl, _, rfl, p, top, _, rfl, by omega, by omega, BX4, by omega, fun H5 y b5 BX5 y0 y1 => ⟨_, _, rfl, rfl, _, rfl, _, rfl, p, 9, _, rfl, by omega, by omega, BX5, by omega, fun H6 z b6 BX6 z0 z1 => ⟨_, _, rfl, rfl, by show 4 ≤ sizeLine; decide, fun q nq => ?_⟩⟩⟩⟩
      obtain ⟨ys3, hp3⟩ := BX3.ys
      obtain ⟨ys6, hp6⟩ := BX6.ys
      have b36 := (b4.trans b5).trans b6
      have hd6 : H6 d = some (.dK kvs) := b36 d _ (ne_of hd3 hp3 (by intro z; cases z)) hd3
      refine ⟨p, q, _, _, rfl, ne_of_none hp6 nq, upd_same, by simp, by show 4 ≤ 1000; decide, BX6.same (Same.put nq), by omega, fun H7 v b7 BX7 hv => ?_⟩
      obtain ⟨m, rfl, m1, m2⟩ : ∃ m, v = .int m ∧ 1 ≤ m ∧ (m ≤ top ∨ m ≤ 9) := by
        simp only [List.mem_cons, List.not_mem_nil, or_false] at hv
        rcases hv with rfl | rfl | rfl | rfl
        · exact ⟨_, rfl, by omega, by omega⟩
        · exact ⟨_, rfl, by omega, by omega⟩
        · exact ⟨_, rfl, by omega, by omega⟩
        · exact ⟨_, rfl, by omega, by omega⟩
      have hp6' := (Same.put nq (o := HO.lst [V.int (1 + x), V.int (1 + y), V.int top, V.int (1 + z)])) _ _ hp6
      have hd7 : H7 d = some (.dK kvs) := b7 d _ (ne_of ((Same.put nq) _ _ hd6) hp6' (by intro z; cases z)) ((Same.put nq) _ _ hd6)
      obtain ⟨ks', KI', len', mem', sub'⟩ := KI.put m (.bl true)
      obtain ⟨ys7, hp7⟩ := BX7.ys
      have pd : p ≠ d := ne_of hp7 hd7 (by intro z; cases z)
      have kvl : kvs.length < sizeLine := by
        have := congrArg List.length KI.1
        rw [List.length_map, List.length_map] at this
        have := line_big; omega
      refine ⟨d, _, rfl, DPut.k (k := .inl m) hd7 kvl, ?_⟩
      refine ⟨_, _, ks', rfl, fun b o nn e => ?_, ?_, upd_same, KI', by omega, fun y hy => ?_, sub' _ km⟩
      · rw [upd_ne (dH b o nn e)]
        exact b7 b o nn ((Same.put nq) _ _ (b36 b o nn (b3 b o nn e)))
      · obtain ⟨o, m, c, h, r⟩ := BX7
        exact ⟨o, m, c, by rw [upd_ne pd]; exact h, by omega⟩
      · rcases mem' y hy with q | q
        · exact kr y q
        · subst q; exact ⟨m1, m2⟩
    · rintro σ H3 ⟨v3, kvs, ks, rfl, b3, BX3, hd3, KI, kl, kr, km⟩
      refine ⟨_, rfl, d, kvs, ks, rfl, .inl hd3, KI.1, by omega, fun ys q pm po nq => ⟨q, _, rfl, .inl ⟨SqL.of upd_same, fun t nt => ?_⟩⟩⟩
      have s4 : Same H3 (upd (upd H3 q (.lst (ys.map V.int))) t (.tup (ys.map V.int))) := (Same.put nq).trans (Same.put nt)
      have yl : ys.length = ks.length := pm.length_eq
      refine k _ t ys (fun b o nn e => s4 _ _ (b3 b o nn e)) ((BX3.same s4).mono (by omega)) upd_same ⟨pair_lt po (pm.nodup_iff.mpr KI.2), fun l hl => (kr l (pm.mem_iff.mp hl)).1, fun l hl => (kr l (pm.mem_iff.mp hl)).2, pm.mem_iff.mpr km, by omega⟩
end
end W
namespace W
open PySem L2 G24
abbrev sSR : Stmt := top 20
theorem SqT.box {K : PySem.W.Frag} {H H' : Hp} {p a : Addr} {c : Nat} {xs : List V} (B : BoxAt H p c) (e : But p H H') (h : SqT K H a xs) : SqT K H' a xs := let ⟨_, hp⟩ := B.ys; SqT.but2 hp e h
theorem LenOk.last {top : Int} {ls : List Int} (L : LenOk top ls) : ∃ last, Lens ls last ∧ top ≤ last ∧ (last ≤ top ∨ last ≤ 9) := by
  have ne : ls ≠ [] := fun e => by have := L.mem; rw [e] at this; cases this
  obtain ⟨x, hx, e⟩ := getLast_mem' ne
  exact ⟨x, ⟨ne, L.asc, L.lo, e, by have := L.l5; omega⟩, asc_last L.asc e _ L.mem, L.hi x hx⟩
/-- the edge of a size is enough for that size -/
theorem eno_edge {ls : List Int} {fo m : Nat} {ho : Bool} {s : Int} (R : Rules s ls) : Eno ls fo ho m (lf (cost s ls) ls ho (m + 1 - fo) - 1) s := by
  have Cc := cost_cst R
  rcases Int.lt_or_le (lf (cost s ls) ls ho (m + 1 - fo) - 1) (lf (cost s ls) ls ho 0) with q | q
  · exact ⟨0, ⟨fun _ => rfl, fun h => by omega⟩, by omega⟩
  · have pos : 0 < m + 1 - fo := by
      rcases Nat.eq_zero_or_pos (m + 1 - fo) with z | z
      · rw [z] at q; omega
      · exact z
    obtain ⟨j, ej⟩ : ∃ j, m + 1 - fo = j + 1 := ⟨m + 1 - fo - 1, by omega⟩
    rw [ej] at q ⊢
    have u := lf_up R Cc ho j
    exact ⟨j + fo, ⟨fun h => by omega, fun _ => ⟨j, by omega, by omega, by omega⟩⟩, by omega⟩
section
variable {P : Program} {w : World} {K : PySem.W.Frag} {mg : Str → Option Value} {base : Heap} {fT fO fLe fG fE fS : Addr} {fdT fdO fdLe fdG fdE fdS : FuncData}
def spSR (K : PySem.W.Frag) : Sp := fun vs H Q _ => ∃ (p : Addr) (n : Nat), vs = [.ref p] ∧ BoxAt H p n ∧ n + 200 ≤ 1000000 ∧ ∀ H' : Hp, But p H H' → BoxAt H' p (n + 100) → Q (.bl true) H'
theorem scSR : FnScope ["box", "kinds", "many", "often", "is_held", "top", "edge", "bound", "size", "some", "less", "turn"] ["box"] (defScope sSR) := ⟨rfl, rfl, rfl, by decide +kernel, rfl, by decide +kernel, by decide +kernel⟩
theorem ok_sr {fa : Addr} {fd : FuncData} (F : Fun K "_law_size_right" "_law_size_right" sSR fa fd) (B : Bi mg) (TK : At P w K mg base "_law_take" 1 fT fdT ["box", "many"] spTake) (bT : Binds K fdT ["box", "many"] [])
    (OF : At P w K mg base "_law_of" 2 fO fdO ["box", "some"] (spOf K)) (bO : Binds K fdO ["box", "some"] [])
    (LE : At P w K mg base "_law_lengths" 3 fLe fdLe ["box", "top"] (spLen K)) (bLe : Binds K fdLe ["box", "top"] [])
    (G : At P w K mg base "greatest_limit" 7 fG fdG ["rules", "kept", "forced", "holds"] (spGreat K)) (bG : Kwd K fdG ["rules", "kept", "forced", "holds"] 2)
    (EN : At P w K mg base "is_enough" 8 fE fdE ["rules", "kept", "limit", "forced", "holds"] (spEnough K)) (bE : Kwd K fdE ["rules", "kept", "limit", "forced", "holds"] 3)
    (LS : At P w K mg base "least_size" 9 fS fdS ["lengths", "kept", "limit", "forced", "holds"] (spSize K)) (bS : Kwd K fdS ["lengths", "kept", "limit", "forced", "holds"] 3) : FnOk P w K mg base CX0 10 fa fd ["box"] (spSR K) := by
  refine F.ok scSR (fun vs H Q E h => ?_) (fun cdv A outer s H vs Q E hr h => ?_)
  · obtain ⟨p, n, rfl, _⟩ := h
    rfl
  · obtain ⟨p, n, rfl, BX, hn, k⟩ := h
    have nd := scSR.nd
    have r1 : Room 1 _ := hr.mono (by decide)
    have r2 : Room 2 _ := hr.mono (by decide)
    have r3 : Room 3 _ := hr.mono (by decide)
    have r7 : Room 7 _ := hr.mono (by decide)
    have r8 : Room 8 _ := hr.mono (by decide)
    refine ⟨_, pss_cons (ps_set (i := 1) nd rfl (.inr rfl) (pe_call LE.g r3 (by rfl) LE.m LE.k bLe .nil pass0 (pa_cons (pv 0) (pa_cons (pe_call OF.g r2 (by rfl) OF.m OF.k bO .nil pass0 (pa_cons (pv 0) (pa_cons (pe_lst (pa_cons pe_int (pa_cons pe_int (pa_cons pe_int (pa_cons pe_int pa_nil))))) pa_nil))) pa_nil))))
      (pss_cons (ps_set (i := 2) nd rfl (.inl rfl) (pe_call OF.g r2 (by rfl) OF.m OF.k bO .nil pass0 (pa_cons (pv 0) (pa_cons (pe_lst (pa_cons (pe_call TK.g r1 (by rfl) TK.m TK.k bT .nil pass0 (pa_cons (pv 0) (pa_cons pe_int pa_nil))) (pa_cons (pe_call TK.g r1 (by rfl) TK.m TK.k bT .nil pass0 (pa_cons (pv 0) (pa_cons pe_int pa_nil)))
          (pa_cons (pe_call TK.g r1 (by rfl) TK.m TK.k bT .nil pass0 (pa_cons (pv 0) (pa_cons (pe_op op_pow pe_int pe_int) pa_nil))) pa_nil)))) pa_nil))))
      (pss_cons (ps_par (i := 3) (j := 4) (by rfl) nd rfl rfl (by decide) rfl rfl (pa_cons (pe_call OF.g r2 (by rfl) OF.m OF.k bO .nil pass0 (pa_cons (pv 0) (pa_cons (pe_lst (pa_cons pe_int (pa_cons pe_int (pa_cons pe_int (pa_cons pe_int pa_nil))))) pa_nil)))
          (pa_cons (pe_cmpR op_eq (pe_call TK.g r1 (by rfl) TK.m TK.k bT .nil pass0 (pa_cons (pv 0) (pa_cons pe_int pa_nil))) pe_int (nomark _)) pa_nil)) (by rfl))
      (pss_cons (ps_set (i := 5) nd rfl (.inl rfl) (pe_op op_add (pe_ix ix_tup (pv 1) (pe_un un_neg pe_int) (fun _ _ => rfl)) (pe_call TK.g r1 (by rfl) TK.m TK.k bT .nil pass0 (pa_cons (pv 0) (pa_cons (pe_op op_sub pe_int (pe_ix ix_tup (pv 1) (pe_un un_neg pe_int) (fun _ _ => rfl))) pa_nil)))))
      (pss_cons (ps_set (i := 6) nd rfl (.inl rfl) (pe_callN (n := 2) G.g r7 (by rfl) G.m G.k bG.both pass0 (pa_cons (pe_tup (pa_cons (pv 5) (pa_cons (pv 1) pa_nil))) (pa_cons (pv 2) pa_nil)) (pk_cons (pv 3) (pk_cons (pv 4) pk_nil))))
      (pss_cons (ps_set (i := 7) nd rfl (.inl rfl) (pe_call OF.g r2 (by rfl) OF.m OF.k bO .nil pass0 (pa_cons (pv 0) (pa_cons (pe_lst (pa_cons (pv 6) (pa_cons (pe_op op_add (pv 6) pe_int)
          (pa_cons (pe_callB (call_max2 rfl) (by rfl) B.max PyProof.Rows.boot_max (pa_cons pe_int (pa_cons (pe_op op_sub (pv 6) (pe_call TK.g r1 (by rfl) TK.m TK.k bT .nil pass0 (pa_cons (pv 0) (pa_cons pe_int pa_nil)))) pa_nil)))
          (pa_cons (pe_op op_pow pe_int pe_int) (pa_cons (pe_call TK.g r1 (by rfl) TK.m TK.k bT .nil pass0 (pa_cons (pv 0) (pa_cons pe_int pa_nil))) pa_nil)))))) pa_nil))))
      (pss_cons (ps_set (i := 8) nd rfl (.inr rfl) (pe_callN (n := 3) LS.g hr (by rfl) LS.m LS.k bS.both pass0 (pa_cons (pv 1) (pa_cons (pv 2) (pa_cons (pv 7) pa_nil))) (pk_cons (pv 3) (pk_cons (pv 4) pk_nil))))
      (pss_cons (ps_if (pt_cmp (pc_isN (pv 8))) (pss_one (ps_ret (pe_not (pe_callN (n := 3) EN.g r8 (by rfl) EN.m EN.k bE.both pass0 (pa_cons (pe_tup (pa_cons pe_int (pa_cons (pv 1) pa_nil))) (pa_cons (pv 2) (pa_cons (pv 7) pa_nil))) (pk_cons (pv 3) (pk_cons (pv 4) pk_nil)))))) pss_nil)
      (pss_cons (ps_if (pw_or (pt_not (pt_chain op_le op_le (pe_ix ix_tup (pv 1) (pe_un un_neg pe_int) (fun _ _ => rfl)) (pv 8) pe_int)) (pw_or1 (pt_not (pt_val (pe_callN (n := 3) EN.g r8 (by rfl) EN.m EN.k bE.both pass0 (pa_cons (pe_tup (pa_cons (pv 8) (pa_cons (pv 1) pa_nil))) (pa_cons (pv 2) (pa_cons (pv 7) pa_nil))) (pk_cons (pv 3) (pk_cons (pv 4) pk_nil))))))).pt (pss_one (ps_ret pe_bl)) pss_nil)
      (pss_cons (ps_set (i := 9) nd rfl (.inl rfl) (pe_op op_cat (pe_lst (pa_cons (pe_op op_sub (pv 8) pe_int) pa_nil))
          (pe_lc (own := [("turn", 11)]) (g := gName 11) (tt := tYes) rfl nd (pi_range1 (by rfl) B.range (pa_cons pe_int pa_nil)) (blkOk_by (own := [("turn", 11)]) (N := ["box", "kinds", "many", "often", "is_held", "top", "edge", "bound", "size", "some", "less", "turn"]) (sc := defScope sSR) (by decide +kernel))
            (fun _ _ _ _ _ => pg_name (i := 11) nd rfl (Or.inl rfl)) (fun _ _ _ _ _ => pts_nil)
            (fun _ _ _ _ _ => pe_op op_add (pe_ix (r := rIxT K) ix_tup (pv 1) (pe_un un_neg pe_int) (fun _ _ => rfl)) (pe_call TK.g r1 (by rfl) TK.m TK.k bT .nil pass0 (pa_cons (pv 0) (pa_cons (pe_callB (call_max2 rfl) (by rfl) B.max PyProof.Rows.boot_max (pa_cons pe_int (pa_cons (pe_op op_sub (pv 8) (pe_ix (r := rIxT K) ix_tup (pv 1) (pe_un un_neg pe_int) (fun _ _ => rfl))) pa_nil))) pa_nil)))))))
      (pss_cons (ps_for PassesOwn.never rfl (pi_list (pv 9)) (pg_name (i := 10) nd rfl (.inl rfl))
        (pss_one (ps_if (pw_and (pt_chain op_le op_lt (pe_ix ix_tup (pv 1) (pe_un un_neg pe_int) (fun _ _ => rfl)) (pv 10) (pv 8)) (pw_and1 (pt_val (pe_callN (n := 3) EN.g r8 (by rfl) EN.m EN.k bE.both pass0 (pa_cons (pe_tup (pa_cons (pv 10) (pa_cons (pv 1) pa_nil))) (pa_cons (pv 2) (pa_cons (pv 7) pa_nil))) (pk_cons (pv 3) (pk_cons (pv 4) pk_nil)))))).pt (pss_one (ps_ret pe_bl)) pss_nil)))
      (pss_one (ps_ret (pe_or (pe_cmpR op_ne (pv 7) (pv 6) (nomark _)) (pe_one (pe_cmpR op_le (pv 8) (pv 5) (nomark _)))))))))))))))), ?_⟩
    obtain ⟨ys0, hp0⟩ := BX.ys
    -- kinds
    refine ⟨_, rfl, _, rfl, by show 4 ≤ sizeLine; decide, fun q nq => ⟨p, q, n, _, rfl, ne_of_none hp0 nq, upd_same, by simp, by show 4 ≤ 1000; decide, BX.same (Same.put nq), by omega, fun H1 x b1 BX1 hx => ?_⟩⟩
    obtain ⟨top, rfl, t1, t2⟩ : ∃ z, x = .int z ∧ 88 ≤ z ∧ z ≤ 100 := by
      simp only [List.mem_cons, List.not_mem_nil, or_false] at hx
      rcases hx with rfl | rfl | rfl | rfl
      · exact ⟨_, rfl, by decide, by decide⟩
      · exact ⟨_, rfl, by decide, by decide⟩
      · exact ⟨_, rfl, by decide, by decide⟩
      · exact ⟨_, rfl, by decide, by decide⟩
    refine ⟨p, top, n + 1, rfl, by omega, t2, BX1, by omega, fun H2 t ls b2 BX2 ht LO => ?_⟩
    obtain ⟨last, L, l1, l2⟩ := LO.last
    have l3 : last ≤ 100 := by omega
    have B2 : But p H H2 := (But.of (Same.put nq)).trans (b1.trans b2)
    have hT : SqT K H2 t (ls.map V.int) := SqT.of ht
    have l0 : 88 ≤ last := by omega
    clear ht hx b1 b2 BX1 l1 l2 t1 t2
    -- many
    refine ⟨_, rfl, _, rfl, p, 9, _, rfl, by decide, by decide, BX2, by omega, fun H3 x1 b3 BX3 x10 x11 => ⟨_, rfl, p, 200, _, rfl, by decide, by decide, BX3, by omega, fun H4 x2 b4 BX4 x20 x21 => ⟨_, rfl, _, _, rfl, rfl, ⟨by decide, by decide, by decide⟩, p, (10 : Int) ^ (15 : Int).toNat, _, rfl, by decide +kernel, by decide +kernel, BX4, by omega, fun H5 x3 b5 BX5 x30 x31 => ⟨by show 3 ≤ sizeLine; decide, fun q2 nq2 => ?_⟩⟩⟩⟩
    have hT5 := SqT.box BX2 ((b3.trans b4).trans b5) hT
    obtain ⟨ys5, hp5⟩ := BX5.ys
    refine ⟨p, q2, _, _, rfl, ne_of_none hp5 nq2, upd_same, by simp, by show 3 ≤ 1000; decide, BX5.same (Same.put nq2), by omega, fun H6 x b6 BX6 hx => ?_⟩
    obtain ⟨m, rfl⟩ : ∃ m : Nat, x = .int m := by
      have : ∃ z : Int, x = .int z ∧ 0 ≤ z := by
        simp only [List.mem_cons, List.not_mem_nil, or_false] at hx
        rcases hx with rfl | rfl | rfl
        · exact ⟨_, rfl, x10⟩
        · exact ⟨_, rfl, x20⟩
        · exact ⟨_, rfl, x30⟩
      obtain ⟨z, rfl, hz⟩ := this
      exact ⟨z.toNat, congrArg V.int (by omega)⟩
    have B6 : But p H H6 := B2.trans (((b3.trans b4).trans b5).trans ((But.of (Same.put nq2)).trans b6))
    have hT6 := SqT.box (BX5.same (Same.put nq2)) b6 (SqT.same (Same.put nq2) hT5)
    clear hx b3 b4 b5 b6 BX3 BX4 hT5 hT BX2 B2
    -- often, is_held
    refine ⟨_, rfl, by show 4 ≤ sizeLine; decide, fun q3 nq3 => ?_⟩
    obtain ⟨ys6, hp6⟩ := BX6.ys
    refine ⟨p, q3, _, _, rfl, ne_of_none hp6 nq3, upd_same, by simp, by show 4 ≤ 1000; decide, BX6.same (Same.put nq3), by omega, fun H7 x b7 BX7 hx => ?_⟩
    obtain ⟨fo, rfl⟩ : ∃ fo : Nat, x = .int fo := by
      simp only [List.mem_cons, List.not_mem_nil, or_false] at hx
      rcases hx with rfl | rfl | rfl | rfl
      · exact ⟨0, rfl⟩
      · exact ⟨0, rfl⟩
      · exact ⟨1, rfl⟩
      · exact ⟨100, rfl⟩
    refine ⟨_, rfl, p, 2, _, rfl, by decide, by decide, BX7, by omega, fun H8 hv b8 BX8 hv0 hv1 => ⟨rfl, _, _, rfl, ?_⟩⟩
    generalize decide (V.int hv = V.int 0) = ho
    have B8 : But p H H8 := B6.trans ((But.of (Same.put nq3)).trans (b7.trans b8))
    have hT8 := SqT.box (BX6.same (Same.put nq3)) (b7.trans b8) (SqT.same (Same.put nq3) hT6)
    clear hx b7 b8 BX7 hT6 BX6 B6
    -- top
    refine ⟨_, rfl, _, rfl, t, _, _, .int last, rfl, rfl, hT8, atLast L.last, _, rfl, _, rfl, _, rfl, t, _, _, .int last, rfl, rfl, hT8, atLast L.last, _, _, rfl, rfl, p, 101 - last, _, rfl, by omega, by omega, BX8, by omega, fun H9 tv b9 BX9 tv0 tv1 => ⟨_, _, rfl, rfl, ?_⟩⟩
    have B9 := B8.trans b9
    have hT9 := SqT.box BX8 b9 hT8
    have tp1 : last ≤ last + tv := by omega
    have tp2 : last + tv ≤ 100 := by omega
    have few : ∀ s : Int, s ≤ 100 → Few s ls := fun s h => few_big h LO.l5
    -- edge
    refine ⟨_, rfl, _, rfl, by show 2 ≤ sizeLine; decide, fun u nu => ⟨_, rfl, _, rfl, _, rfl, rfl, rfl, u, m, last + tv, ls, fo, ho, rfl, ⟨⟨t, SqT.of upd_same, SqT.same (Same.put nu) hT9⟩, L.rules tp1, tp2, L.l6, few _ tp2⟩, fun H10 s10 => ?_⟩⟩
    have sE : Same H9 H10 := (Same.put nu).trans s10
    have eE := eno_edge (fo := fo) (m := m) (ho := ho) (L.rules tp1)
    have e0 := lf_ge (L.rules tp1) (cost_cst (L.rules tp1)) ho (m + 1 - fo)
    have e0' : 0 ≤ lf (cost (last + tv) ls) ls ho (m + 1 - fo) - 1 := by omega
    generalize lf (cost (last + tv) ls) ls ho (m + 1 - fo) - 1 = edge at eE e0' ⊢
    have hT10 := SqT.same sE hT9
    have BX10 := BX9.same sE
    have B10 := B9.trans (But.of sE (p := p))
    clear e0 s10 sE hT9 hT8 BX9 B9 BX8 B8
    -- bound
    refine ⟨_, rfl, _, rfl, _, rfl, _, _, rfl, rfl, _, rfl, _, rfl, p, 99, _, rfl, by decide, by decide, BX10, by omega, fun H11 w1 b11 BX11 w10 w11 => ⟨_, _, rfl, rfl, _, _, rfl, _, _, rfl, rfl, ⟨by decide, by decide, by decide⟩, _, rfl, p, 999, _, rfl, by decide, by decide, BX11, by omega, fun H12 w2 b12 BX12 w20 w21 => ⟨by show 5 ≤ sizeLine; decide, fun q4 nq4 => ?_⟩⟩⟩
    obtain ⟨ys12, hp12⟩ := BX12.ys
    refine ⟨p, q4, _, _, rfl, ne_of_none hp12 nq4, upd_same, by simp, by show 5 ≤ 1000; decide, BX12.same (Same.put nq4), by omega, fun H13 x b13 BX13 hx => ?_⟩
    obtain ⟨bd, rfl, bd0⟩ : ∃ z : Int, x = .int z ∧ 0 ≤ z := by
      have e18 : (0 : Int) ≤ (10 : Int) ^ (18 : Int).toNat := by decide +kernel
      simp only [List.mem_cons, List.not_mem_nil, or_false] at hx
      rcases hx with rfl | rfl | rfl | rfl | rfl
      · exact ⟨_, rfl, e0'⟩
      · exact ⟨_, rfl, by omega⟩
      · exact ⟨_, rfl, by split <;> omega⟩
      · exact ⟨_, rfl, e18⟩
      · exact ⟨_, rfl, w20⟩
    have hT13 := SqT.box (BX12.same (Same.put nq4)) b13 (SqT.same (Same.put nq4) (SqT.box BX10 (b11.trans b12) hT10))
    have B13 := B10.trans ((b11.trans b12).trans ((But.of (Same.put nq4)).trans b13))
    clear hx b11 b12 b13 BX11 BX12 hT10 BX10 B10 hp12
    -- size
    refine ⟨_, rfl, _, rfl, _, rfl, _, rfl, _, rfl, rfl, rfl, t, m, bd, ls, last, 100, fo, ho, rfl, bd0, hT13, L, l3, Int.le_refl _, (fun s _ h => few s h), .inl rfl, fun H14 s14 => ?_⟩
    have hT14 := SqT.same s14 hT13
    have BX14 := BX13.same s14
    have B14 := B13.trans (But.of s14 (p := p))
    have bk : ∀ {H' : Hp} {u : Addr} {z : Int}, SqT K H' u [.int z, .ref t] → SqT K H' t (ls.map V.int) → last ≤ z → z ≤ 100 → Book K H' u z ls := fun h1 h2 h3 h4 => ⟨⟨t, h1, h2⟩, L.rules h3, h4, L.l6, few _ h4⟩
    refine ⟨fun sz c1 c2 en no => ?_, fun no _ => ?_⟩
    rotate_left
    · -- none
      refine ⟨_, rfl, _, rfl, iteD rfl ⟨_, rfl, by show 2 ≤ sizeLine; decide, fun u nu => ⟨_, rfl, _, rfl, _, rfl, _, rfl, rfl, rfl, u, m, bd, 100, ls, fo, ho, rfl, bd0, bk (SqT.of upd_same) (SqT.same (Same.put nu) hT14) l3 (Int.le_refl _), fun H15 z s15 N => ⟨_, rfl, ?_⟩⟩⟩⟩
      have s16 := (Same.put nu).trans s15
      rw [decide_eq_false (fun q => no 100 l3 (Int.le_refl _) ⟨z, N, q⟩)]
      exact k _ (B14.trans (But.of s16)) ((BX14.same s16).mono (by omega))
    · refine ⟨_, rfl, _, rfl, iteDn (fun q => by cases q) ?_⟩
      -- the size is right
      refine ⟨_, rfl, _, rfl, t, _, _, .int last, rfl, rfl, hT14, atLast L.last, _, rfl, _, _, rfl, rfl, _, rfl, iteD c1 ⟨_, _, rfl, rfl, _, rfl, iteNS c2 ?_⟩⟩
      refine ⟨_, rfl, _, rfl, by show 2 ≤ sizeLine; decide, fun u nu => ⟨_, rfl, _, rfl, _, rfl, _, rfl, rfl, rfl, u, m, bd, sz, ls, fo, ho, rfl, bd0, bk (SqT.of upd_same) (SqT.same (Same.put nu) hT14) c1 c2, fun H15 z s15 N => ⟨_, rfl, iteNS ?_ ?_⟩⟩⟩
      · obtain ⟨z', N', le'⟩ := en
        rw [N.inj (L.rules c1) (cost_cst (L.rules c1)) N']; exact le'
      have s16 := (Same.put nu).trans s15
      have hT16 := SqT.same s16 hT14
      have BX16 := BX14.same s16
      have B16 := B14.trans (But.of s16 (p := p))
      clear N s15 hT14 BX14 B14 hT13 BX13 B13
      -- some
      refine ⟨_, rfl, _, _, rfl, rfl, by show 1 ≤ sizeLine; decide, fun q1 nq1 => ?_⟩
      obtain ⟨ys16, hp16⟩ := BX16.ys
      have pq1 : q1 ≠ p := (ne_of_none hp16 nq1).symm
      have hq1 : upd H15 q1 (.lst [.int (sz - 1)]) q1 = some (.lst [.int (sz - 1)]) := upd_same
      have hT17 := SqT.same (Same.put nq1 (o := .lst [.int (sz - 1)])) hT16
      have BX17 := BX16.same (Same.put nq1 (o := .lst [.int (sz - 1)]))
      have B17 := B16.trans (But.of (Same.put nq1 (o := .lst [.int (sz - 1)])) (p := p))
      generalize upd H15 q1 (.lst [.int (sz - 1)]) = H17 at hq1 hT17 BX17 B17 ⊢
      refine ⟨3, rfl, by decide, by decide, fun D nD => ?_⟩
      obtain ⟨ys17, hp17⟩ := BX17.ys
      have pD : D ≠ p := (ne_of_none hp17 nD).symm
      have qD : q1 ≠ D := ne_of_none hq1 nD
      have nDH : ∀ b o, b ≠ p → H b = some o → b ≠ D := fun b o n e z => by
        subst z
        have := B17 _ _ n e
        rw [nD] at this; cases this
      refine lc_range (lo := 0) (n := (3 : Int).toNat) (fun i H' => ∃ (xs : List Int), But p H H' ∧ BoxAt H' p (n + 40 + i) ∧ SqT K H' t (ls.map V.int) ∧ H' q1 = some (.lst [.int (sz - 1)]) ∧ H' D = some (.lst (xs.map V.int)) ∧ xs.length = i)
        ⟨[], B17.trans (But.of (Same.put nD)), (BX17.same (Same.put nD)).mono (by omega), SqT.same (Same.put nD) hT17, (Same.put nD) _ _ hq1, upd_same, rfl⟩ ?_ ?_
      · rintro i H18 hi ⟨xs, B18, BX18, hT18, hq18, hD18, xl⟩
        have i3 : i < 3 := hi
        obtain ⟨ys18, hp18⟩ := BX18.ys
        refine ⟨rfl, _, rfl, _, rfl, t, _, _, .int last, rfl, rfl, hT18, atLast L.last, _, rfl, _, rfl, _, rfl, _, rfl, t, _, _, .int last, rfl, rfl, hT18, atLast L.last, _, _, rfl, rfl, _, _, rfl, p, (if sz - last > 1 then sz - last else 1), _, rfl, by split <;> omega, by split <;> omega, BX18, by omega, fun H19 v b19 BX19 v0 v1 => ⟨_, _, rfl, rfl, xs.map V.int, ?_, ?_, ?_⟩⟩
        · exact b19 _ _ pD hD18
        · rw [List.length_map]; have := line_big; omega
        · have hD19 := b19 _ _ pD hD18
          refine ⟨xs ++ [last + v], fun b o nn e => ?_, ?_, SqT.but2 hD19 (But.own (But.of (Same.refl _))) (SqT.box BX18 b19 hT18), ?_, by rw [upd_same, List.map_append]; rfl, by rw [List.length_append, xl]; rfl⟩
          · rw [upd_ne (nDH b o nn e)]; exact b19 _ _ nn (B18 b o nn e)
          · obtain ⟨o, m, c, h, r⟩ := BX19
            exact ⟨o, m, c, by rw [upd_ne pD.symm]; exact h, by omega⟩
          · rw [upd_ne qD]; exact b19 _ _ pq1 hq18
      · rintro H18 ⟨xs, B18, BX18, hT18, hq18, hD18, xl⟩
        refine ⟨q1, D, _, _, rfl, rfl, hq18, hD18, by rw [List.length_map, xl]; show 1 + 3 ≤ sizeLine; decide, fun r nr => ?_⟩
        have hr : upd H18 r (.lst ([V.int (sz - 1)] ++ xs.map V.int)) r = some (.lst (((sz - 1) :: xs).map V.int)) := upd_same
        have sr := Same.put nr (o := .lst ([V.int (sz - 1)] ++ xs.map V.int))
        have hT19 := SqT.same sr hT18
        have BX19 := BX18.same sr
        have B19 := B18.trans (But.of sr (p := p))
        generalize upd H18 r (.lst ([V.int (sz - 1)] ++ xs.map V.int)) = H19 at hr sr hT19 BX19 B19 ⊢
        refine ⟨_, rfl, r, rfl, ⟨_, SqL.of hr⟩, ?_⟩
        refine for_list (K := K) (a := r) (xs := ((sz - 1) :: xs).map V.int) (fun i σ H' => ∃ v10 v11 : Option V, σ = [some (.ref p), some (.ref t), some (.int m), some (.int fo), some (.bl ho), some (.int (last + tv)), some (.int edge), some (.int bd), some (.int sz), some (.ref r), v10, v11] ∧ Same H19 H')
          ⟨_, _, rfl, Same.refl _⟩ (fun i σ H' _ ⟨_, _, _, s'⟩ => SqL.of (s' _ _ hr)) ?_ ?_
        · rintro i y σ H' hi ⟨v10, v11, rfl, s'⟩
          obtain ⟨z, hz, rfl⟩ := int_of_map hi
          have hT' := SqT.same s' hT19
          refine ⟨_, rfl, _, rfl, t, _, _, .int last, rfl, rfl, hT', atLast L.last, _, rfl, _, _, rfl, rfl, _, rfl, ?_⟩
          by_cases h1 : last ≤ z
          · refine iteD h1 ⟨_, rfl, _, _, rfl, rfl, _, rfl, ?_⟩
            by_cases h2 : z < sz
            · refine iteD h2 ⟨_, rfl, _, rfl, by show 2 ≤ sizeLine; decide, fun u nu => ⟨_, rfl, _, rfl, _, rfl, _, rfl, rfl, rfl, u, m, bd, z, ls, fo, ho, rfl, bd0, bk (SqT.of upd_same) (SqT.same (Same.put nu) hT') h1 (by omega), fun H2' z2 s2' N => ⟨_, rfl, iteDn (fun q => no z h1 h2 ⟨z2, N, q⟩) ⟨_, _, rfl, s'.trans ((Same.put nu).trans s2')⟩⟩⟩⟩
            · exact iteDn h2 ⟨_, _, rfl, s'⟩
          · exact iteDn h1 ⟨_, rfl, iteF ⟨_, _, rfl, s'⟩⟩
        · rintro σ H' ⟨v10, v11, rfl, s'⟩
          have fin := k H' (B19.trans (But.of s')) ((BX19.same s').mono (by omega))
          refine ⟨_, rfl, _, rfl, rfl, _, rfl, ?_⟩
          by_cases e : bd = edge
          · refine iteNS (congrArg V.int e) ⟨_, rfl, _, rfl, _, _, rfl, rfl, ?_⟩
            have : sz ≤ last + tv := by
              rcases Int.lt_or_le (last + tv) sz with q | q
              · rw [e] at no
                exact absurd eE (no _ tp1 q)
              · exact q
            show Q (.bl (decide (sz ≤ last + tv))) _
            rw [decide_eq_true this]
            exact fin
          · exact iteS (fun q => e (by injection q)) fin
end
end W
namespace W
open PySem PySem.Spec PyProof.Rows L2 G24
/-! ### defs that are only called where no guard stands on the stack (repr hangs on it) -/
structure GFn (P : Program) (w : World) (K : PySem.W.Frag) (mg : Str → Option Value) (base : Heap) (k : Nat) (f : Addr) (fd : FuncData) (ps : List Str) (sp : Sp) : Prop where
  len : ∀ vs H Q E, sp vs H Q E → vs.length = ps.length
  run : ∀ (A : Around) (outer : List Env) (s : Shared) (H : Hp) (args : Args) (us : List Value) (vs : List V) (Q : VK) (E : XK), A.guards = some [] → Room k A → Env0 P w K mg base A outer s H →
    BindsTo s fd args (ps.zip us) → Vals vs us → sp vs H Q E → codeAny (model P w) A (.call (.ref f) args) (CR CX0 outer P w H s Q E) s
theorem gfn {P : Program} {w : World} {K : PySem.W.Frag} {mg : Str → Option Value} {base : Heap} {x qual : Str} {st : Stmt} {f : Addr} {fd : FuncData} {N ps : List Str} {k : Nat} {sp : Sp} (F : Fun K x qual st f fd) (S : FnScope N ps (defScope st))
    (len : ∀ vs H Q E, sp vs H Q E → vs.length = ps.length)
    (body : ∀ (cdv : Value) (A : Around) (outer : List Env) (s : Shared) (H : Hp) (vs : List V) (Q : VK) (E : XK), (A.deeper (envOfC qual (defScope st) s.heap.objs.size f cdv)).guards = some [] → Room k (A.deeper (envOfC qual (defScope st) s.heap.objs.size f cdv)) →
      sp vs H Q E → ∃ t, PSs (cxOf CX0 P w K mg base N qual (defScope st) f cdv A outer s H E).nox (defBody st) t ∧ t { nx := fun _ H' => Q .non H', rt := Q } (start N vs) H) : GFn P w K mg base (k + 1) f fd ps sp := by
  obtain ⟨oc, od, kV, doc, pm, an, cdv, ct, osl, rfl, look, code⟩ := F.ex
  refine ⟨len, fun A outer s H args us vs Q E gd room e0 bd rel h => ?_⟩
  have KS : K.In s.heap := e0.mod.kin.keeps fun b o e => (e0.bs b o e).1
  have NL : s.heap.NoLimit := e0.mod.nolimit.keeps fun b o e => (e0.bs b o e).1
  have arg : ∀ y ∈ ps.zip us, (defScope st).names.lookup y.1 = some .local ∨ ((defScope st).names.lookup y.1 = some .cell ∧ ((cellsFrom (s.heap.objs.size + 1) (defScope st).names []).lookup y.1).isSome = true) := by
    rintro ⟨n, v⟩ hy
    exact (S.par n (List.of_mem_zip hy).1).imp id fun q => ⟨q, PySem.W.cellsFrom_some _ _ _ (.inl q)⟩
  refine codeAny_call_function room.depth (KS _ _ look) rfl S.co S.gen rfl (PySem.W.codeRec_of KS code) (bd _ _ _ _ (wpAny_newFunctionEnv_cells S.kind arg fun env he t x => ?_))
  cases he
  obtain ⟨tr, hp, q⟩ := body cdv A outer s H vs Q E gd (room.deeper _) h
  refine ⟨NL.keeps x.toInCall.keep, codeAny_func (wpAny_mono (hp.nox.run [] t (start N vs) H _ (inv_start S room.hd e0 (len _ _ _ _ h) rel x) q) (fun fl s' r => ?_) fun e s' r => r)⟩
  cases fl with
  | next => let ⟨σ', H', J, q⟩ := r; exact ⟨.non, H', J.os, J.bare, J.base, J.hok, rfl, q⟩
  | ret u => let ⟨v, σ', H', J, rv, q⟩ := r; exact ⟨v, H', J.os, J.bare, J.base, J.hok, rv, q⟩
  | brk => let ⟨_, _, _, q⟩ := r; exact False.elim q
  | cont => let ⟨_, _, _, q⟩ := r; exact False.elim q
section
variable {X : Cx} {k : Nat} {f : Addr} {fd : FuncData} {ps : List Str} {sp : Sp} {x : Str} {p pos : Pos} {e : Expr} {es : List Expr} {t : TA}
theorem pe_gcall (F : GFn X.prog X.w X.K X.mg X.base k f fd ps sp) (gd : X.A.guards = some []) (hr : Room k X.A) (hg : Gl X x) (hm : X.mg x = some (.ref f)) (hk : PySem.W.keepIn X.K (.ref f) = true) (hb : Binds X.K fd ps [])
    (ha : PA X (e :: es) t) (hdb : (x == ("__debug__" : Str)) = false := by decide) (he : starEach (e :: es) X.env = (false, eval e X.env) :: starEach es X.env := by rfl) (hpl : (backTo pos (starEach es X.env)).any (·.1) = false := by rfl) :
    PE X (.Call (.Name x p) (e :: es) [] pos) (tCall sp [] E0 t) := ⟨fun pins s σ H Q I h => by
  refine wpAny_Call_Name_kw (ld_glob I hg hm (PySem.W.callWith_K (h₀ := X.base) I.ok.mod.kin hk (thn (ha.run pos pins s σ H _ I h) fun us s1 z => ?_) he hpl) hdb)
  obtain ⟨vs, H1, J, r, q⟩ := z
  refine ⟨J.kIn, ?_⟩
  rw [List.append_nil] at q
  have hl : us.length = ps.length := r.length.symm.trans (F.len _ _ _ _ q)
  refine wpAny_call (codeAny_mono (F.run X.A X.stack s1 H1 ⟨us, []⟩ us vs Q E0 gd hr J.env0 (by have z := hb s1 us J.kIn (by simpa using hl); simpa using z) r q) fun r s' z => ?_)
  cases r with
  | error er => exact pass0 pins σ H1 s1 er s' J z
  | ok fl =>
    cases fl with
    | ret u => exact J.after z
    | next => exact z.elim
    | brk => exact z.elim
    | cont => exact z.elim⟩
/-! ### repr of a tuple of ints -/
def tint (i : Int) : Str := ((toString i : String) : Str)
theorem repr_ints {prog : Program} {w : World} : ∀ {l : List Int} {us : List Value}, Vals (l.map V.int) us → (∀ i ∈ l, i.natAbs.log2 < 1920) → ReprAll prog w us (l.map tint)
  | [], _, r, _ => by cases r; exact .nil
  | i :: l, _, r, h => by
    cases r with
    | cons r1 r2 =>
      obtain ⟨tk, rfl⟩ := r1
      exact .cons (ReprIs.int tk (h i List.mem_cons_self)) (repr_ints r2 fun j hj => h j (List.mem_cons_of_mem _ hj))
def rRepT (K : PySem.W.Frag) : List V → Hp → VK → Prop := fun xs H Q => ∃ (a : Addr) (is : List Int), xs = [.ref a] ∧ SqT K H a (is.map V.int) ∧ (∀ i ∈ is, i.natAbs.log2 < 1920) ∧ (tupleText (is.map tint)).length ≤ sizeLine ∧ Q (.str (tupleText (is.map tint))) H
theorem call_reprT (gd : X.A.guards = some []) (hu : X.A.units + 64 < cLine) : CallR X (.builtin "repr") (rRepT X.K) := by
  rintro pins s σ H xs us Q I r ⟨a, is, rfl, ht, hs, hz, q⟩
  obtain ⟨u, rfl, ru⟩ := vals1 r
  cases ru
  obtain ⟨its, rv, ⟨o, ho, hcl, n, hd⟩, _⟩ := I.tuple ht
  exact call_repr_slot (by omega) ⟨o, ho, hcl⟩ F.slot_tuple_repr (call_tuple_repr (g := []) ⟨o, ho, hcl⟩ gd (fun c hc => nomatch hc) ho hd (repr_ints rv hs) (fun v tk => ⟨_, _, rfl, .str _, H, I.tok _, ⟨_, rfl⟩, q⟩) hz)
end
end W
namespace W
open PySem PySem.Spec PyProof.Rows L2 G24
/-! ### the head for a law whose def wants no guard on the stack -/
section
variable {P : Program} {w : World} {K : PySem.W.Frag} {mg mb : Str → Option Value} {k : Nat} {fa a : Addr} {fd : FuncData} {x : Str} {sp : Sp} {t : Shared} {vs : List Value} {ns : List Int}
/-- what a call of the law must come to -/
abbrev Ends (t : Shared) : Result → Shared → Prop := fun r u => r = .ok (.ret (.bool true)) ∧ OldK t.heap u.heap ∧ u.os = t.os ∧ AllBare u.gens
theorem gcore (hb : t.heap.Ns builtinsNs mb) (bb : ∀ y : Str, y ≠ "__name__" → mb y = bootBuiltins y) (nl : t.heap.NoLimit) (g0 : t.gens = #[]) (KT : K.In t.heap) (gl : t.heap.Ns mainGlobals mg)
    (scr : t.heap.get? a = some { cls := .type "list", data := .seq vs.toArray }) (room : Room k callerA) (F : ∀ base : Heap, K.In base → base.Ns mainGlobals mg → GFn P w K mg base k fa fd [x] sp)
    (bd : ∀ (s : Shared) (u : Value), BindsTo s fd ⟨[u], []⟩ [(x, u)]) {H : Hp} (h : sp [.ref a] H (fun v _ => v = .bl true) fun _ _ _ => False) (only : Only H) (ok : HOk P w H t.heap) (one : ∀ b, H b ≠ none → b = a) (out : H a ≠ none → K.lookup a = none) :
    codeAny (model P w) callerA (.call (.ref fa) ⟨[.ref a], []⟩) (Ends t) t := by
  have free : ∀ {b : Addr}, b ≠ a → H b = none := fun {b} n => Classical.byContradiction fun q => n (one b q)
  have nota : ∀ {b : Addr} {o : Obj} {es : Array DictEntry} {ep : Nat}, t.heap.get? b = some o → o.data = .dict es ep → b ≠ a := by
    rintro b o es ep e d rfl
    cases scr.symm.trans e
    cases (show Data.seq vs.toArray _ = Data.dict es ep from d)
  have nsb : ∀ {b : Addr} {m : Str → Option Value}, t.heap.Ns b m → (hidT t.heap H).Ns b m := by
    rintro b m ⟨o, es, ep, e, d, r⟩
    exact ⟨o, es, ep, hidT_get e (free (nota e d)), d, r⟩
  have KB : K.In (hidT t.heap H) := fun b o e => by
    refine hidT_get (KT b o e) (Classical.byContradiction fun q => ?_)
    cases one b q
    cases (out q).symm.trans e
  have gb := nsb gl
  have M : Mod K mg (hidT t.heap H) := ⟨KB, gb, ⟨mb, nsb hb, bb⟩, nl.elim fun mc q => ⟨mc, nsb q.1, q.2⟩⟩
  have no : ∀ b : Addr, b ∉ frs ([] : List Env) := fun b q => nomatch (show b ∈ ([] : List Addr) from q)
  have e0 : Env0 P w K mg (hidT t.heap H) callerA [] t H := ⟨rfl, M, fun b o e => of_hidT e, Nat.le_of_eq (hidT_size _ _), trivial, fun b q => absurd q (no b), ok, .of_eq g0⟩
  refine codeAny_mono ((F _ KB gb).run callerA [] t H ⟨[.ref a], []⟩ [.ref a] [.ref a] _ _ rfl room e0 (bd t (.ref a)) (.cons rfl .nil) h) fun r u z => ?_
  cases r with
  | error e => exact z.elim
  | ok fl =>
    cases fl with
    | next => exact z.elim
    | brk => exact z.elim
    | cont => exact z.elim
    | ret y =>
      obtain ⟨v, H', os, bare, un, ok', rv, q⟩ := z
      cases (show v = .bl true from q)
      cases (show y = Value.bool true from rv)
      refine ⟨rfl, OldK.of_keep fun b o e => ?_, os, bare⟩
      rcases only b with q | ⟨ob, xs, q⟩
      · exact un.keep b o e q (no b) (by simp)
      · have e1 := (ok b _ q).1
        have e2 := (ok' b _ (un.frzs b ob _ q)).1
        cases e.symm.trans e1
        exact e2
theorem ghead (hb : t.heap.Ns builtinsNs mb) (bb : ∀ y : Str, y ≠ "__name__" → mb y = bootBuiltins y) (nl : t.heap.NoLimit) (g0 : t.gens = #[]) (KT : K.In t.heap) (gl : t.heap.Ns mainGlobals mg)
    (scr : t.heap.get? a = some { cls := .type "list", data := .seq vs.toArray }) (is : IntsAre vs ns) (len : ns.length ≤ sizeLine) (room : Room k callerA) (F : ∀ base : Heap, K.In base → base.Ns mainGlobals mg → GFn P w K mg base k fa fd [x] sp)
    (bd : ∀ (s : Shared) (u : Value), BindsTo s fd ⟨[u], []⟩ [(x, u)]) (h : ∀ H : Hp, SqL K H a (ns.map V.int) → sp [.ref a] H (fun v _ => v = .bl true) fun _ _ _ => False) :
    codeAny (model P w) callerA (.call (.ref fa) ⟨[.ref a], []⟩) (Ends t) t := by
  have vals := vals_ints is
  cases hk : K.lookup a with
  | some o =>
    cases scr.symm.trans (KT a o hk)
    refine gcore hb bb nl g0 KT gl scr room F bd (H := fun _ => none) (h _ (.inr ⟨_, vs.toArray, _, hk, rfl, rfl, rfl, ?_, by simpa using vals⟩)) (fun b => .inl rfl) (fun b u q => nomatch (show (none : Option HO) = some u from q)) (fun b q => absurd rfl q) fun q => absurd rfl q
    rw [List.size_toArray, is.length]; exact len
  | none =>
    have at_ : ∀ {b : Addr} {u : HO}, (if b = a then some (HO.frz { cls := .type "list", data := .seq vs.toArray } (.lst (ns.map V.int))) else none) = some u → b = a ∧ u = .frz { cls := .type "list", data := .seq vs.toArray } (.lst (ns.map V.int)) := fun {b u} q => by
      by_cases n : b = a
      · rw [if_pos n] at q; cases q; exact ⟨n, rfl⟩
      · rw [if_neg n] at q; cases q
    refine gcore hb bb nl g0 KT gl scr room F bd (H := fun b => if b = a then some (.frz { cls := .type "list", data := .seq vs.toArray } (.lst (ns.map V.int))) else none) (h _ (.inl (.inr ⟨_, if_pos rfl⟩))) (fun b => ?_) (fun b u q => ?_) (fun b q => ?_) fun _ => hk
    · by_cases n : b = a
      · exact .inr ⟨_, _, if_pos n⟩
      · exact .inl (if_neg n)
    · obtain ⟨rfl, rfl⟩ := at_ q
      exact ⟨scr, by rw [List.length_map]; exact len, vs, _, vals, scr⟩
    · exact Classical.byContradiction fun n => q (if_neg n)
end
theorem gwalk {l : PySem.W.OpenLaw} {n k : Nat} {q : Program} {loose : List Str} {XP : (Str → Option Value) → Heap → Prop} {YP : World → Heap → Prop} {d : DefRec} {KK : Params → PySem.W.Frag} {sp : PySem.W.Frag → Sp} {x : Str} (most : l.most = some n) (n1 : n ≤ sizeLine) (nod : d.params.defaults = []) (room : Room k callerA)
    (into : ∀ (w : World) (h : Heap), YP w h → (KK w.params).In h)
    (F : ∀ (w : World) (mg : Str → Option Value) (fa : Addr) (h : Heap), (KK w.params).In h → h.Ns mainGlobals mg → mg d.name = some (.ref fa) →
      ∃ fd : FuncData, (∀ (s : Shared) (u : Value), BindsTo s fd ⟨[u], []⟩ [(x, u)]) ∧ ∀ base : Heap, (KK w.params).In base → base.Ns mainGlobals mg → GFn l.prog w (KK w.params) mg base k fa fd [x] (sp (KK w.params)))
    (h : ∀ (K : PySem.W.Frag) (H : Hp) (a : Addr) (ns : List Int), ns.length ≤ n → SqL K H a (ns.map V.int) → sp K [.ref a] H (fun v _ => v = .bl true) fun _ _ _ => False) : PySem.W.WalkO q loose XP YP l.row.toRowW d [] (fun f vs => PySem.call f vs) := by
  refine Att.attach_call most nod fun w s0 t mg mb fa o pm cd doc a vs ns G Y ho hd hcd hmg obj iv len gens => ?_
  have KT := into w _ Y
  obtain ⟨fd, bd, FF⟩ := F w mg fa _ KT G.T.g hmg
  exact ghead G.T.b G.T.builtins G.T.nolimit gens KT G.T.g obj iv (Nat.le_trans len n1) room FF bd fun H hS => h _ H a ns len hS
end W
namespace W
open PySem L2 G24
abbrev sNr : Stmt := top 21
abbrev sLaw : Stmt := top 22
section
variable {P : Program} {w : World} {K : PySem.W.Frag} {mg : Str → Option Value} {base : Heap} {CW CD fD fCall fBrk fE fA fT fLe fN : Addr} {fdD fdCall fdBrk fdE fdA fdT fdLe fdN : FuncData}
theorem tint_len (i : Int) (h0 : 0 ≤ i) (h1 : i ≤ 30) : (tint i).length ≤ 2 ∧ i.natAbs.log2 < 1920 := by
  have all : ∀ j : Fin 31, (tint (j.val : Int)).length ≤ 2 ∧ ((j.val : Int)).natAbs.log2 < 1920 := by decide +kernel
  have := all ⟨i.toNat, by omega⟩
  simpa [Int.toNat_of_nonneg h0] using this
theorem piled_ints : ∀ l : List Int, (∀ i ∈ l, 0 ≤ i ∧ i ≤ 30) → piled (l.map tint) ≤ 4 * l.length
  | [], _ => Nat.zero_le _
  | i :: l, h => by
    have a := (tint_len i (h i List.mem_cons_self).1 (h i List.mem_cons_self).2).1
    have b := piled_ints l fun j hj => h j (List.mem_cons_of_mem _ hj)
    rw [List.map_cons, piled_cons, List.length_cons]
    omega
theorem rep_fits (l : List Int) (h : ∀ i ∈ l, 0 ≤ i ∧ i ≤ 30) (h5 : l.length ≤ 5) : (tupleText (l.map tint)).length ≤ sizeLine := by
  have a := fmt_text (l.map tint)
  have b := piled_ints l h
  have := line_big
  omega
theorem needs_ge {size : Int} {ls : List Int} (R : Rules size ls) {lim z : Int} {n : Nat} (N : Needs (cost size ls) ls false 0 lim z) (h : lf (cost size ls) ls false (n + 1) ≤ lim) : (n : Int) + 1 ≤ z := by
  have C := cost_cst R
  obtain ⟨m, a, b, e⟩ := N.at_ (Int.le_trans (lf_mono_le R C false (Nat.zero_le _)) h)
  rcases Nat.lt_or_ge m (n + 1) with q | q
  · have := lf_mono_le R C false (show m + 1 ≤ n + 1 from q); omega
  · omega
theorem needs_lt {size : Int} {ls : List Int} (R : Rules size ls) {lim z : Int} {n : Nat} (N : Needs (cost size ls) ls false 0 lim z) (h : lim < lf (cost size ls) ls false (n + 1)) : z ≤ n := by
  have C := cost_cst R
  rcases Int.lt_or_le lim (lf (cost size ls) ls false 0) with q | q
  · rw [N.low q]; omega
  · obtain ⟨m, a, b, e⟩ := N.at_ q
    rcases Nat.lt_or_ge n m with w | w
    · have := lf_mono_le R C false (show n + 1 ≤ m from w); omega
    · omega
theorem b63 (c : Bool) : -(2 ^ 63) ≤ (if c = true then (1 : Int) else 0) ∧ (if c = true then (1 : Int) else 0) < 2 ^ 63 ∧ (if c = true then (1 : Int) else 0).toNat ≤ 1 := by cases c <;> decide
theorem rep01 (c : Bool) (y : V) : (List.replicate (if c = true then (1 : Int) else 0).toNat [y]).flatten = if c = true then [y] else [] := by cases c <;> rfl
/-- one way on for both answers -/
theorem two {R : Bool → Prop} {A : Prop} {N : Nat → Prop} (S : Prop) (g : ∀ c : Bool, (c = true ↔ S) → R c) (ha : A → S) (hb : ∀ n, N n → ¬ S) : (A → ∃ c, V.bl true = .bl c ∧ R c) ∧ (∀ n : Nat, N n → ∃ c, V.bl false = .bl c ∧ R c) :=
  ⟨fun a => ⟨true, rfl, g true ⟨fun _ => ha a, fun _ => rfl⟩⟩, fun n h => ⟨false, rfl, g false ⟨(fun q => by cases q), fun q => absurd q (hb n h)⟩⟩⟩
def spNr (K : PySem.W.Frag) : Sp := fun vs H Q _ => ∃ (p : Addr) (n : Nat), vs = [.ref p] ∧ BoxAt H p n ∧ n + 200 ≤ 1000000 ∧ ∀ H' : Hp, But p H H' → Q (.bl true) H'
theorem scNr : FnScope ["box", "size", "kinds", "whole", "found", "due", "one", "less", "is_same", "limit", "other"] ["box"] (defScope sNr) := ⟨rfl, rfl, rfl, by decide +kernel, rfl, by decide +kernel, by decide +kernel⟩
theorem ok_nr {fa : Addr} {fd : FuncData} (F : Fun K "_law_needless_right" "_law_needless_right" sNr fa fd) (B : Bi mg) (mR : mg "repr" = none) (L : Lib P w K mg base CW CD fD fCall fBrk fdD fdCall fdBrk)
    (GE : FnOk P w K mg base CX0 6 fE fdE ["self", "other"] (spEqD K CW CD)) (mE : Mt K CD "__eq__" fE fdE ["self", "other"]) (GA : FnOk P w K mg base CX0 6 fA fdA ["self", "other"] (spFa K CW CD)) (mA : Mt K CD "first_above" fA fdA ["self", "other"])
    (TK : At P w K mg base "_law_take" 1 fT fdT ["box", "many"] spTake) (bT : Binds K fdT ["box", "many"] []) (LE : At P w K mg base "_law_lengths" 3 fLe fdLe ["box", "top"] (spLen K)) (bLe : Binds K fdLe ["box", "top"] [])
    (NL : At P w K mg base "needless" 7 fN fdN ["rules"] (spNl K)) (bNl : Binds K fdN ["rules"] []) : GFn P w K mg base 8 fa fd ["box"] (spNr K) := by
  refine gfn F scNr (fun vs H Q E h => ?_) (fun cdv A outer s H vs Q E gd hr h => ?_)
  · obtain ⟨p, n, rfl, _⟩ := h
    rfl
  · obtain ⟨p, n, rfl, BX, hn, k⟩ := h
    have nd := scNr.nd
    obtain ⟨dD, vD, bD⟩ := L.kD.none_
    have r1 : Room 1 _ := hr.mono (by decide)
    have r3 : Room 3 _ := hr.mono (by decide)
    have r4 : Room 4 _ := hr.mono (by decide)
    have r6 : Room 6 _ := hr.mono (by decide)
    refine ⟨_, pss_cons (ps_set (i := 1) nd rfl (.inl rfl) (pe_op op_add pe_int (pe_call TK.g r1 (by rfl) TK.m TK.k bT .nil pass0 (pa_cons (pv 0) (pa_cons pe_int pa_nil)))))
      (pss_cons (ps_set (i := 2) nd rfl (.inl rfl) (pe_call LE.g r3 (by rfl) LE.m LE.k bLe .nil pass0 (pa_cons (pv 0) (pa_cons (pe_op op_sub (pv 1) (pe_call TK.g r1 (by rfl) TK.m TK.k bT .nil pass0 (pa_cons (pv 0) (pa_cons pe_int pa_nil)))) pa_nil))))
      (pss_cons (ps_par (i := 3) (j := 4) (by rfl) nd rfl rfl (by decide) rfl rfl (pa_cons (pe_make L.MD L.GD r6 (by rfl) L.mD bD vD pass0 (pa_cons (pe_tup (pa_cons (pv 1) (pa_cons (pv 2) pa_nil))) pa_nil)) (pa_cons (pe_call NL.g hr (by rfl) NL.m NL.k bNl .nil pass0 (pa_cons (pe_tup (pa_cons (pv 1) (pa_cons (pv 2) pa_nil))) pa_nil)) pa_nil)) (by rfl))
      (pss_cons (ps_if (pt_cmpR op_eq (pe_callB call_len_seq (by rfl) B.len PySem.boot_len (pa_cons (pv 2) pa_nil)) pe_int (nomark _)) (pss_one (ps_ret (pe_cmpR (op_eqD hr.units) (pv 4) (pe_tup pa_nil) (nomark _)))) pss_nil)
      (pss_cons (ps_set (i := 5) nd rfl (.inl rfl) (pe_lst pa_nil))
      (pss_cons (ps_for PassesOwn.never rfl (pi_tup (pv 2)) (pg_name (i := 6) nd rfl (.inr rfl))
        (pss_cons (ps_set (i := 7) nd rfl (.inl rfl) (pe_make L.MD L.GD r6 (by rfl) L.mD bD vD pass0 (pa_cons (pe_tup (pa_cons (pv 1) (pa_cons (pe_callTy call_tuple_of (by rfl) B.tuple (by decide +kernel) (pa_cons
            (pe_lc (own := [("other", 10)]) (g := gName 10) rfl nd (pi_tup (pv 2)) (blkOk_by (own := [("other", 10)]) (N := ["box", "size", "kinds", "whole", "found", "due", "one", "less", "is_same", "limit", "other"]) (sc := defScope sNr) (by decide +kernel))
              (fun _ _ _ _ _ => pg_name (i := 10) nd rfl (Or.inl rfl)) (fun _ _ _ _ _ => pts_one (pt_cmpR op_ne (pv 10) (pv 6) (nomark _))) (fun _ _ _ _ _ => pv 10)) pa_nil)) pa_nil))) pa_nil)))
        (pss_cons (ps_set (i := 8) nd rfl (.inl rfl) (pe_cmpR (op_eqO (C := CD) GE mE.mt.at_ mE.mt.fn mE.b pass0 r6) (pv 7) (pv 3) (nomark _)))
        (pss_cons (ps_set (i := 5) nd rfl (.inl rfl) (pe_op op_cat (pv 5) (pe_op op_rep (pe_lst (pa_cons (pv 6) pa_nil)) (pe_callTy call_int1 (by rfl) B.int (by decide +kernel) (pa_cons (pv 8) pa_nil)))))
        (pss_cons (ps_set (i := 9) nd rfl (.inl rfl) (pe_meth (pv 3) L.T.cl mA.mt GA r6 mA.b .nil pass0 (pa_cons (pv 7) pa_nil)))
        (pss_cons (ps_if (pw_or (pt_cmpR op_ne (pe_cmp (pc_isN (pv 9))) (pv 8) (nomark _)) (pw_or1 (pt_cmp (pc_notN (pe_meth (pv 7) L.T.cl mA.mt GA r6 mA.b .nil pass0 (pa_cons (pv 3) pa_nil)))))).pt (pss_one (ps_ret pe_bl)) pss_nil)
        (pss_one (ps_if (pw_and (pt_cmp (pc_notN (pv 9))) (pw_and1 (pt_cmpR op_le (StX.pe_callO (pv 3) L.cO (L.GC.raw L.bC .nil) r4 pass0 (pa_cons (pv 9) pa_nil)) (StX.pe_callO (pv 7) L.cO (L.GC.raw L.bC .nil) r4 pass0 (pa_cons (pv 9) pa_nil)) (nomark _)))).pt (pss_one (ps_ret pe_bl)) pss_nil))))))))
      (pss_one (ps_ret (pe_cmpR op_eq (pe_callB (call_reprT gd hr.units) (by rfl) mR PyProof.Rows.boot_repr (pa_cons (pv 4) pa_nil)) (pe_callB (call_reprT gd hr.units) (by rfl) mR PyProof.Rows.boot_repr (pa_cons (pe_callTy call_tuple_of (by rfl) B.tuple (by decide +kernel) (pa_cons (pv 5) pa_nil)) pa_nil)) (nomark _))))))))), ?_⟩
    -- size, kinds
    refine ⟨_, rfl, p, 21, n, rfl, by decide, by decide, BX, by omega, fun H1 v b1 BX1 v0 v1 => ⟨_, _, rfl, rfl, ?_⟩⟩
    refine ⟨_, rfl, _, rfl, _, rfl, p, 4, _, rfl, by decide, by decide, BX1, by omega, fun H2 u b2 BX2 u0 u1 => ⟨_, _, rfl, rfl, p, 10 + v - u, _, rfl, by omega, by omega, BX2, by omega, fun H3 t ls b3 BX3 ht LO => ?_⟩⟩
    have B3 : But p H H3 := (b1.trans b2).trans b3
    have R : Rules (10 + v) ls := ⟨(fun e => by have := LO.mem; rw [e] at this; cases this), LO.asc, LO.lo, fun l hl => by have := LO.hi l hl; omega⟩
    have sz30 : 10 + v ≤ 30 := by omega
    obtain ⟨size, eS⟩ : ∃ size, size = 10 + v := ⟨_, rfl⟩
    rw [← eS] at R sz30
    have hT : SqT K H3 t (ls.map V.int) := SqT.of ht
    clear b1 b2 b3 BX1 BX2 BX3 ht BX
    -- whole, found
    refine ⟨_, rfl, _, rfl, by show 2 ≤ sizeLine; decide, fun q1 nq1 => fun x dx nx ndx nex => ?_⟩
    have bk : ∀ {H' : Hp} {q : Addr}, SqT K H' q [.int (10 + v), .ref t] → SqT K H' t (ls.map V.int) → Bk K H' q size ls := fun h1 h2 => ⟨⟨t, by rw [eS]; exact h1, h2⟩, R, by omega, LO.l5⟩
    have bk1 := (bk (H' := upd H3 q1 (.tup [.int (10 + v), .ref t])) (q := q1) (SqT.of upd_same) (SqT.same (Same.put nq1) hT)).same (Same.made1 (C := CD) nx ndx)
    refine ⟨x, dx, q1, size, ls, 0, false, rfl, upd_same, bk1.book, fun H5 r per b e1 D => ⟨rfl, _, rfl, _, rfl, by show 2 ≤ sizeLine; decide, fun q2 nq2 => ?_⟩⟩
    have s5 : Same H3 H5 := (Same.put nq1).trans (Same.make nx ndx e1)
    refine ⟨q2, size, ls, rfl, bk (SqT.of upd_same) (SqT.same (s5.trans (Same.put nq2)) hT), fun ft H7 s7 hft => ⟨_, _, rfl, ?_⟩⟩
    have s37 := s5.trans ((Same.put nq2).trans s7)
    have D7 := D.same ((Same.put nq2).trans s7)
    have hT7 := SqT.same s37 hT
    have B7 := B3.trans (But.of s37 (p := p))
    clear bk1 nx ndx nex e1 D nq1 nq2 s5 s7 s37 hT B3
    -- one length only
    refine ⟨_, rfl, t, _, rfl, .inr hT7, rfl, _, rfl, ?_⟩
    rw [List.length_map]
    by_cases h1 : ls.length = 1
    · rw [if_pos h1] at hft
      refine iteD (congrArg V.int (by omega)) ⟨_, rfl, by show 0 ≤ sizeLine; exact Nat.zero_le _, fun q nq => ⟨.tuple [], .tuple [], .tup (SqT.same (Same.put nq) hft) .nil, .tup (xs := []) (SqT.of upd_same) .nil, rfl, rfl, ?_⟩⟩
      exact k _ (B7.trans (But.of (Same.put nq)))
    refine iteDn (fun q => h1 (by injection q with q; omega)) ?_
    rw [if_neg h1] at hft
    -- due
    refine ⟨by show 0 ≤ sizeLine; exact Nat.zero_le _, fun dl ndl => ?_⟩
    have hdl : upd H7 dl (.lst []) dl = some (.lst []) := upd_same
    have s8 : Same H7 (upd H7 dl (.lst [])) := Same.put ndl
    have D8 := D7.same s8
    have hT8 := SqT.same s8 hT7
    have B8 := B7.trans (But.of s8 (p := p))
    have hf8 := SqT.same s8 hft
    generalize upd H7 dl (.lst []) = H8 at hdl D8 hT8 B8 hf8 ⊢
    clear s8 hT7 D7 B7 hft ndl
    have DA8 : DA K CW CD H8 x size ls := ⟨r, per, b, D8⟩
    refine ⟨_, rfl, t, rfl, ⟨_, hT8⟩, ?_⟩
    refine for_tup (K := K) (a := t) (xs := ls.map V.int) (fun i σ H' => ∃ (v6 v7 v8 v9 v10 : Option V) (dd : Addr), σ = [some (.ref p), some (.int (10 + v)), some (.ref t), some (.ref x), some (.ref ft), some (.ref dd), v6, v7, v8, v9, v10] ∧ Same H8 H' ∧ H' dd = some (.lst ((due size ls (ls.take i)).map V.int)))
      ⟨none, none, none, none, none, dl, rfl, Same.refl _, hdl⟩ (fun i σ H' _ ⟨_, _, _, _, _, _, _, s', _⟩ => SqT.same s' hT8) ?_ ?_
    · rintro i y σ H' hi ⟨v6, v7, v8, v9, v10, dd, rfl, s', hdd⟩
      obtain ⟨z, hz, rfl⟩ := int_of_map hi
      have hT' := SqT.same s' hT8
      -- less
      refine ⟨_, rfl, _, rfl, t, rfl, ⟨_, hT'⟩, fun D0 nD0 => ?_⟩
      refine lc_tup (K := K) (a := t) (xs := ls.map V.int) (fun j H3 => Same H' H3 ∧ H3 D0 = some (.lst ((oth (ls.take j) z).map V.int))) ⟨Same.put nD0, upd_same⟩ (fun j H3 _ ⟨s3, _⟩ => SqT.same s3 hT') ?_ ?_
      · rintro j y H3 hj ⟨s3, hD⟩
        obtain ⟨u, hu, rfl⟩ := int_of_map hj
        have ot := oth_take (x := z) hu
        refine ⟨rfl, _, rfl, _, rfl, rfl, _, rfl, ?_⟩
        by_cases q : u = z
        · rw [if_pos q] at ot
          exact iteNS (congrArg V.int q) ⟨s3, by rw [ot]; exact hD⟩
        · rw [if_neg q] at ot
          refine iteS (fun w => q (by injection w)) ⟨_, rfl, _, hD, ?_, Same.wr nD0 s3, by rw [upd_same, ot, List.map_append]; rfl⟩
          rw [List.length_map]
          have h5 := LO.l5
          have a1 := oth_len (ls.take j) z
          rw [List.length_take] at a1
          have := line_big
          omega
      · rintro H3 ⟨s3, hD⟩
        rw [List.length_map, List.take_length] at hD
        refine ⟨D0, _, rfl, .inl ⟨SqL.of hD, fun to nto => ?_⟩⟩
        have s4 : Same H' (upd H3 to (.tup ((oth ls z).map V.int))) := s3.trans (Same.put nto)
        have hto : upd H3 to (.tup ((oth ls z).map V.int)) to = some (.tup ((oth ls z).map V.int)) := upd_same
        generalize upd H3 to (.tup ((oth ls z).map V.int)) = H4 at s4 hto ⊢
        refine ⟨by show 2 ≤ sizeLine; decide, fun u nu => fun x' dx' nx' ndx' nex' => ?_⟩
        have s5 := s4.trans (Same.put nu (o := .tup [.int (10 + v), .ref to]))
        have RO := oth_rules R h1 z
        have BO : Bk K (upd H4 u (.tup [.int (10 + v), .ref to])) u size (oth ls z) := ⟨⟨to, by rw [eS]; exact SqT.of upd_same, SqT.of ((Same.put nu) _ _ hto)⟩, RO, by omega, Nat.le_trans (oth_len ls z) LO.l5⟩
        refine ⟨x', dx', u, size, oth ls z, 0, false, rfl, upd_same, (BO.same (Same.made1 nx' ndx')).book, fun H5 r' per' b' e5 D5 => ⟨rfl, ?_⟩⟩
        have s6 := s5.trans (Same.make nx' ndx' e5)
        have DX5 := DA8.same (s'.trans s6)
        have DL5 : DA K CW CD H5 x' size (oth ls z) := ⟨_, _, _, D5⟩
        obtain ⟨dq, aq, wq, hq, _⟩ := id D5.ex
        have DD8 := D8.same (s'.trans s6)
        obtain ⟨dw, aw, ww, hw, _⟩ := id DD8.ex
        have hdd5 := s6 _ _ hdd
        have sub := fun n => brk_sub R RO (fun l hl => oth_sub hl) n
        clear D0 nD0 s3 hD nto hto nu BO nx' ndx' nex' e5 s4 s5
        -- is_same
        refine ⟨_, rfl, _, rfl, x', x, dq, dw, _, _, rfl, rfl, hq, hw, x', x, size, size, oth ls z, ls, rfl, DL5, DX5, fun H6 s7 => two (Sm size ls z) (fun c hc => ?_) (fun al => al) (fun n hn al => hn (al n).symm)⟩
        -- due
        have dt := due_take (size := size) hz
        have dl5 : (due size ls (ls.take i)).length ≤ 5 := by
          have a := due_len size ls (ls.take i)
          rw [List.length_take] at a
          have := LO.l5
          omega
        refine ⟨_, rfl, _, rfl, by show 1 ≤ sizeLine; decide, fun l1 nl1 => ⟨_, rfl, .inr ⟨c, rfl, l1, _, _, rfl, rfl, upd_same, (b63 c).1, (b63 c).2.1, ?_, fun l2 nl2 => ⟨dd, l2, _, _, rfl, rfl, (Same.put nl2) _ _ ((Same.put nl1) _ _ (s7 _ _ hdd5)), upd_same, ?_, fun l3 nl3 => ?_⟩⟩⟩⟩
        · have := (b63 c).2.2
          have := line_big
          rw [List.length_singleton]; omega
        · rw [rep01, List.length_map]
          have := line_big
          split
          · rw [List.length_singleton]; omega
          · rw [List.length_nil]; omega
        rw [rep01] at nl3 ⊢
        have el : (due size ls (ls.take i)).map V.int ++ (if c = true then [V.int z] else []) = (due size ls (ls.take (i + 1))).map V.int := by
          cases c with
          | true => rw [dt.1 (hc.mp rfl), List.map_append]; rfl
          | false => rw [dt.2 (fun q => by cases hc.mpr q)]; simp
        rw [el]
        have s8 := (s7.trans ((Same.put nl1 (o := .lst [.int z])).trans (Same.put nl2 (o := .lst (if c = true then [V.int z] else []))))).trans (Same.put nl3 (o := .lst ((due size ls (ls.take (i + 1))).map V.int)))
        have hdd8 : upd (upd (upd H6 l1 (.lst [.int z])) l2 (.lst (if c = true then [V.int z] else []))) l3 (.lst ((due size ls (ls.take (i + 1))).map V.int)) l3 = some (.lst ((due size ls (ls.take (i + 1))).map V.int)) := upd_same
        generalize upd (upd (upd H6 l1 (.lst [.int z])) l2 (.lst (if c = true then [V.int z] else []))) l3 (.lst ((due size ls (ls.take (i + 1))).map V.int)) = H9 at s8 hdd8 ⊢
        have DX9 := DX5.same s8
        have DL9 := DL5.same s8
        have DD9 := DD8.same s8
        have D9 := D5.same s8
        have hx9 := s8 _ _ hw
        have hq9 := s8 _ _ hq
        have s9 := (s'.trans s6).trans s8
        -- limit
        refine ⟨_, rfl, x, dw, _, rfl, hx9, look_no (by decide +kernel), _, rfl, x, x', size, size, ls, oth ls z, rfl, DX9, DL9, fun H10 s10 => ⟨fun al => ?_, fun n hn => ?_⟩⟩
        · have ct : c = true := hc.mpr fun n => Int.le_antisymm (sub n) (al n)
          subst ct
          refine ⟨_, rfl, _, rfl, rfl, _, rfl, iteNS rfl ⟨_, rfl, x', dq, _, rfl, s10 _ _ hq9, look_no (by decide +kernel), _, rfl, x', x, size, size, oth ls z, ls, rfl, DL9.same s10, DX9.same s10, fun H11 s11 => ⟨fun _ => ⟨_, rfl, iteNS rfl ?_⟩, fun n hn => absurd (sub n) (by omega)⟩⟩⟩
          exact ⟨_, rfl, _, rfl, iteNS rfl (iteF ⟨_, _, _, _, _, l3, rfl, s9.trans (s10.trans s11), (s10.trans s11) _ _ hdd8⟩)⟩
        · have cf : c = false := by
            cases c with
            | false => rfl
            | true => have := hc.mp rfl n; omega
          subst cf
          refine ⟨_, rfl, _, rfl, rfl, _, rfl, iteNS (congrArg V.bl (decide_eq_false (fun q => by cases q))) ⟨_, rfl, x', dq, _, rfl, s10 _ _ hq9, look_no (by decide +kernel), _, rfl, x', x, size, size, oth ls z, ls, rfl, DL9.same s10, DX9.same s10, fun H11 s11 => ⟨fun _ => ⟨_, rfl, iteNS rfl ?_⟩, fun n hn => absurd (sub n) (by omega)⟩⟩⟩
          have s12 := s10.trans s11
          have g1 := lf_ge R (cost_cst R) false (n + 1)
          have g0 : (0 : Int) ≤ brk size ls n := by show (0 : Int) ≤ lf (cost size ls) ls false (n + 1); omega
          refine ⟨_, rfl, _, rfl, iteS (fun q => by cases q) ?_⟩
          refine ⟨_, rfl, x, rfl, _, rfl, .inr ⟨_, _, s12 _ _ hx9⟩, x, _, size, ls, 0, false, r, per, b, rfl, g0, DD9.same s12, fun H12 z1 s13 N1 => ?_⟩
          refine ⟨_, rfl, x', rfl, _, rfl, .inr ⟨_, _, (s12.trans s13) _ _ hq9⟩, x', _, size, oth ls z, 0, false, r', per', b', rfl, g0, D9.same (s12.trans s13), fun H13 z2 s14 N2 => ⟨_, _, rfl, rfl, _, rfl, iteDn ?_ ?_⟩⟩
          · have a1 := needs_ge R N1 (Int.le_refl _)
            have a2 := needs_lt RO N2 hn
            omega
          · have s15 := (s12.trans s13).trans s14
            exact ⟨_, _, _, _, _, l3, rfl, s9.trans s15, s15 _ _ hdd8⟩
    · rintro σ H' ⟨v6, v7, v8, v9, v10, dd, rfl, s', hdd⟩
      rw [List.length_map, List.take_length] at hdd
      have small : ∀ i ∈ due size ls ls, 0 ≤ i ∧ i ≤ 30 := fun i hi => by
        have m := (List.mem_filter.mp hi).1
        have a := R.lo i m
        have c := R.hi i m
        omega
      have sm2 : ∀ i ∈ due size ls ls, i.natAbs.log2 < 1920 := fun i hi => (tint_len i (small i hi).1 (small i hi).2).2
      have fits := rep_fits _ small (Nat.le_trans (due_len size ls ls) LO.l5)
      refine ⟨_, rfl, ft, due size ls ls, rfl, SqT.same s' hf8, sm2, fits, _, rfl, dd, _, rfl, .inl ⟨SqL.of hdd, fun tt ntt => ⟨tt, due size ls ls, rfl, SqT.of upd_same, sm2, fits, rfl, ?_⟩⟩⟩
      rw [decide_eq_true rfl]
      exact k _ (B8.trans (But.of (s'.trans (Same.put ntt))))
end
end W
namespace W
open PySem L2 G24
section
variable {P : Program} {w : World} {K : PySem.W.Frag} {mg : Str → Option Value} {base : Heap} {fB fS fN : Addr} {fdB fdS fdN : FuncData}
def spLaw (K : PySem.W.Frag) : Sp := fun vs H Q _ => ∃ (a : Addr) (ns : List Int), vs = [.ref a] ∧ SqL K H a (ns.map V.int) ∧ ns.length ≤ 63 ∧ ∀ H', Q (.bl true) H'
theorem scLaw : FnScope ["script", "k", "box"] ["script"] (defScope sLaw) := ⟨rfl, rfl, rfl, by decide +kernel, rfl, by decide +kernel, by decide +kernel⟩
theorem ok_law {fa : Addr} {fd : FuncData} (F : Fun K "law" "law" sLaw fa fd) (B : Bi mg)
    (BX : At P w K mg base "_law_box" 1 fB fdB ["script", "k"] (spBox K)) (bB : Binds K fdB ["script", "k"] [])
    (SR : At P w K mg base "_law_size_right" 10 fS fdS ["box"] (spSR K)) (bS : Binds K fdS ["box"] [])
    (gN : GFn P w K mg base 8 fN fdN ["box"] (spNr K)) (kN : PySem.W.keepIn K (.ref fN) = true) (mN : mg "_law_needless_right" = some (.ref fN)) (bN : Binds K fdN ["box"] []) : GFn P w K mg base 11 fa fd ["script"] (spLaw K) := by
  refine gfn F scLaw (fun vs H Q E h => ?_) (fun cdv A outer s H vs Q E gd hr h => ?_)
  · obtain ⟨a, ns, rfl, _⟩ := h
    rfl
  · obtain ⟨a, ns, rfl, hS, hl, k⟩ := h
    have nd := scLaw.nd
    have r1 : Room 1 _ := hr.mono (by decide)
    have r8 : Room 8 _ := hr.mono (by decide)
    refine ⟨_, pss_cons (ps_for PassesOwn.never rfl (pi_range1 (by rfl) B.range (pa_cons (pe_callB (call_max2 rfl) (by rfl) B.max PyProof.Rows.boot_max (pa_cons pe_int (pa_cons (pe_callB (call_min2 rfl) (by rfl) B.min PyProof.Rows.boot_min (pa_cons pe_int (pa_cons (pe_callB call_len_seq (by rfl) B.len PySem.boot_len (pa_cons (pv 0) pa_nil)) pa_nil))) pa_nil))) pa_nil)) (pg_name (i := 1) nd rfl (.inl rfl))
        (pss_cons (ps_set (i := 2) nd rfl (.inl rfl) (pe_call BX.g r1 (by rfl) BX.m BX.k bB .nil pass0 (pa_cons (pv 0) (pa_cons (pv 1) pa_nil))))
        (pss_one (ps_if (pw_or (pt_not (pt_val (pe_call SR.g hr (by rfl) SR.m SR.k bS .nil pass0 (pa_cons (pv 2) pa_nil)))) (pw_or1 (pt_not (pt_val (pe_gcall gN gd r8 (by rfl) mN kN bN (pa_cons (pv 2) pa_nil)))))).pt (pss_one (ps_ret pe_bl)) pss_nil))))
      (pss_one (ps_ret pe_bl)), ?_⟩
    refine ⟨_, rfl, a, _, rfl, .inl hS, _, _, rfl, _, _, rfl, ?_⟩
    rw [List.length_map]
    have hb : ∃ m : Nat, (if (if ((ns.length : Nat) : Int) < 2 then ((ns.length : Nat) : Int) else 2) > 1 then (if ((ns.length : Nat) : Int) < 2 then ((ns.length : Nat) : Int) else 2) else 1) = m ∧ m ≤ 2 := by
      by_cases c : ((ns.length : Nat) : Int) < 2
      · rw [if_pos c]
        exact ⟨1, by split <;> omega, by decide⟩
      · rw [if_neg c]
        exact ⟨2, by decide, by decide⟩
    obtain ⟨m, e, hm⟩ := hb
    refine ⟨_, rfl, ?_⟩
    rw [e]
    refine ⟨by omega, by omega, ?_⟩
    refine for_range (lo := 0) (n := (m : Int).toNat) (fun i σ H1 => ∃ v1 v2 : Option V, σ = [some (.ref a), v1, v2] ∧ Same H H1) ⟨none, none, rfl, Same.refl H⟩ ?_ ?_
    · rintro i σ H1 hi ⟨v1, v2, rfl, s1⟩
      refine ⟨_, rfl, _, rfl, a, ns, _, rfl, s1.seq hS, by omega, by omega, fun p H2 np s2 BX2 => ?_⟩
      refine ⟨_, rfl, p, 0, rfl, BX2, by decide, fun H3 b3 BX3 => ⟨_, rfl, iteF ⟨_, rfl, p, 100, rfl, BX3.mono (by decide), by decide, fun H4 b4 => ⟨_, rfl, iteF ⟨_, _, rfl, s1.trans fun b o e => b4 b o (ne_of_none e np) (b3 b o (ne_of_none e np) (s2 b o e))⟩⟩⟩⟩⟩
    · rintro σ H1 ⟨v1, v2, rfl, s1⟩
      exact k H1
end
end W
/-! ### what the top has written (each a fact that k_is finds), and the head of the law -/
namespace W
open PySem L2 G24
theorem all_mk {l : PySem.W.OpenLaw} {w : World} {K : PySem.W.Frag} {h : Heap} {mg : Str → Option Value} {fa CW CD pFo fWi fSh fRo fEe fBy fDi fLf fBr fCa fNu fGo fFn fFa fEq fLa fTo fTu fNl fBx fTk fOf fLe fSr fNr fLw fNe fEn fGr fSi fFo DDi DNe DEn DGr DSi : Addr} {restFo : List Value} (X : K.In h) (G : h.Ns mainGlobals mg) (hfa : mg "law" = some (.ref fa))
    {odWi anWi odSh anSh odRo anRo odEe anEe odBy anBy odDi anDi odLf anLf odBr anBr odCa anCa odNu anNu odGo anGo odFn anFn odFa anFa odEq anEq odLa anLa odTo anTo odTu anTu odNl anNl odBx anBx odTk anTk odOf anOf odLe anLe odSr anSr odNr anNr odLw anLw odNe anNe odEn anEn odGr anGr odSi anSi odFo anFo : Option Addr} {slWi slSh slRo slEe slBy slDi slLf slBr slCa slNu slGo slFn slFa slEq slLa slTo slTu slNl slBx slTk slOf slLe slSr slNr slLw slNe slEn slGr slSi slFo : Array (Option Value)}
    {ocWi dcWi pmWi cdWi ctWi kVWi ocSh dcSh pmSh cdSh ctSh kVSh ocRo dcRo pmRo cdRo ctRo kVRo ocEe dcEe pmEe cdEe ctEe kVEe ocBy dcBy pmBy cdBy ctBy kVBy ocDi dcDi pmDi cdDi ctDi ocLf dcLf pmLf cdLf ctLf kVLf ocBr dcBr pmBr cdBr ctBr kVBr ocCa dcCa pmCa cdCa ctCa kVCa ocNu dcNu pmNu cdNu ctNu kVNu ocGo dcGo pmGo cdGo ctGo kVGo ocFn dcFn pmFn cdFn ctFn kVFn ocFa dcFa pmFa cdFa ctFa kVFa ocEq dcEq pmEq cdEq ctEq kVEq ocLa dcLa pmLa cdLa ctLa kVLa ocTo dcTo pmTo cdTo ctTo kVTo ocTu dcTu pmTu cdTu ctTu kVTu ocNl dcNl pmNl cdNl ctNl kVNl ocBx dcBx pmBx cdBx ctBx kVBx ocTk dcTk pmTk cdTk ctTk kVTk ocOf dcOf pmOf cdOf ctOf kVOf ocLe dcLe pmLe cdLe ctLe kVLe ocSr dcSr pmSr cdSr ctSr kVSr ocNr dcNr pmNr cdNr ctNr kVNr ocLw dcLw pmLw cdLw ctLw kVLw ocNe dcNe pmNe cdNe ctNe ocEn dcEn pmEn cdEn ctEn ocGr dcGr pmGr cdGr ctGr ocSi dcSi pmSi cdSi ctSi ocFo dcFo pmFo cdFo ctFo kVFo : Value} {tkDi tkNe tkEn tkGr tkSi tkMS : Tok}
    (aCW : PySem.W.nsIn K mainGlobals "Walks" = some (some (.ref CW)))
    (pgCW : PySem.W.plainGet K CW Str.empty = true)
    (hdCW : PySem.W.hasDictIn K CW = true)
    (poCW : PySem.W.plainOver K CW = true)
    (saCW : PySem.W.findIn K (.ref CW) "__setattr__" = some (some (.builtin "object.__setattr__")))
    (mkCW : PySem.W.makesIn K CW = true)
    (kcCW : PySem.W.keepIn K (.ref CW) = true)
    (nCW_lengths : PySem.W.findIn K (.ref CW) "lengths" = some none)
    (nCW_costs : PySem.W.findIn K (.ref CW) "costs" = some none)
    (nCW_rows : PySem.W.findIn K (.ref CW) "rows" = some none)
    (nCW_regular_from : PySem.W.findIn K (.ref CW) "regular_from" = some none)
    (nCW_period : PySem.W.findIn K (.ref CW) "period" = some none)
    (nCW_bytes : PySem.W.findIn K (.ref CW) "bytes" = some none)
    (aWi : PySem.W.findIn K (.ref CW) "__init__" = some (some (.ref fWi)))
    (iWi : PySem.W.isFn K (.ref fWi) = true)
    (lWi : K.lookup fWi = some ⟨ocWi, odWi, .func (PySem.W.fnOf "__init__" "Walks.__init__" (defArgs sWInit) (defBody sWInit) (defScope sWInit) .none kVWi dcWi pmWi anWi cdWi ctWi), slWi⟩)
    (cWi : PySem.W.codeIn K cdWi "Walks.__init__" = true)
    (kWi : PySem.W.keepIn K (.ref fWi) = true)
    (aSh : PySem.W.findIn K (.ref CW) "shape_of" = some (some (.ref fSh)))
    (iSh : PySem.W.isFn K (.ref fSh) = true)
    (lSh : K.lookup fSh = some ⟨ocSh, odSh, .func (PySem.W.fnOf "shape_of" "Walks.shape_of" (defArgs sShape) (defBody sShape) (defScope sShape) .none kVSh dcSh pmSh anSh cdSh ctSh), slSh⟩)
    (cSh : PySem.W.codeIn K cdSh "Walks.shape_of" = true)
    (kSh : PySem.W.keepIn K (.ref fSh) = true)
    (aRo : PySem.W.findIn K (.ref CW) "row_behind" = some (some (.ref fRo)))
    (iRo : PySem.W.isFn K (.ref fRo) = true)
    (lRo : K.lookup fRo = some ⟨ocRo, odRo, .func (PySem.W.fnOf "row_behind" "Walks.row_behind" (defArgs sRow) (defBody sRow) (defScope sRow) .none kVRo dcRo pmRo anRo cdRo ctRo), slRo⟩)
    (cRo : PySem.W.codeIn K cdRo "Walks.row_behind" = true)
    (kRo : PySem.W.keepIn K (.ref fRo) = true)
    (aEe : PySem.W.findIn K (.ref CW) "least_end" = some (some (.ref fEe)))
    (iEe : PySem.W.isFn K (.ref fEe) = true)
    (lEe : K.lookup fEe = some ⟨ocEe, odEe, .func (PySem.W.fnOf "least_end" "Walks.least_end" (defArgs sEnd) (defBody sEnd) (defScope sEnd) .none kVEe dcEe pmEe anEe cdEe ctEe), slEe⟩)
    (cEe : PySem.W.codeIn K cdEe "Walks.least_end" = true)
    (kEe : PySem.W.keepIn K (.ref fEe) = true)
    (aBy : PySem.W.findIn K (.ref CW) "least_bytes" = some (some (.ref fBy)))
    (iBy : PySem.W.isFn K (.ref fBy) = true)
    (lBy : K.lookup fBy = some ⟨ocBy, odBy, .func (PySem.W.fnOf "least_bytes" "Walks.least_bytes" (defArgs sBytes) (defBody sBytes) (defScope sBytes) .none kVBy dcBy pmBy anBy cdBy ctBy), slBy⟩)
    (cBy : PySem.W.codeIn K cdBy "Walks.least_bytes" = true)
    (kBy : PySem.W.keepIn K (.ref fBy) = true)
    (aCD : PySem.W.nsIn K mainGlobals "Demand" = some (some (.ref CD)))
    (pgCD : PySem.W.plainGet K CD Str.empty = true)
    (hdCD : PySem.W.hasDictIn K CD = true)
    (poCD : PySem.W.plainOver K CD = true)
    (saCD : PySem.W.findIn K (.ref CD) "__setattr__" = some (some (.builtin "object.__setattr__")))
    (mkCD : PySem.W.makesIn K CD = true)
    (kcCD : PySem.W.keepIn K (.ref CD) = true)
    (nCD_given_rules : PySem.W.findIn K (.ref CD) "given_rules" = some none)
    (nCD_given_forced : PySem.W.findIn K (.ref CD) "given_forced" = some none)
    (nCD_given_holds : PySem.W.findIn K (.ref CD) "given_holds" = some none)
    (nCD_walks : PySem.W.findIn K (.ref CD) "walks" = some none)
    (aDi : PySem.W.findIn K (.ref CD) "__init__" = some (some (.ref fDi)))
    (iDi : PySem.W.isFn K (.ref fDi) = true)
    (lDi : K.lookup fDi = some ⟨ocDi, odDi, .func (PySem.W.fnOf "__init__" "Demand.__init__" (defArgs sDInit) (defBody sDInit) (defScope sDInit) .none (.ref DDi) dcDi pmDi anDi cdDi ctDi), slDi⟩)
    (cDi : PySem.W.codeIn K cdDi "Demand.__init__" = true)
    (kDi : PySem.W.keepIn K (.ref fDi) = true)
    (dDi : PySem.W.nsIn K DDi "forced" = some (some (.int 0 tkDi)))
    (eDi : PySem.W.nsIn K DDi "holds" = some (some (.bool false)))
    (aLf : PySem.W.findIn K (.ref CD) "least_for" = some (some (.ref fLf)))
    (iLf : PySem.W.isFn K (.ref fLf) = true)
    (lLf : K.lookup fLf = some ⟨ocLf, odLf, .func (PySem.W.fnOf "least_for" "Demand.least_for" (defArgs sLeastFor) (defBody sLeastFor) (defScope sLeastFor) .none kVLf dcLf pmLf anLf cdLf ctLf), slLf⟩)
    (cLf : PySem.W.codeIn K cdLf "Demand.least_for" = true)
    (kLf : PySem.W.keepIn K (.ref fLf) = true)
    (aBr : PySem.W.findIn K (.ref CD) "breaking_limit" = some (some (.ref fBr)))
    (iBr : PySem.W.isFn K (.ref fBr) = true)
    (lBr : K.lookup fBr = some ⟨ocBr, odBr, .func (PySem.W.fnOf "breaking_limit" "Demand.breaking_limit" (defArgs sBreak) (defBody sBreak) (defScope sBreak) .none kVBr dcBr pmBr anBr cdBr ctBr), slBr⟩)
    (cBr : PySem.W.codeIn K cdBr "Demand.breaking_limit" = true)
    (kBr : PySem.W.keepIn K (.ref fBr) = true)
    (aCa : PySem.W.findIn K (.ref CD) "__call__" = some (some (.ref fCa)))
    (iCa : PySem.W.isFn K (.ref fCa) = true)
    (lCa : K.lookup fCa = some ⟨ocCa, odCa, .func (PySem.W.fnOf "__call__" "Demand.__call__" (defArgs sCall) (defBody sCall) (defScope sCall) .none kVCa dcCa pmCa anCa cdCa ctCa), slCa⟩)
    (cCa : PySem.W.codeIn K cdCa "Demand.__call__" = true)
    (kCa : PySem.W.keepIn K (.ref fCa) = true)
    (fiCa : PySem.W.fnIn K fCa = true)
    (aNu : PySem.W.findIn K (.ref CD) "numbers_with" = some (some (.ref fNu)))
    (iNu : PySem.W.isFn K (.ref fNu) = true)
    (lNu : K.lookup fNu = some ⟨ocNu, odNu, .func (PySem.W.fnOf "numbers_with" "Demand.numbers_with" (defArgs sNums) (defBody sNums) (defScope sNums) .none kVNu dcNu pmNu anNu cdNu ctNu), slNu⟩)
    (cNu : PySem.W.codeIn K cdNu "Demand.numbers_with" = true)
    (kNu : PySem.W.keepIn K (.ref fNu) = true)
    (aGo : PySem.W.findIn K (.ref CD) "growth" = some (some (.ref fGo)))
    (iGo : PySem.W.isFn K (.ref fGo) = true)
    (lGo : K.lookup fGo = some ⟨ocGo, odGo, .func (PySem.W.fnOf "growth" "Demand.growth" (defArgs sGrow) (defBody sGrow) (defScope sGrow) .none kVGo dcGo pmGo anGo cdGo ctGo), slGo⟩)
    (cGo : PySem.W.codeIn K cdGo "Demand.growth" = true)
    (kGo : PySem.W.keepIn K (.ref fGo) = true)
    (aFn : PySem.W.findIn K (.ref CD) "first_number_above" = some (some (.ref fFn)))
    (iFn : PySem.W.isFn K (.ref fFn) = true)
    (lFn : K.lookup fFn = some ⟨ocFn, odFn, .func (PySem.W.fnOf "first_number_above" "Demand.first_number_above" (defArgs sFna) (defBody sFna) (defScope sFna) .none kVFn dcFn pmFn anFn cdFn ctFn), slFn⟩)
    (cFn : PySem.W.codeIn K cdFn "Demand.first_number_above" = true)
    (kFn : PySem.W.keepIn K (.ref fFn) = true)
    (aFa : PySem.W.findIn K (.ref CD) "first_above" = some (some (.ref fFa)))
    (iFa : PySem.W.isFn K (.ref fFa) = true)
    (lFa : K.lookup fFa = some ⟨ocFa, odFa, .func (PySem.W.fnOf "first_above" "Demand.first_above" (defArgs sFa) (defBody sFa) (defScope sFa) .none kVFa dcFa pmFa anFa cdFa ctFa), slFa⟩)
    (cFa : PySem.W.codeIn K cdFa "Demand.first_above" = true)
    (kFa : PySem.W.keepIn K (.ref fFa) = true)
    (aEq : PySem.W.findIn K (.ref CD) "__eq__" = some (some (.ref fEq)))
    (iEq : PySem.W.isFn K (.ref fEq) = true)
    (lEq : K.lookup fEq = some ⟨ocEq, odEq, .func (PySem.W.fnOf "__eq__" "Demand.__eq__" (defArgs sEq) (defBody sEq) (defScope sEq) .none kVEq dcEq pmEq anEq cdEq ctEq), slEq⟩)
    (cEq : PySem.W.codeIn K cdEq "Demand.__eq__" = true)
    (kEq : PySem.W.keepIn K (.ref fEq) = true)
    (aLa : PySem.W.nsIn K mainGlobals "last_lines" = some (some (.ref fLa)))
    (lLa : K.lookup fLa = some ⟨ocLa, odLa, .func (PySem.W.fnOf "last_lines" "last_lines" (defArgs sLast) (defBody sLast) (defScope sLast) .none kVLa dcLa pmLa anLa cdLa ctLa), slLa⟩)
    (cLa : PySem.W.codeIn K cdLa "last_lines" = true)
    (kLa : PySem.W.keepIn K (.ref fLa) = true)
    (aTo : PySem.W.nsIn K mainGlobals "totals_for" = some (some (.ref fTo)))
    (lTo : K.lookup fTo = some ⟨ocTo, odTo, .func (PySem.W.fnOf "totals_for" "totals_for" (defArgs sTot) (defBody sTot) (defScope sTot) .none kVTo dcTo pmTo anTo cdTo ctTo), slTo⟩)
    (cTo : PySem.W.codeIn K cdTo "totals_for" = true)
    (kTo : PySem.W.keepIn K (.ref fTo) = true)
    (aTu : PySem.W.nsIn K mainGlobals "turns" = some (some (.ref fTu)))
    (lTu : K.lookup fTu = some ⟨ocTu, odTu, .func (PySem.W.fnOf "turns" "turns" (defArgs sTurns) (defBody sTurns) (defScope sTurns) .none kVTu dcTu pmTu anTu cdTu ctTu), slTu⟩)
    (cTu : PySem.W.codeIn K cdTu "turns" = true)
    (kTu : PySem.W.keepIn K (.ref fTu) = true)
    (aNl : PySem.W.nsIn K mainGlobals "needless" = some (some (.ref fNl)))
    (lNl : K.lookup fNl = some ⟨ocNl, odNl, .func (PySem.W.fnOf "needless" "needless" (defArgs sNl) (defBody sNl) (defScope sNl) .none kVNl dcNl pmNl anNl cdNl ctNl), slNl⟩)
    (cNl : PySem.W.codeIn K cdNl "needless" = true)
    (kNl : PySem.W.keepIn K (.ref fNl) = true)
    (aBx : PySem.W.nsIn K mainGlobals "_law_box" = some (some (.ref fBx)))
    (lBx : K.lookup fBx = some ⟨ocBx, odBx, .func (PySem.W.fnOf "_law_box" "_law_box" (defArgs sBox) (defBody sBox) (defScope sBox) .none kVBx dcBx pmBx anBx cdBx ctBx), slBx⟩)
    (cBx : PySem.W.codeIn K cdBx "_law_box" = true)
    (kBx : PySem.W.keepIn K (.ref fBx) = true)
    (aTk : PySem.W.nsIn K mainGlobals "_law_take" = some (some (.ref fTk)))
    (lTk : K.lookup fTk = some ⟨ocTk, odTk, .func (PySem.W.fnOf "_law_take" "_law_take" (defArgs sTake) (defBody sTake) (defScope sTake) .none kVTk dcTk pmTk anTk cdTk ctTk), slTk⟩)
    (cTk : PySem.W.codeIn K cdTk "_law_take" = true)
    (kTk : PySem.W.keepIn K (.ref fTk) = true)
    (aOf : PySem.W.nsIn K mainGlobals "_law_of" = some (some (.ref fOf)))
    (lOf : K.lookup fOf = some ⟨ocOf, odOf, .func (PySem.W.fnOf "_law_of" "_law_of" (defArgs sOf) (defBody sOf) (defScope sOf) .none kVOf dcOf pmOf anOf cdOf ctOf), slOf⟩)
    (cOf : PySem.W.codeIn K cdOf "_law_of" = true)
    (kOf : PySem.W.keepIn K (.ref fOf) = true)
    (aLe : PySem.W.nsIn K mainGlobals "_law_lengths" = some (some (.ref fLe)))
    (lLe : K.lookup fLe = some ⟨ocLe, odLe, .func (PySem.W.fnOf "_law_lengths" "_law_lengths" (defArgs sLen) (defBody sLen) (defScope sLen) .none kVLe dcLe pmLe anLe cdLe ctLe), slLe⟩)
    (cLe : PySem.W.codeIn K cdLe "_law_lengths" = true)
    (kLe : PySem.W.keepIn K (.ref fLe) = true)
    (aSr : PySem.W.nsIn K mainGlobals "_law_size_right" = some (some (.ref fSr)))
    (lSr : K.lookup fSr = some ⟨ocSr, odSr, .func (PySem.W.fnOf "_law_size_right" "_law_size_right" (defArgs sSR) (defBody sSR) (defScope sSR) .none kVSr dcSr pmSr anSr cdSr ctSr), slSr⟩)
    (cSr : PySem.W.codeIn K cdSr "_law_size_right" = true)
    (kSr : PySem.W.keepIn K (.ref fSr) = true)
    (aNr : PySem.W.nsIn K mainGlobals "_law_needless_right" = some (some (.ref fNr)))
    (lNr : K.lookup fNr = some ⟨ocNr, odNr, .func (PySem.W.fnOf "_law_needless_right" "_law_needless_right" (defArgs sNr) (defBody sNr) (defScope sNr) .none kVNr dcNr pmNr anNr cdNr ctNr), slNr⟩)
    (cNr : PySem.W.codeIn K cdNr "_law_needless_right" = true)
    (kNr : PySem.W.keepIn K (.ref fNr) = true)
    (aLw : PySem.W.nsIn K mainGlobals "law" = some (some (.ref fLw)))
    (lLw : K.lookup fLw = some ⟨ocLw, odLw, .func (PySem.W.fnOf "law" "law" (defArgs sLaw) (defBody sLaw) (defScope sLaw) .none kVLw dcLw pmLw anLw cdLw ctLw), slLw⟩)
    (cLw : PySem.W.codeIn K cdLw "law" = true)
    (kLw : PySem.W.keepIn K (.ref fLw) = true)
    (aNe : PySem.W.nsIn K mainGlobals "needed" = some (some (.ref fNe)))
    (lNe : K.lookup fNe = some ⟨ocNe, odNe, .func (PySem.W.fnOf "needed" "needed" (defArgs sNeeded) (defBody sNeeded) (defScope sNeeded) .none (.ref DNe) dcNe pmNe anNe cdNe ctNe), slNe⟩)
    (cNe : PySem.W.codeIn K cdNe "needed" = true)
    (kNe : PySem.W.keepIn K (.ref fNe) = true)
    (dNe : PySem.W.nsIn K DNe "forced" = some (some (.int 0 tkNe)))
    (eNe : PySem.W.nsIn K DNe "holds" = some (some (.bool false)))
    (aEn : PySem.W.nsIn K mainGlobals "is_enough" = some (some (.ref fEn)))
    (lEn : K.lookup fEn = some ⟨ocEn, odEn, .func (PySem.W.fnOf "is_enough" "is_enough" (defArgs sEnough) (defBody sEnough) (defScope sEnough) .none (.ref DEn) dcEn pmEn anEn cdEn ctEn), slEn⟩)
    (cEn : PySem.W.codeIn K cdEn "is_enough" = true)
    (kEn : PySem.W.keepIn K (.ref fEn) = true)
    (dEn : PySem.W.nsIn K DEn "forced" = some (some (.int 0 tkEn)))
    (eEn : PySem.W.nsIn K DEn "holds" = some (some (.bool false)))
    (aGr : PySem.W.nsIn K mainGlobals "greatest_limit" = some (some (.ref fGr)))
    (lGr : K.lookup fGr = some ⟨ocGr, odGr, .func (PySem.W.fnOf "greatest_limit" "greatest_limit" (defArgs sGreat) (defBody sGreat) (defScope sGreat) .none (.ref DGr) dcGr pmGr anGr cdGr ctGr), slGr⟩)
    (cGr : PySem.W.codeIn K cdGr "greatest_limit" = true)
    (kGr : PySem.W.keepIn K (.ref fGr) = true)
    (dGr : PySem.W.nsIn K DGr "forced" = some (some (.int 0 tkGr)))
    (eGr : PySem.W.nsIn K DGr "holds" = some (some (.bool false)))
    (aSi : PySem.W.nsIn K mainGlobals "least_size" = some (some (.ref fSi)))
    (lSi : K.lookup fSi = some ⟨ocSi, odSi, .func (PySem.W.fnOf "least_size" "least_size" (defArgs sSize) (defBody sSize) (defScope sSize) .none (.ref DSi) dcSi pmSi anSi cdSi ctSi), slSi⟩)
    (cSi : PySem.W.codeIn K cdSi "least_size" = true)
    (kSi : PySem.W.keepIn K (.ref fSi) = true)
    (dSi : PySem.W.nsIn K DSi "forced" = some (some (.int 0 tkSi)))
    (eSi : PySem.W.nsIn K DSi "holds" = some (some (.bool false)))
    (pFo1 : PySem.W.findIn K (.ref CD) "forced" = some (some (.ref pFo)))
    (pFo2 : PySem.W.specialIn K (.ref pFo) "__get__" = some (some (.builtin "property.__get__")))
    (pFo3 : PySem.W.takesIn K (.ref pFo) = some true)
    (pFo4 : PySem.W.recIn K pFo "property" = some (.ref fFo :: restFo))
    (lFo : K.lookup fFo = some ⟨ocFo, odFo, .func (PySem.W.fnOf "forced" "Demand.forced" (defArgs sForced) (defBody sForced) (defScope sForced) .none kVFo dcFo pmFo anFo cdFo ctFo), slFo⟩)
    (cFo : PySem.W.codeIn K cdFo "Demand.forced" = true)
    (kFo : PySem.W.keepIn K (.ref fFo) = true)
    (ic1 : PySem.W.findIn K (.ref CD) "__class__" = some (some (.builtin "object.__class__")))
    (ic2 : PySem.W.specialIn K (.builtin "object.__class__") "__get__" = some (some (.builtin "getset_descriptor.__get__")))
    (ic3 : PySem.W.takesIn K (.builtin "object.__class__") = some true)
    (ic4 : PySem.W.mroIn K CD (.type "object") = some true)
    (z_isinstance : PySem.W.nsIn K mainGlobals "isinstance" = some none)
    (z_repr : PySem.W.nsIn K mainGlobals "repr" = some none)
    (aMS : PySem.W.nsIn K mainGlobals "MOST_SIZE" = some (some (.int 100 tkMS)))
    (z_range : PySem.W.nsIn K mainGlobals "range" = some none)
    (z_len : PySem.W.nsIn K mainGlobals "len" = some none)
    (z_tuple : PySem.W.nsIn K mainGlobals "tuple" = some none)
    (z_list : PySem.W.nsIn K mainGlobals "list" = some none)
    (z_zip : PySem.W.nsIn K mainGlobals "zip" = some none)
    (z_min : PySem.W.nsIn K mainGlobals "min" = some none)
    (z_max : PySem.W.nsIn K mainGlobals "max" = some none)
    (z_abs : PySem.W.nsIn K mainGlobals "abs" = some none)
    (z_int : PySem.W.nsIn K mainGlobals "int" = some none)
    (z_sorted : PySem.W.nsIn K mainGlobals "sorted" = some none) :
    ∃ fd : FuncData, (∀ (s : Shared) (v : Value), BindsTo s fd ⟨[v], []⟩ [("script", v)]) ∧ ∀ base : Heap, K.In base → base.Ns mainGlobals mg → GFn l.prog w K mg base 11 fa fd ["script"] (spLaw K) := by
  have e := hfa.symm.trans (PySem.W.mg_of X G aLw)
  cases e
  have B : Bi mg := ⟨PySem.W.mg_none_of X G z_range, PySem.W.mg_none_of X G z_len, PySem.W.mg_none_of X G z_tuple, PySem.W.mg_none_of X G z_list, PySem.W.mg_none_of X G z_zip, PySem.W.mg_none_of X G z_min, PySem.W.mg_none_of X G z_max, PySem.W.mg_none_of X G z_abs, PySem.W.mg_none_of X G z_int, PySem.W.mg_none_of X G z_sorted⟩
  have TW : KW K CW := ⟨⟨pgCW, hdCW, poCW, saCW⟩, nCW_lengths, nCW_costs, nCW_rows, nCW_regular_from, nCW_period, nCW_bytes⟩
  have TD : KD K CD := ⟨⟨pgCD, hdCD, poCD, saCD⟩, nCD_given_rules, nCD_given_forced, nCD_given_holds, nCD_walks⟩
  have mW := PySem.W.mg_of X G aCW
  have mD := PySem.W.mg_of X G aCD
  have FWi := fun_mk (st := sWInit) lWi cWi kWi
  have bWi := FWi.binds (ps := ["self", "rules"]) fun _ _ _ _ _ _ us hl => match us, hl with | [_, _], _ => rfl
  have FSh := fun_mk (st := sShape) lSh cSh kSh
  have bSh := FSh.binds (ps := ["self", "row"]) fun _ _ _ _ _ _ us hl => match us, hl with | [_, _], _ => rfl
  have FRo := fun_mk (st := sRow) lRo cRo kRo
  have bRo := FRo.binds (ps := ["self", "row"]) fun _ _ _ _ _ _ us hl => match us, hl with | [_, _], _ => rfl
  have FEe := fun_mk (st := sEnd) lEe cEe kEe
  have bEe := FEe.binds (ps := ["self", "files"]) fun _ _ _ _ _ _ us hl => match us, hl with | [_, _], _ => rfl
  have FBy := fun_mk (st := sBytes) lBy cBy kBy
  have bBy := FBy.binds (ps := ["self", "rotations"]) fun _ _ _ _ _ _ us hl => match us, hl with | [_, _], _ => rfl
  have FDi : FunD K "__init__" "Demand.__init__" (defArgs sDInit) (defBody sDInit) (defScope sDInit) [] kwFH fDi _ := ⟨⟨ocDi, odDi, .none, .ref DDi, dcDi, pmDi, anDi, cdDi, ctDi, slDi, rfl, lDi, cDi, .inl ⟨rfl, rfl⟩, .inr ⟨DDi, rfl, fun q hq => by
    rcases List.mem_cons.mp hq with rfl | hq
    · exact ⟨_, dDi, _, rfl⟩
    · rw [List.mem_singleton.mp hq]; exact ⟨_, eDi, rfl⟩⟩⟩, kDi⟩
  have bDi := kwd2 FDi
  have FLf := fun_mk (st := sLeastFor) lLf cLf kLf
  have bLf := FLf.binds (ps := ["self", "rotations"]) fun _ _ _ _ _ _ us hl => match us, hl with | [_, _], _ => rfl
  have FBr := fun_mk (st := sBreak) lBr cBr kBr
  have bBr := FBr.binds (ps := ["self", "kept"]) fun _ _ _ _ _ _ us hl => match us, hl with | [_, _], _ => rfl
  have FCa := fun_mk (st := sCall) lCa cCa kCa
  have bCa := FCa.binds (ps := ["self", "limit"]) fun _ _ _ _ _ _ us hl => match us, hl with | [_, _], _ => rfl
  have FNu := fun_mk (st := sNums) lNu cNu kNu
  have bNu := FNu.binds (ps := ["self", "other"]) fun _ _ _ _ _ _ us hl => match us, hl with | [_, _], _ => rfl
  have FGo := fun_mk (st := sGrow) lGo cGo kGo
  have bGo := FGo.binds (ps := ["self", "files"]) fun _ _ _ _ _ _ us hl => match us, hl with | [_, _], _ => rfl
  have FFn := fun_mk (st := sFna) lFn cFn kFn
  have bFn := FFn.binds (ps := ["self", "other"]) fun _ _ _ _ _ _ us hl => match us, hl with | [_, _], _ => rfl
  have FFa := fun_mk (st := sFa) lFa cFa kFa
  have bFa := FFa.binds (ps := ["self", "other"]) fun _ _ _ _ _ _ us hl => match us, hl with | [_, _], _ => rfl
  have FEq := fun_mk (st := sEq) lEq cEq kEq
  have bEq := FEq.binds (ps := ["self", "other"]) fun _ _ _ _ _ _ us hl => match us, hl with | [_, _], _ => rfl
  have FLa := fun_mk (st := sLast) lLa cLa kLa
  have bLa := FLa.binds (ps := ["rules", "first"]) fun _ _ _ _ _ _ us hl => match us, hl with | [_, _], _ => rfl
  have mLa := PySem.W.mg_of X G aLa
  have FTo := fun_mk (st := sTot) lTo cTo kTo
  have bTo := FTo.binds (ps := ["lasts", "later"]) fun _ _ _ _ _ _ us hl => match us, hl with | [_, _], _ => rfl
  have mTo := PySem.W.mg_of X G aTo
  have FTu := fun_mk (st := sTurns) lTu cTu kTu
  have bTu := FTu.binds (ps := ["rules"]) fun _ _ _ _ _ _ us hl => match us, hl with | [_], _ => rfl
  have mTu := PySem.W.mg_of X G aTu
  have FNl := fun_mk (st := sNl) lNl cNl kNl
  have bNl := FNl.binds (ps := ["rules"]) fun _ _ _ _ _ _ us hl => match us, hl with | [_], _ => rfl
  have mNl := PySem.W.mg_of X G aNl
  have FBx := fun_mk (st := sBox) lBx cBx kBx
  have bBx := FBx.binds (ps := ["script", "k"]) fun _ _ _ _ _ _ us hl => match us, hl with | [_, _], _ => rfl
  have mBx := PySem.W.mg_of X G aBx
  have FTk := fun_mk (st := sTake) lTk cTk kTk
  have bTk := FTk.binds (ps := ["box", "many"]) fun _ _ _ _ _ _ us hl => match us, hl with | [_, _], _ => rfl
  have mTk := PySem.W.mg_of X G aTk
  have FOf := fun_mk (st := sOf) lOf cOf kOf
  have bOf := FOf.binds (ps := ["box", "some"]) fun _ _ _ _ _ _ us hl => match us, hl with | [_, _], _ => rfl
  have mOf := PySem.W.mg_of X G aOf
  have FLe := fun_mk (st := sLen) lLe cLe kLe
  have bLe := FLe.binds (ps := ["box", "top"]) fun _ _ _ _ _ _ us hl => match us, hl with | [_, _], _ => rfl
  have mLe := PySem.W.mg_of X G aLe
  have FSr := fun_mk (st := sSR) lSr cSr kSr
  have bSr := FSr.binds (ps := ["box"]) fun _ _ _ _ _ _ us hl => match us, hl with | [_], _ => rfl
  have mSr := PySem.W.mg_of X G aSr
  have FNr := fun_mk (st := sNr) lNr cNr kNr
  have bNr := FNr.binds (ps := ["box"]) fun _ _ _ _ _ _ us hl => match us, hl with | [_], _ => rfl
  have mNr := PySem.W.mg_of X G aNr
  have FLw := fun_mk (st := sLaw) lLw cLw kLw
  have bLw := FLw.binds (ps := ["script"]) fun _ _ _ _ _ _ us hl => match us, hl with | [_], _ => rfl
  have mLw := PySem.W.mg_of X G aLw
  have FNe : FunD K "needed" "needed" (defArgs sNeeded) (defBody sNeeded) (defScope sNeeded) [] kwFH fNe _ := ⟨⟨ocNe, odNe, .none, .ref DNe, dcNe, pmNe, anNe, cdNe, ctNe, slNe, rfl, lNe, cNe, .inl ⟨rfl, rfl⟩, .inr ⟨DNe, rfl, fun q hq => by
    rcases List.mem_cons.mp hq with rfl | hq
    · exact ⟨_, dNe, _, rfl⟩
    · rw [List.mem_singleton.mp hq]; exact ⟨_, eNe, rfl⟩⟩⟩, kNe⟩
  have bNe := kwd_needed FNe
  have mNe := PySem.W.mg_of X G aNe
  have FEn : FunD K "is_enough" "is_enough" (defArgs sEnough) (defBody sEnough) (defScope sEnough) [] kwFH fEn _ := ⟨⟨ocEn, odEn, .none, .ref DEn, dcEn, pmEn, anEn, cdEn, ctEn, slEn, rfl, lEn, cEn, .inl ⟨rfl, rfl⟩, .inr ⟨DEn, rfl, fun q hq => by
    rcases List.mem_cons.mp hq with rfl | hq
    · exact ⟨_, dEn, _, rfl⟩
    · rw [List.mem_singleton.mp hq]; exact ⟨_, eEn, rfl⟩⟩⟩, kEn⟩
  have bEn := kwd_enough FEn
  have mEn := PySem.W.mg_of X G aEn
  have FGr : FunD K "greatest_limit" "greatest_limit" (defArgs sGreat) (defBody sGreat) (defScope sGreat) [] kwFH fGr _ := ⟨⟨ocGr, odGr, .none, .ref DGr, dcGr, pmGr, anGr, cdGr, ctGr, slGr, rfl, lGr, cGr, .inl ⟨rfl, rfl⟩, .inr ⟨DGr, rfl, fun q hq => by
    rcases List.mem_cons.mp hq with rfl | hq
    · exact ⟨_, dGr, _, rfl⟩
    · rw [List.mem_singleton.mp hq]; exact ⟨_, eGr, rfl⟩⟩⟩, kGr⟩
  have bGr := kwd_great FGr
  have mGr := PySem.W.mg_of X G aGr
  have FSi : FunD K "least_size" "least_size" (defArgs sSize) (defBody sSize) (defScope sSize) [] kwFH fSi _ := ⟨⟨ocSi, odSi, .none, .ref DSi, dcSi, pmSi, anSi, cdSi, ctSi, slSi, rfl, lSi, cSi, .inl ⟨rfl, rfl⟩, .inr ⟨DSi, rfl, fun q hq => by
    rcases List.mem_cons.mp hq with rfl | hq
    · exact ⟨_, dSi, _, rfl⟩
    · rw [List.mem_singleton.mp hq]; exact ⟨_, eSi, rfl⟩⟩⟩, kSi⟩
  have bSi := kwd_size FSi
  have mSi := PySem.W.mg_of X G aSi
  refine ⟨PySem.W.fnOf "law" "law" (defArgs sLaw) (defBody sLaw) (defScope sLaw) .none kVLw dcLw pmLw anLw cdLw ctLw, fun s v => .of_eq rfl, fun base _ _ => ?_⟩
  have tWi : Mt K CW _ fWi _ _ := ⟨⟨aWi, iWi, kWi⟩, bWi⟩
  have tSh : Mt K CW _ fSh _ _ := ⟨⟨aSh, iSh, kSh⟩, bSh⟩
  have tRo : Mt K CW _ fRo _ _ := ⟨⟨aRo, iRo, kRo⟩, bRo⟩
  have tEe : Mt K CW _ fEe _ _ := ⟨⟨aEe, iEe, kEe⟩, bEe⟩
  have tBy : Mt K CW _ fBy _ _ := ⟨⟨aBy, iBy, kBy⟩, bBy⟩
  have tLf : Mt K CD _ fLf _ _ := ⟨⟨aLf, iLf, kLf⟩, bLf⟩
  have tBr : Mt K CD _ fBr _ _ := ⟨⟨aBr, iBr, kBr⟩, bBr⟩
  have tCa : Mt K CD _ fCa _ _ := ⟨⟨aCa, iCa, kCa⟩, bCa⟩
  have tNu : Mt K CD _ fNu _ _ := ⟨⟨aNu, iNu, kNu⟩, bNu⟩
  have tGo : Mt K CD _ fGo _ _ := ⟨⟨aGo, iGo, kGo⟩, bGo⟩
  have tFn : Mt K CD _ fFn _ _ := ⟨⟨aFn, iFn, kFn⟩, bFn⟩
  have tFa : Mt K CD _ fFa _ _ := ⟨⟨aFa, iFa, kFa⟩, bFa⟩
  have tEq : Mt K CD _ fEq _ _ := ⟨⟨aEq, iEq, kEq⟩, bEq⟩
  have gLa := ok_last (P := l.prog) (w := w) (base := base) (mg := mg) FLa B
  have gTo := ok_tot (P := l.prog) (w := w) (base := base) (mg := mg) FTo B
  have gTu := ok_turns (P := l.prog) (w := w) (base := base) (mg := mg) FTu B gLa kLa mLa bLa gTo kTo mTo bTo
  have gSh := ok_shape (P := l.prog) (w := w) (base := base) (mg := mg) FSh B
  have gRo := ok_row (P := l.prog) (w := w) (base := base) (mg := mg) FRo B TW
  have gWi := ok_winit (P := l.prog) (w := w) (base := base) (mg := mg) FWi B TW gTu kTu mTu bTu gSh tSh gRo tRo
  have gEe := ok_end (P := l.prog) (w := w) (base := base) (mg := mg) FEe B TW
  have gBy := ok_bytes (P := l.prog) (w := w) (base := base) (mg := mg) FBy B TW gEe tEe
  have MkW : Mk K CW fWi := ⟨mkCW, aWi, iWi, kcCW⟩
  have MkD : Mk K CD fDi := ⟨mkCD, aDi, iDi, kcCD⟩
  have gDi := ok_dinit (P := l.prog) (w := w) (base := base) (mg := mg) FDi TD MkW gWi bWi mW
  have gLf := ok_leastfor (P := l.prog) (w := w) (base := base) (mg := mg) FLf TD TW gEe tEe gBy tBy
  have gBr := ok_break (P := l.prog) (w := w) (base := base) (mg := mg) FBr B TD gLf tLf
  have gCa := ok_call (P := l.prog) (w := w) (base := base) (mg := mg) FCa TD gLf tLf
  have L : Lib l.prog w K mg base CW CD fDi fCa fBr _ _ _ := ⟨TD, MkD, mD, gDi, bDi, gCa, bCa, ⟨aCa, iCa, fiCa⟩, gBr, tBr⟩
  have gNe := ok_needed FNe L
  have gEn := ok_enough FEn gNe kNe mNe bNe
  have gGr := ok_great FGr L
  have gSi := ok_size FSi B (PySem.W.mg_of X G aMS) gEn kEn mEn bEn
  have FFo := fun_mk (st := sForced) lFo cFo kFo
  have bFo := FFo.binds (ps := ["self"]) fun _ _ _ _ _ _ us hl => match us, hl with | [_], _ => rfl
  have gFo := ok_forced (P := l.prog) (w := w) (base := base) (mg := mg) (CW := CW) FFo TD
  have PF : PropOf K CD "forced" pFo fFo := ⟨pFo1, pFo2, pFo3, _, pFo4⟩
  have gNu := ok_nums (P := l.prog) (w := w) (base := base) (mg := mg) FNu B TD TW PF gFo bFo
  have gGo := ok_grow (P := l.prog) (w := w) (base := base) (mg := mg) FGo TD TW
  have gFn := ok_fna (P := l.prog) (w := w) (base := base) (mg := mg) FFn B TD gNu tNu gGo tGo gBr tBr
  have gFa := ok_fa (P := l.prog) (w := w) (base := base) (mg := mg) FFa TD gFn tFn gBr tBr
  have gEq := ok_eq (P := l.prog) (w := w) (base := base) (mg := mg) FEq TD ⟨TD.cl, ic1, ic2, ic3, ic4, if_pos (beq_self_eq_true _)⟩ mD (PySem.W.mg_none_of X G z_isinstance) gFn tFn
  have gNl := ok_nl FNl B L gEq tEq
  have gTk := ok_take (P := l.prog) (w := w) (base := base) (mg := mg) FTk
  have gOf := ok_of FOf B gTk kTk mTk bTk
  have gBx := ok_box (P := l.prog) (w := w) (base := base) (mg := mg) FBx B
  have gLe := ok_len FLe B ⟨gTk, kTk, mTk⟩ bTk ⟨gOf, kOf, mOf⟩ bOf
  have gSr := ok_sr FSr B ⟨gTk, kTk, mTk⟩ bTk ⟨gOf, kOf, mOf⟩ bOf ⟨gLe, kLe, mLe⟩ bLe ⟨gGr, kGr, mGr⟩ bGr ⟨gEn, kEn, mEn⟩ bEn ⟨gSi, kSi, mSi⟩ bSi
  have gNr := ok_nr FNr B (PySem.W.mg_none_of X G z_repr) L gEq tEq gFa tFa ⟨gTk, kTk, mTk⟩ bTk ⟨gLe, kLe, mLe⟩ bLe ⟨gNl, kNl, mNl⟩ bNl
  exact ok_law FLw B ⟨gBx, kBx, mBx⟩ bBx ⟨gSr, kSr, mSr⟩ bSr gNr kNr mNr bNr
end W
open PySem PySem.W PyProof.Rows
set_option maxRecDepth 100000 in
set_option maxHeartbeats 0 in
theorem PySem.Challenge.cw_rotatedlogs_k52_whole_design_of_many_len_holds : PySem.Challenge.rw_rotatedlogs_k52_whole_design_of_many_len.Holds := by
  w_on; o_law; k_head; (case hw => w_witness2)
  k_fill
  refine W.gwalk (l := PySem.Challenge.rw_rotatedlogs_k52_whole_design_of_many_len) (n := 63) (k := 11) (x := "script") (sp := W.spLaw) rfl (by decide) rfl ⟨rfl, by decide, by decide⟩ (fun w h Y => PySem.W.kIn_of Y) ?F fun K H a ns len hS => ⟨a, ns, rfl, hS, len, fun _ => rfl⟩
  case F =>
    intro w mg fa h KX G hmg
    refine' W.all_mk KX G hmg ?aCW ?pgCW ?hdCW ?poCW ?saCW ?mkCW ?kcCW ?nCW_lengths ?nCW_costs ?nCW_rows ?nCW_regular_from ?nCW_period ?nCW_bytes ?aWi ?iWi ?lWi ?cWi ?kWi ?aSh ?iSh ?lSh ?cSh ?kSh ?aRo ?iRo ?lRo ?cRo ?kRo ?aEe ?iEe ?lEe ?cEe ?kEe ?aBy ?iBy ?lBy ?cBy ?kBy ?aCD ?pgCD ?hdCD ?poCD ?saCD ?mkCD ?kcCD ?nCD_given_rules ?nCD_given_forced ?nCD_given_holds ?nCD_walks ?aDi ?iDi ?lDi ?cDi ?kDi ?dDi ?eDi ?aLf ?iLf ?lLf ?cLf ?kLf ?aBr ?iBr ?lBr ?cBr ?kBr ?aCa ?iCa ?lCa ?cCa ?kCa ?fiCa ?aNu ?iNu ?lNu ?cNu ?kNu ?aGo ?iGo ?lGo ?cGo ?kGo ?aFn ?iFn ?lFn ?cFn ?kFn ?aFa ?iFa ?lFa ?cFa ?kFa ?aEq ?iEq ?lEq ?cEq ?kEq ?aLa ?lLa ?cLa ?kLa ?aTo ?lTo ?cTo ?kTo ?aTu ?lTu ?cTu ?kTu ?aNl ?lNl ?cNl ?kNl ?aBx ?lBx ?cBx ?kBx ?aTk ?lTk ?cTk ?kTk ?aOf ?lOf ?cOf ?kOf ?aLe ?lLe ?cLe ?kLe ?aSr ?lSr ?cSr ?kSr ?aNr ?lNr ?cNr ?kNr ?aLw ?lLw ?cLw ?kLw ?aNe ?lNe ?cNe ?kNe ?dNe ?eNe ?aEn ?lEn ?cEn ?kEn ?dEn ?eEn ?aGr ?lGr ?cGr ?kGr ?dGr ?eGr ?aSi ?lSi ?cSi ?kSi ?dSi ?eSi ?pFo1 ?pFo2 ?pFo3 ?pFo4 ?lFo ?cFo ?kFo ?ic1 ?ic2 ?ic3 ?ic4 ?z_isinstance ?z_repr ?aMS ?z_range ?z_len ?z_tuple ?z_list ?z_zip ?z_min ?z_max ?z_abs ?z_int ?z_sorted
    (case aCW => k_is)
    (case pgCW => k_is)
    (case hdCW => k_is)
    (case poCW => k_is)
    (case saCW => k_is)
    (case mkCW => k_is)
    (case kcCW => k_is)
    (case nCW_lengths => k_is)
    (case nCW_costs => k_is)
    (case nCW_rows => k_is)
    (case nCW_regular_from => k_is)
    (case nCW_period => k_is)
    (case nCW_bytes => k_is)
    (case aWi => k_is)
    (case iWi => k_is)
    (case lWi => k_is)
    (case cWi => k_is)
    (case kWi => k_is)
    (case aSh => k_is)
    (case iSh => k_is)
    (case lSh => k_is)
    (case cSh => k_is)
    (case kSh => k_is)
    (case aRo => k_is)
    (case iRo => k_is)
    (case lRo => k_is)
    (case cRo => k_is)
    (case kRo => k_is)
    (case aEe => k_is)
    (case iEe => k_is)
    (case lEe => k_is)
    (case cEe => k_is)
    (case kEe => k_is)
    (case aBy => k_is)
    (case iBy => k_is)
    (case lBy => k_is)
    (case cBy => k_is)
    (case kBy => k_is)
    (case aCD => k_is)
    (case pgCD => k_is)
    (case hdCD => k_is)
    (case poCD => k_is)
    (case saCD => k_is)
    (case mkCD => k_is)
    (case kcCD => k_is)
    (case nCD_given_rules => k_is)
    (case nCD_given_forced => k_is)
    (case nCD_given_holds => k_is)
    (case nCD_walks => k_is)
    (case aDi => k_is)
    (case iDi => k_is)
    (case lDi => k_is)
    (case cDi => k_is)
    (case kDi => k_is)
    (case dDi => k_is)
    (case eDi => k_is)
    (case aLf => k_is)
    (case iLf => k_is)
    (case lLf => k_is)
    (case cLf => k_is)
    (case kLf => k_is)
    (case aBr => k_is)
    (case iBr => k_is)
    (case lBr => k_is)
    (case cBr => k_is)
    (case kBr => k_is)
    (case aCa => k_is)
    (case iCa => k_is)
    (case lCa => k_is)
    (case cCa => k_is)
    (case kCa => k_is)
    (case fiCa => k_is)
    (case aNu => k_is)
    (case iNu => k_is)
    (case lNu => k_is)
    (case cNu => k_is)
    (case kNu => k_is)
    (case aGo => k_is)
    (case iGo => k_is)
    (case lGo => k_is)
    (case cGo => k_is)
    (case kGo => k_is)
    (case aFn => k_is)
    (case iFn => k_is)
    (case lFn => k_is)
    (case cFn => k_is)
    (case kFn => k_is)
    (case aFa => k_is)
    (case iFa => k_is)
    (case lFa => k_is)
    (case cFa => k_is)
    (case kFa => k_is)
    (case aEq => k_is)
    (case iEq => k_is)
    (case lEq => k_is)
    (case cEq => k_is)
    (case kEq => k_is)
    (case aLa => k_is)
    (case lLa => k_is)
    (case cLa => k_is)
    (case kLa => k_is)
    (case aTo => k_is)
    (case lTo => k_is)
    (case cTo => k_is)
    (case kTo => k_is)
    (case aTu => k_is)
    (case lTu => k_is)
    (case cTu => k_is)
    (case kTu => k_is)
    (case aNl => k_is)
    (case lNl => k_is)
    (case cNl => k_is)
    (case kNl => k_is)
    (case aBx => k_is)
    (case lBx => k_is)
    (case cBx => k_is)
    (case kBx => k_is)
    (case aTk => k_is)
    (case lTk => k_is)
    (case cTk => k_is)
    (case kTk => k_is)
    (case aOf => k_is)
    (case lOf => k_is)
    (case cOf => k_is)
    (case kOf => k_is)
    (case aLe => k_is)
    (case lLe => k_is)
    (case cLe => k_is)
    (case kLe => k_is)
    (case aSr => k_is)
    (case lSr => k_is)
    (case cSr => k_is)
    (case kSr => k_is)
    (case aNr => k_is)
    (case lNr => k_is)
    (case cNr => k_is)
    (case kNr => k_is)
    (case aLw => k_is)
    (case lLw => k_is)
    (case cLw => k_is)
    (case kLw => k_is)
    (case aNe => k_is)
    (case lNe => k_is)
    (case cNe => k_is)
    (case kNe => k_is)
    (case dNe => k_is)
    (case eNe => k_is)
    (case aEn => k_is)
    (case lEn => k_is)
    (case cEn => k_is)
    (case kEn => k_is)
    (case dEn => k_is)
    (case eEn => k_is)
    (case aGr => k_is)
    (case lGr => k_is)
    (case cGr => k_is)
    (case kGr => k_is)
    (case dGr => k_is)
    (case eGr => k_is)
    (case aSi => k_is)
    (case lSi => k_is)
    (case cSi => k_is)
    (case kSi => k_is)
    (case dSi => k_is)
    (case eSi => k_is)
    (case pFo1 => k_is)
    (case pFo2 => k_is)
    (case pFo3 => k_is)
    (case pFo4 => k_is)
    (case lFo => k_is)
    (case cFo => k_is)
    (case kFo => k_is)
    (case ic1 => k_is)
    (case ic2 => k_is)
    (case ic3 => k_is)
    (case ic4 => k_is)
    (case z_isinstance => k_is)
    (case z_repr => k_is)
    (case aMS => k_is)
    (case z_range => k_is)
    (case z_len => k_is)
    (case z_tuple => k_is)
    (case z_list => k_is)
    (case z_zip => k_is)
    (case z_min => k_is)
    (case z_max => k_is)
    (case z_abs => k_is)
    (case z_int => k_is)
    (case z_sorted => k_is)
