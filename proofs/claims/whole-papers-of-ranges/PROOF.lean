import PyProof.Rows.All
import Wide.All
import OpenK.AllK
import Wide.FinOn
import HandS.ForMost
import HandS.WideBits
import HandS.Gcd
import HandS.IsInst
import HandS.Conv
import HandS.Walk
import HandS.Zip
import KE.KDictZip
import KE.DataMinMax
import KE.GoesMore
import KE.GoesEnum
import HandS.Evl
import PySem.Challenge.RW_guestseats_k86_whole_papers_of_ranges
set_option linter.all false
namespace KM
/-! ### finite sums of rationals -/
def sm (n : Nat) (f : Nat → Rat) : Rat := match n with
  | 0 => 0
  | n + 1 => sm n f + f n
theorem sm_zero (f : Nat → Rat) : sm 0 f = 0 := rfl
theorem sm_succ (n : Nat) (f : Nat → Rat) : sm (n + 1) f = sm n f + f n := rfl
theorem sm_congr {n : Nat} {f g : Nat → Rat} (h : ∀ i, i < n → f i = g i) : sm n f = sm n g := by
  induction n with
  | zero => rfl
  | succ n ih => rw [sm_succ, sm_succ, ih (fun i hi => h i (by omega)), h n (by omega)]
theorem sm_const0 (n : Nat) : sm n (fun _ => 0) = 0 := by
  induction n with
  | zero => rfl
  | succ n ih => rw [sm_succ, ih]; grind
theorem sm_zero_of {n : Nat} {f : Nat → Rat} (h : ∀ i, i < n → f i = 0) : sm n f = 0 := by
  rw [sm_congr h, sm_const0]
theorem sm_add (n : Nat) (f g : Nat → Rat) : sm n (fun i => f i + g i) = sm n f + sm n g := by
  induction n with
  | zero => show (0 : Rat) = 0 + 0; grind
  | succ n ih => rw [sm_succ, sm_succ, sm_succ, ih]; grind
theorem sm_mul (n : Nat) (c : Rat) (f : Nat → Rat) : sm n (fun i => c * f i) = c * sm n f := by
  induction n with
  | zero => show (0 : Rat) = c * 0; grind
  | succ n ih => rw [sm_succ, sm_succ, ih]; grind
/-- one summand apart -/
theorem sm_split {n c : Nat} (h : c < n) (f : Nat → Rat) : sm n f = f c + sm n (fun j => if j = c then 0 else f j) := by
  induction n with
  | zero => omega
  | succ n ih =>
    rw [sm_succ, sm_succ]
    by_cases e : c = n
    · subst e
      have : sm c (fun j => if j = c then 0 else f j) = sm c f := sm_congr fun i hi => by
        rw [if_neg (by omega)]
      rw [this, if_pos rfl]
      grind
    · rw [ih (by omega), if_neg (fun z => e z.symm)]
      grind
theorem sm_one {n c : Nat} (h : c < n) {f : Nat → Rat} (h0 : ∀ j, j < n → j ≠ c → f j = 0) : sm n f = f c := by
  rw [sm_split h f, sm_zero_of (f := fun j => if j = c then 0 else f j)]
  · grind
  · intro i hi
    by_cases e : i = c
    · rw [if_pos e]
    · rw [if_neg e, h0 i hi e]
theorem sm_swap (n m : Nat) (f : Nat → Nat → Rat) : sm n (fun i => sm m (fun j => f i j)) = sm m (fun j => sm n (fun i => f i j)) := by
  induction n with
  | zero =>
    show (0 : Rat) = sm m (fun j => sm 0 fun i => f i j)
    rw [sm_zero_of]
    intro i _; rfl
  | succ n ih =>
    rw [sm_succ, ih, ← sm_add]
    rfl
theorem sm_nonneg {n : Nat} {f : Nat → Rat} (h : ∀ i, i < n → 0 ≤ f i) : 0 ≤ sm n f := by
  induction n with
  | zero => exact Rat.le_refl
  | succ n ih =>
    rw [sm_succ]
    have := ih fun i hi => h i (by omega)
    have := h n (by omega)
    grind
theorem sm_nonpos {n : Nat} {f : Nat → Rat} (h : ∀ i, i < n → f i ≤ 0) : sm n f ≤ 0 := by
  induction n with
  | zero => exact Rat.le_refl
  | succ n ih =>
    rw [sm_succ]
    have := ih fun i hi => h i (by omega)
    have := h n (by omega)
    grind
theorem sm_le {n : Nat} {f g : Nat → Rat} (h : ∀ i, i < n → f i ≤ g i) : sm n f ≤ sm n g := by
  induction n with
  | zero => exact Rat.le_refl
  | succ n ih =>
    rw [sm_succ, sm_succ]
    have := ih fun i hi => h i (by omega)
    have := h n (by omega)
    grind
/-- summands from 0 on, sum at most 0: all are 0 -/
theorem sm_all_zero {n : Nat} {f : Nat → Rat} (h : ∀ i, i < n → 0 ≤ f i) (h0 : sm n f ≤ 0) : ∀ i, i < n → f i = 0 := by
  induction n with
  | zero => intro i hi; omega
  | succ n ih =>
    rw [sm_succ] at h0
    have a := sm_nonneg (n := n) (f := f) fun i hi => h i (by omega)
    have b := h n (by omega)
    intro i hi
    by_cases e : i = n
    · subst e; grind
    · exact ih (fun i hi => h i (by omega)) (by grind) i (by omega)
theorem sm_first (n : Nat) (f : Nat → Rat) : sm (n + 1) f = f 0 + sm n (fun j => f (j + 1)) := by
  induction n with
  | zero => show (0 : Rat) + f 0 = f 0 + 0; grind
  | succ n ih => rw [sm_succ, ih, sm_succ]; grind

/-! ### dictionaries -/
/-- rows 0 .. m (the last one the reward's), columns 0 .. n (the first one the constants') -/
structure Dic where
  t : Nat → Nat → Rat
  B : Nat → Nat
  N : Nat → Nat
def Sol (m n : Nat) (d : Dic) (x : Nat → Rat) : Prop := ∀ i, i ≤ m → x (d.B i) = sm (n + 1) (fun j => d.t i j * x (d.N j))
def xch (d : Dic) (r c : Nat) : Dic where
  t := fun i j => if i = r then (if j = c then 1 / d.t r c else -(d.t r j / d.t r c)) else (if j = c then d.t i c * (1 / d.t r c) else d.t i j + d.t i c * (-(d.t r j / d.t r c)))
  B := fun i => if i = r then d.N c else d.B i
  N := fun j => if j = c then d.B r else d.N j
theorem sol_xch {m n : Nat} {d : Dic} {r c : Nat} (hr : r ≤ m) (hc : c ≤ n) (h0 : d.t r c ≠ 0) {x : Nat → Rat} (h : Sol m n d x) : Sol m n (xch d r c) x := by
  have er := h r hr
  rw [sm_split (c := c) (by omega)] at er
  generalize hS : sm (n + 1) (fun j => if j = c then 0 else d.t r j * x (d.N j)) = S at er
  -- the pivot row solved
  have key : sm (n + 1) (fun j => if j = c then 0 else -(d.t r j / d.t r c) * x (d.N j)) = -(1 / d.t r c) * S := by
    rw [← hS, ← sm_mul]
    refine sm_congr fun j _ => ?_
    show (if j = c then (0 : Rat) else _) = _ * (if j = c then (0 : Rat) else _)
    by_cases e : j = c
    · rw [if_pos e, if_pos e]; grind
    · rw [if_neg e, if_neg e]; grind
  have xc : x (d.N c) = 1 / d.t r c * x (d.B r) + -(1 / d.t r c) * S := by
    rw [er]; grind
  intro i hi
  rw [sm_split (c := c) (by omega)]
  show x (if i = r then d.N c else d.B i) = (if i = r then (if c = c then 1 / d.t r c else _) else (if c = c then d.t i c * (1 / d.t r c) else _)) * x (if c = c then d.B r else d.N c) + _
  rw [if_pos rfl, if_pos rfl, if_pos rfl]
  by_cases e : i = r
  · rw [if_pos e, if_pos e, xc]
    congr 1
    rw [← key]
    refine (sm_congr fun j _ => ?_).symm
    show (if j = c then (0 : Rat) else (if i = r then (if j = c then _ else -(d.t r j / d.t r c)) else _) * x (if j = c then _ else d.N j)) = _
    by_cases e2 : j = c
    · rw [if_pos e2, if_pos e2]
    · rw [if_neg e2, if_neg e2, if_neg e2, if_pos e, if_neg e2, if_neg e2]
  · rw [if_neg e, if_neg e]
    have ei := h i hi
    rw [sm_split (c := c) (by omega)] at ei
    have rest : sm (n + 1) (fun j => if j = c then 0 else (xch d r c).t i j * x ((xch d r c).N j)) = sm (n + 1) (fun j => if j = c then 0 else d.t i j * x (d.N j)) + d.t i c * (-(1 / d.t r c) * S) := by
      rw [← key, ← sm_mul, ← sm_add]
      refine sm_congr fun j _ => ?_
      show (if j = c then (0 : Rat) else (if i = r then _ else (if j = c then _ else d.t i j + d.t i c * (-(d.t r j / d.t r c)))) * x (if j = c then _ else d.N j)) = (if j = c then (0 : Rat) else _) + d.t i c * (if j = c then (0 : Rat) else _)
      by_cases e2 : j = c
      · rw [if_pos e2, if_pos e2, if_pos e2]; grind
      · rw [if_neg e2, if_neg e2, if_neg e2, if_neg e2, if_neg e2, if_neg e]; grind
    have rest' := rest
    rw [rest', ei, xc]
    grind
/-- exchanging back -/
theorem xch_pivot (d : Dic) (r c : Nat) : (xch d r c).t r c = 1 / d.t r c := by
  show (if r = r then (if c = c then _ else _) else _) = _
  rw [if_pos rfl, if_pos rfl]
theorem xch_xch {d : Dic} {r c : Nat} (h0 : d.t r c ≠ 0) : (∀ i j, (xch (xch d r c) r c).t i j = d.t i j) ∧ (∀ i, (xch (xch d r c) r c).B i = d.B i) ∧ (∀ j, (xch (xch d r c) r c).N j = d.N j) := by
  refine ⟨fun i j => ?_, fun i => ?_, fun j => ?_⟩
  · have p := xch_pivot d r c
    show (if i = r then (if j = c then 1 / (xch d r c).t r c else -((xch d r c).t r j / (xch d r c).t r c)) else (if j = c then (xch d r c).t i c * (1 / (xch d r c).t r c) else (xch d r c).t i j + (xch d r c).t i c * (-((xch d r c).t r j / (xch d r c).t r c)))) = d.t i j
    rw [p]
    by_cases ei : i = r
    · subst ei
      by_cases ej : j = c
      · subst ej; rw [if_pos rfl, if_pos rfl]; grind
      · have e1 : (xch d i c).t i j = -(d.t i j / d.t i c) := by
          show (if i = i then (if j = c then _ else _) else _) = _
          rw [if_pos rfl, if_neg ej]
        rw [if_pos rfl, if_neg ej, e1]; grind
    · have e2 : (xch d r c).t i c = d.t i c * (1 / d.t r c) := by
        show (if i = r then _ else (if c = c then _ else _)) = _
        rw [if_neg ei, if_pos rfl]
      by_cases ej : j = c
      · subst ej; rw [if_neg ei, if_pos rfl, e2]; grind
      · have e1 : (xch d r c).t r j = -(d.t r j / d.t r c) := by
          show (if r = r then (if j = c then _ else _) else _) = _
          rw [if_pos rfl, if_neg ej]
        have e3 : (xch d r c).t i j = d.t i j + d.t i c * (-(d.t r j / d.t r c)) := by
          show (if i = r then _ else (if j = c then _ else _)) = _
          rw [if_neg ei, if_neg ej]
        rw [if_neg ei, if_neg ej, e1, e2, e3]; grind
  · show (if i = r then (if c = c then d.B r else d.N c) else (if i = r then d.N c else d.B i)) = d.B i
    by_cases e : i = r
    · rw [if_pos e, if_pos rfl, e]
    · rw [if_neg e, if_neg e]
  · show (if j = c then (if r = r then d.N c else d.B r) else (if j = c then d.B r else d.N j)) = d.N j
    by_cases e : j = c
    · rw [if_pos e, if_pos rfl, e]
    · rw [if_neg e, if_neg e]
theorem sol_xch_iff {m n : Nat} {d : Dic} {r c : Nat} (hr : r ≤ m) (hc : c ≤ n) (h0 : d.t r c ≠ 0) (x : Nat → Rat) : Sol m n (xch d r c) x ↔ Sol m n d x := by
  refine ⟨fun h => ?_, sol_xch hr hc h0⟩
  have h1 : (xch d r c).t r c ≠ 0 := by
    rw [xch_pivot]; grind
  have h2 := sol_xch hr hc h1 h
  obtain ⟨et, eB, eN⟩ := xch_xch h0
  intro i hi
  have h3 := h2 i hi
  rw [eB] at h3
  rw [h3]
  refine sm_congr fun j _ => ?_
  show (xch (xch d r c) r c).t i j * x ((xch (xch d r c) r c).N j) = _
  rw [et, eN]

/-! ### the names stand once each; the columns as vectors -/
structure Dis (m n : Nat) (d : Dic) : Prop where
  bb : ∀ i i', i ≤ m → i' ≤ m → d.B i = d.B i' → i = i'
  nn : ∀ j j', j ≤ n → j' ≤ n → d.N j = d.N j' → j = j'
  bn : ∀ i j, i ≤ m → j ≤ n → d.B i ≠ d.N j
theorem Dis.xch {m n : Nat} {d : Dic} {r c : Nat} (D : Dis m n d) (hr : r ≤ m) (hc : c ≤ n) : Dis m n (xch d r c) where
  bb := fun i i' hi hi' h => by
    have h : (if i = r then d.N c else d.B i) = (if i' = r then d.N c else d.B i') := h
    have a := D.bn i c hi hc
    have b := D.bn i' c hi' hc
    have e := D.bb i i' hi hi'
    by_cases e1 : i = r
    · by_cases e2 : i' = r
      · omega
      · rw [if_pos e1, if_neg e2] at h; exact absurd h.symm b
    · by_cases e2 : i' = r
      · rw [if_neg e1, if_pos e2] at h; exact absurd h a
      · rw [if_neg e1, if_neg e2] at h; exact e h
  nn := fun j j' hj hj' h => by
    have h : (if j = c then d.B r else d.N j) = (if j' = c then d.B r else d.N j') := h
    have a := D.bn r j hr hj
    have b := D.bn r j' hr hj'
    have e := D.nn j j' hj hj'
    by_cases e1 : j = c
    · by_cases e2 : j' = c
      · omega
      · rw [if_pos e1, if_neg e2] at h; exact absurd h b
    · by_cases e2 : j' = c
      · rw [if_neg e1, if_pos e2] at h; exact absurd h.symm a
      · rw [if_neg e1, if_neg e2] at h; exact e h
  bn := fun i j hi hj h => by
    have h : (if i = r then d.N c else d.B i) = (if j = c then d.B r else d.N j) := h
    by_cases e1 : i = r
    · by_cases e2 : j = c
      · rw [if_pos e1, if_pos e2] at h; exact D.bn r c hr hc h.symm
      · rw [if_pos e1, if_neg e2] at h; exact e2 (D.nn _ _ hc hj h).symm
    · by_cases e2 : j = c
      · rw [if_neg e1, if_pos e2] at h; exact e1 (D.bb _ _ hi hr h)
      · rw [if_neg e1, if_neg e2] at h; exact D.bn i j hi hj h
/-- the place of a name among the first k of some -/
def plc (k : Nat) (f : Nat → Nat) (u : Nat) : Option Nat := match k with
  | 0 => none
  | k + 1 => if f k = u then some k else plc k f u
theorem plc_some {k : Nat} {f : Nat → Nat} {u i : Nat} (h : plc k f u = some i) : i < k ∧ f i = u := by
  induction k with
  | zero => cases h
  | succ k ih =>
    have h : (if f k = u then some k else plc k f u) = some i := h
    by_cases e : f k = u
    · rw [if_pos e] at h; cases h; exact ⟨by omega, e⟩
    · rw [if_neg e] at h
      have := ih h
      exact ⟨by omega, this.2⟩
theorem plc_none {k : Nat} {f : Nat → Nat} {u : Nat} (h : plc k f u = none) : ∀ i, i < k → f i ≠ u := by
  induction k with
  | zero => intro i hi; omega
  | succ k ih =>
    have h : (if f k = u then some k else plc k f u) = none := h
    by_cases e : f k = u
    · rw [if_pos e] at h; cases h
    · rw [if_neg e] at h
      intro i hi
      by_cases e2 : i = k
      · subst e2; exact e
      · exact ih h i (by omega)
/-- the solution that is 1 at the j-th column's name and 0 at the others -/
def colv (m n : Nat) (d : Dic) (j : Nat) (u : Nat) : Rat := match plc (m + 1) d.B u with
  | some i => d.t i j
  | none => if u = d.N j then 1 else 0
theorem colv_B {m n : Nat} {d : Dic} (D : Dis m n d) {i j : Nat} (hi : i ≤ m) : colv m n d j (d.B i) = d.t i j := by
  unfold colv
  cases e : plc (m + 1) d.B (d.B i) with
  | none => exact absurd rfl (plc_none e i (by omega))
  | some i' =>
    obtain ⟨h1, h2⟩ := plc_some e
    rw [D.bb i' i (by omega) hi h2]
theorem colv_N {m n : Nat} {d : Dic} (D : Dis m n d) {j k : Nat} (hj : j ≤ n) (hk : k ≤ n) : colv m n d j (d.N k) = if k = j then 1 else 0 := by
  unfold colv
  cases e : plc (m + 1) d.B (d.N k) with
  | none =>
    show (if d.N k = d.N j then (1 : Rat) else 0) = _
    by_cases h : k = j
    · subst h; rw [if_pos rfl, if_pos rfl]
    · rw [if_neg h, if_neg fun z => h (D.nn _ _ hk hj z)]
  | some i' =>
    obtain ⟨h1, h2⟩ := plc_some e
    exact absurd h2 (D.bn i' k (by omega) hk)
theorem colv_other {m n : Nat} {d : Dic} {j u : Nat} (hB : ∀ i, i ≤ m → d.B i ≠ u) (hN : d.N j ≠ u) : colv m n d j u = 0 := by
  unfold colv
  cases e : plc (m + 1) d.B u with
  | none =>
    show (if u = d.N j then (1 : Rat) else 0) = _
    rw [if_neg fun z => hN z.symm]
  | some i' =>
    obtain ⟨h1, h2⟩ := plc_some e
    exact absurd h2 (hB i' (by omega))
theorem sol_colv {m n : Nat} {d : Dic} (D : Dis m n d) {j : Nat} (hj : j ≤ n) : Sol m n d (colv m n d j) := by
  intro i hi
  rw [colv_B D hi, sm_one (c := j) (by omega)]
  · rw [colv_N D hj hj, if_pos rfl]; grind
  · intro k hk hne
    rw [colv_N D hj (by omega), if_neg hne]; grind
/-- columns 1 .. n -/
def NB (n : Nat) (d : Dic) (u : Nat) : Prop := ∃ j, 1 ≤ j ∧ j ≤ n ∧ d.N j = u
/-- one step of the rule: r below m, c from 1 on -/
def Rule (m n : Nat) (d : Dic) (r c : Nat) : Prop :=
  (r < m ∧ 1 ≤ c ∧ c ≤ n) ∧
  ((d.t r 0 < 0 ∧ (∀ i, i < m → d.t i 0 < 0 → d.B r ≤ d.B i) ∧ (∀ j, 1 ≤ j → j ≤ n → 0 < d.t m j → d.B r ≤ d.N j) ∧ 0 < d.t r c ∧ (∀ j, 1 ≤ j → j ≤ n → 0 < d.t r j → d.N c ≤ d.N j)) ∨
   (0 < d.t m c ∧ (∀ i, i < m → d.t i 0 < 0 → d.N c ≤ d.B i) ∧ (∀ j, 1 ≤ j → j ≤ n → 0 < d.t m j → d.N c ≤ d.N j) ∧ d.t r c < 0 ∧ (∀ i, i < m → d.t i c < 0 → d.B r ≤ d.B i)))
theorem Rule.pivot {m n : Nat} {d : Dic} {r c : Nat} (h : Rule m n d r c) : d.t r c ≠ 0 := by
  rcases h.2 with ⟨_, _, _, h, _⟩ | ⟨_, _, _, h, _⟩ <;> grind

/-! ### no name enters and leaves while none above it moves -/
section
variable {m n q : Nat}
theorem col_nonneg {d : Dic} {k : Nat} (h : ∀ i, i < m → d.t i k < 0 → q ≤ d.B i) {u : Nat} (hu : u < q) (hF : u ≠ d.B m) : 0 ≤ colv m n d k u := by
  unfold colv
  cases e : plc (m + 1) d.B u with
  | none =>
    show (0 : Rat) ≤ (if u = d.N k then 1 else 0)
    by_cases z : u = d.N k
    · rw [if_pos z]; grind
    · rw [if_neg z]; exact Rat.le_refl
  | some i =>
    obtain ⟨h1, h2⟩ := plc_some e
    have hi : i < m := by
      by_cases z : i = m
      · subst z; exact absurd h2.symm hF
      · omega
    show 0 ≤ d.t i k
    by_cases z : d.t i k < 0
    · have := h i hi z
      omega
    · grind
theorem col_zero {d : Dic} (D : Dis m n d) {k u : Nat} (hk : k ≤ n) (hu : NB n d u) (hne : u ≠ d.N k) : colv m n d k u = 0 := by
  obtain ⟨j, h1, h2, rfl⟩ := hu
  rw [colv_N D hk h2, if_neg]
  rintro rfl
  exact hne rfl
/-- a row whose signs are those of a name's entering, at a vector whose signs are those of its leaving -/
theorem row_neg {d : Dic} {i c : Nat} {v : Nat → Rat} (S : Sol m n d v) (hi : i ≤ m) (hc1 : 1 ≤ c) (hc : c ≤ n) (hq : d.N c = q) (hp : 0 < d.t i c) (hr : ∀ j, 1 ≤ j → j ≤ n → d.N j < q → d.t i j ≤ 0)
    (inj : ∀ j, j ≤ n → d.N j = q → j = c)
    (vq : v q < 0) (vl : ∀ j, 1 ≤ j → j ≤ n → d.N j < q → 0 ≤ v (d.N j)) (vg : ∀ j, 1 ≤ j → j ≤ n → q < d.N j → v (d.N j) = 0) : v (d.B i) < d.t i 0 * v (d.N 0) := by
  rw [S i hi, sm_first]
  have h : sm n (fun j => d.t i (j + 1) * v (d.N (j + 1))) < 0 := by
    rw [sm_split (c := c - 1) (by omega)]
    rw [show c - 1 + 1 = c by omega, hq]
    have a : d.t i c * v q < 0 := by
      have := Rat.mul_pos hp (show 0 < -(v q) by grind)
      grind
    have b : sm n (fun j => if j = c - 1 then 0 else d.t i (j + 1) * v (d.N (j + 1))) ≤ 0 := by
      refine sm_nonpos fun j hj => ?_
      by_cases e : j = c - 1
      · rw [if_pos e]; exact Rat.le_refl
      · rw [if_neg e]
        have ne : d.N (j + 1) ≠ q := fun z => e (by have := inj (j + 1) (by omega) z; omega)
        by_cases l : d.N (j + 1) < q
        · have h1 := hr (j + 1) (by omega) (by omega) l
          have h2 := vl (j + 1) (by omega) (by omega) l
          have := Rat.mul_nonneg (show 0 ≤ -(d.t i (j + 1)) by grind) h2
          grind
        · rw [vg (j + 1) (by omega) (by omega) (by omega)]
          grind
    grind
  grind
/-- a row whose signs are all right below q, at a vector whose signs are -/
theorem row_le {d : Dic} {i : Nat} {v : Nat → Rat} (S : Sol m n d v) (hi : i ≤ m) (hr : ∀ j, 1 ≤ j → j ≤ n → d.N j < q → d.t i j ≤ 0) (nq : ∀ j, 1 ≤ j → j ≤ n → d.N j ≠ q)
    (vl : ∀ j, 1 ≤ j → j ≤ n → d.N j < q → 0 ≤ v (d.N j)) (vg : ∀ j, 1 ≤ j → j ≤ n → q < d.N j → v (d.N j) = 0) : v (d.B i) ≤ d.t i 0 * v (d.N 0) := by
  rw [S i hi, sm_first]
  have b : sm n (fun j => d.t i (j + 1) * v (d.N (j + 1))) ≤ 0 := by
    refine sm_nonpos fun j hj => ?_
    have ne := nq (j + 1) (by omega) (by omega)
    by_cases l : d.N (j + 1) < q
    · have h1 := hr (j + 1) (by omega) (by omega) l
      have h2 := vl (j + 1) (by omega) (by omega) l
      have := Rat.mul_nonneg (show 0 ≤ -(d.t i (j + 1)) by grind) h2
      grind
    · rw [vg (j + 1) (by omega) (by omega) (by omega)]
      grind
  grind
theorem no_pair {d1 d2 : Dic} {r1 c1 r2 c2 : Nat} (D1 : Dis m n d1) (D2 : Dis m n d2) (hS : ∀ x, Sol m n d1 x ↔ Sol m n d2 x) (hC : d1.N 0 = d2.N 0) (hF : d1.B m = d2.B m)
    (R1 : Rule m n d1 r1 c1) (R2 : Rule m n d2 r2 c2) (q1 : d1.N c1 = q) (q2 : d2.B r2 = q) (l1 : d1.B r1 ≤ q) (l2 : d2.N c2 ≤ q)
    (st : ∀ u, q < u → (NB n d1 u ↔ NB n d2 u)) : False := by
  obtain ⟨⟨hr1, hc1, hc1'⟩, R1⟩ := R1
  obtain ⟨⟨hr2, hc2, hc2'⟩, R2⟩ := R2
  have k1 : d1.B r1 < q := by
    have := D1.bn r1 c1 (by omega) hc1'
    omega
  have k2 : d2.N c2 < q := by
    have := D2.bn r2 c2 (by omega) hc2'
    omega
  have nF1 : ∀ j, j ≤ n → d1.N j ≠ d2.B m := fun j hj z => D1.bn m j (by omega) hj (by rw [hF, z])
  have nF2 : ∀ j, j ≤ n → d2.N j ≠ d1.B m := fun j hj z => D2.bn m j (by omega) hj (by rw [← hF, z])
  have bF1 : d1.B r1 ≠ d2.B m := fun z => by
    have := D1.bb r1 m (by omega) (by omega) (by rw [hF, z])
    omega
  have nC1 : ∀ j, 1 ≤ j → j ≤ n → d1.N j ≠ d2.N 0 := fun j h1 h2 z => by
    have := D1.nn j 0 h2 (by omega) (by rw [hC, z])
    omega
  have nC2 : ∀ j, 1 ≤ j → j ≤ n → d2.N j ≠ d1.N 0 := fun j h1 h2 z => by
    have := D2.nn j 0 h2 (by omega) (by rw [← hC, z])
    omega
  have inj1 : ∀ j, j ≤ n → d1.N j = q → j = c1 := fun j hj z => D1.nn j c1 hj hc1' (by rw [z, q1])
  -- the leaving vector and the entering row
  have main : ∀ (k i : Nat), k ≤ n → (k = 0 ∨ k = c2) → d2.t r2 k < 0 → (∀ i, i < m → d2.t i k < 0 → q ≤ d2.B i) → i ≤ m → 0 < d1.t i c1 → (∀ j, 1 ≤ j → j ≤ n → d1.N j < q → d1.t i j ≤ 0) →
      colv m n d2 k (d1.B i) < d1.t i 0 * colv m n d2 k (d1.N 0) := by
    intro k i hk hk0 hneg hrest hi hp hrow
    refine row_neg ((hS _).mpr (sol_colv D2 hk)) hi hc1 hc1' q1 hp hrow inj1 ?_ ?_ ?_
    · rw [← q2, colv_B D2 (by omega)]; exact hneg
    · intro j h1 h2 h3
      exact col_nonneg hrest h3 (nF1 j h2)
    · intro j h1 h2 h3
      refine col_zero D2 hk ((st _ h3).mp ⟨j, h1, h2, rfl⟩) ?_
      rcases hk0 with rfl | rfl
      · exact nC1 j h1 h2
      · omega
  rcases R2 with ⟨a0, a1, a2, a3, a4⟩ | ⟨b0, b1, b2, b3, b4⟩
  · -- q leaves as the wrong name
    rw [q2] at a1 a2
    rcases R1 with ⟨c0, c1', c2', c3, c4⟩ | ⟨e0, e1, e2, e3, e4⟩
    · rw [q1] at c4
      have h := main 0 r1 (by omega) (.inl rfl) a0 a1 (by omega) c3 (fun j h1 h2 h3 => by
        by_cases z : 0 < d1.t r1 j
        · have := c4 j h1 h2 z; omega
        · grind)
      rw [hC, colv_N D2 (by omega) (by omega), if_pos rfl] at h
      have := col_nonneg (m := m) (n := n) (q := q) (d := d2) (k := 0) a1 k1 bF1
      grind
    · rw [q1] at e1 e2
      have h := main 0 m (by omega) (.inl rfl) a0 a1 (by omega) e0 (fun j h1 h2 h3 => by
        by_cases z : 0 < d1.t m j
        · have := e2 j h1 h2 z; omega
        · grind)
      rw [hC, colv_N D2 (by omega) (by omega), if_pos rfl, hF, colv_B D2 (by omega)] at h
      have h' := row_le (q := q) (i := m) ((hS _).mp (sol_colv D1 (j := 0) (by omega))) (by omega) (fun j h1 h2 h3 => by
          by_cases z : 0 < d2.t m j
          · have := a2 j h1 h2 z; omega
          · grind) (fun j h1 h2 z => D2.bn r2 j (by omega) h2 (by rw [q2, z])) (fun j h1 h2 h3 => col_nonneg e1 h3 (nF2 j h2))
        (fun j h1 h2 h3 => col_zero D1 (by omega) ((st _ h3).mpr ⟨j, h1, h2, rfl⟩) (nC2 j h1 h2))
      rw [← hF, colv_B D1 (by omega), ← hC, colv_N D1 (by omega) (by omega), if_pos rfl] at h'
      grind
  · rw [q2] at b4
    have z0 : colv m n d2 c2 (d1.N 0) = 0 := by
      rw [hC, colv_N D2 hc2' (by omega), if_neg (by omega)]
    rcases R1 with ⟨c0, c1', c2', c3, c4⟩ | ⟨e0, e1, e2, e3, e4⟩
    · rw [q1] at c4
      have h := main c2 r1 hc2' (.inr rfl) b3 b4 (by omega) c3 (fun j h1 h2 h3 => by
        by_cases z : 0 < d1.t r1 j
        · have := c4 j h1 h2 z; omega
        · grind)
      rw [z0] at h
      have := col_nonneg (m := m) (n := n) (q := q) (d := d2) (k := c2) b4 k1 bF1
      grind
    · rw [q1] at e1 e2
      have h := main c2 m hc2' (.inr rfl) b3 b4 (by omega) e0 (fun j h1 h2 h3 => by
        by_cases z : 0 < d1.t m j
        · have := e2 j h1 h2 z; omega
        · grind)
      rw [z0, hF, colv_B D2 (by omega)] at h
      grind
end

/-! ### a run is short -/
theorem least_in (P : Nat → Prop) (a b : Nat) : (∀ s, a ≤ s → s < b → ¬ P s) ∨ ∃ u, a ≤ u ∧ u < b ∧ P u ∧ ∀ s, a ≤ s → s < u → ¬ P s := by
  induction b with
  | zero => exact .inl fun s _ h => by omega
  | succ b ih =>
    rcases ih with h | ⟨u, h1, h2, h3, h4⟩
    · by_cases e : a ≤ b ∧ P b
      · exact .inr ⟨b, e.1, by omega, e.2, fun s h1 h2 => h s h1 h2⟩
      · refine .inl fun s h1 h2 h3 => ?_
        by_cases z : s = b
        · subst z; exact e ⟨h1, h3⟩
        · exact h s h1 (by omega) h3
    · exact .inr ⟨u, h1, by omega, h3, h4⟩
structure Run (m n : Nat) (d : Nat → Dic) (r c : Nat → Nat) (k : Nat) : Prop where
  dis : Dis m n (d 0)
  rule : ∀ s, s < k → Rule m n (d s) (r s) (c s)
  next : ∀ s, s < k → d (s + 1) = xch (d s) (r s) (c s)
section
variable {m n : Nat} {d : Nat → Dic} {r c : Nat → Nat} {k : Nat}
theorem Run.disAt (R : Run m n d r c k) : ∀ s, s ≤ k → Dis m n (d s) := by
  intro s
  induction s with
  | zero => intro _; exact R.dis
  | succ s ih =>
    intro h
    obtain ⟨⟨h1, h2, h3⟩, _⟩ := R.rule s (by omega)
    rw [R.next s (by omega)]
    exact (ih (by omega)).xch (by omega) h3
theorem Run.sol (R : Run m n d r c k) : ∀ s, s ≤ k → ∀ x, Sol m n (d s) x ↔ Sol m n (d 0) x := by
  intro s
  induction s with
  | zero => intro _ x; exact Iff.rfl
  | succ s ih =>
    intro h x
    obtain ⟨⟨h1, h2, h3⟩, _⟩ := R.rule s (by omega)
    rw [R.next s (by omega), sol_xch_iff (by omega) h3 (R.rule s (by omega)).pivot]
    exact ih (by omega) x
theorem Run.N0 (R : Run m n d r c k) : ∀ s, s ≤ k → (d s).N 0 = (d 0).N 0 ∧ (d s).B m = (d 0).B m := by
  intro s
  induction s with
  | zero => intro _; exact ⟨rfl, rfl⟩
  | succ s ih =>
    intro h
    obtain ⟨⟨h1, h2, h3⟩, _⟩ := R.rule s (by omega)
    have i := ih (by omega)
    rw [R.next s (by omega)]
    refine ⟨?_, ?_⟩
    · show (if 0 = c s then _ else (d s).N 0) = _
      rw [if_neg (by omega)]; exact i.1
    · show (if m = r s then _ else (d s).B m) = _
      rw [if_neg (by omega)]; exact i.2
/-- a step leaves the other names where they are -/
theorem nb_step {d : Dic} {r c u : Nat} (hc1 : 1 ≤ c) (h1 : d.N c ≠ u) (h2 : d.B r ≠ u) : NB n (xch d r c) u ↔ NB n d u := by
  constructor
  · rintro ⟨j, a, b, e⟩
    have e : (if j = c then d.B r else d.N j) = u := e
    by_cases z : j = c
    · rw [if_pos z] at e; exact absurd e h2
    · rw [if_neg z] at e; exact ⟨j, a, b, e⟩
  · rintro ⟨j, a, b, e⟩
    refine ⟨j, a, b, ?_⟩
    show (if j = c then d.B r else d.N j) = u
    by_cases z : j = c
    · subst z; exact absurd e h1
    · rw [if_neg z]; exact e
theorem Run.keep (R : Run m n d r c k) {u a b : Nat} (hab : a ≤ b) (hb : b ≤ k) (h : ∀ s, a ≤ s → s < b → (d s).N (c s) ≠ u ∧ (d s).B (r s) ≠ u) : NB n (d b) u ↔ NB n (d a) u := by
  induction b with
  | zero => rw [show a = 0 by omega]
  | succ b ih =>
    by_cases z : a = b + 1
    · rw [z]
    · obtain ⟨⟨h1, h2, h3⟩, _⟩ := R.rule b (by omega)
      obtain ⟨a1, a2⟩ := h b (by omega) (by omega)
      rw [R.next b (by omega), nb_step h2 a1 a2]
      exact ih (by omega) (by omega) fun s x y => h s x (by omega)
theorem Run.short (R : Run m n d r c k) : ∀ q a b, a ≤ b → b ≤ k → (∀ s, a ≤ s → s < b → (d s).N (c s) < q ∧ (d s).B (r s) < q) → b - a < 2 ^ q := by
  intro q
  induction q with
  | zero =>
    intro a b hab hb h
    by_cases e : a < b
    · have := (h a (by omega) e).1; omega
    · have : b - a = 0 := by omega
      rw [this]; exact Nat.one_pos
  | succ q ih =>
    intro a b hab hb h
    have two : 2 ^ (q + 1) = 2 ^ q + 2 ^ q := by rw [Nat.pow_succ]; omega
    have small : ∀ a' b', a ≤ a' → b' ≤ b → (∀ s, a' ≤ s → s < b' → ¬ ((d s).N (c s) = q ∨ (d s).B (r s) = q)) → ∀ s, a' ≤ s → s < b' → (d s).N (c s) < q ∧ (d s).B (r s) < q := by
      intro a' b' h1 h2 h3 s h4 h5
      have x := h s (by omega) (by omega)
      have y := h3 s h4 h5
      exact ⟨by omega, by omega⟩
    rcases least_in (fun s => (d s).N (c s) = q ∨ (d s).B (r s) = q) a b with h0 | ⟨u, u1, u2, u3, u4⟩
    · have := ih a b hab hb (small a b (by omega) (by omega) h0)
      omega
    · have f1 := ih a u u1 (by omega) (small a u (by omega) (by omega) u4)
      rcases least_in (fun s => (d s).N (c s) = q ∨ (d s).B (r s) = q) (u + 1) b with h0 | ⟨v, v1, v2, v3, v4⟩
      · have f2 := ih (u + 1) b (by omega) hb (small (u + 1) b (by omega) (by omega) h0)
        omega
      · exfalso
        have Du := R.disAt u (by omega)
        have Dv := R.disAt v (by omega)
        have Du1 := R.disAt (u + 1) (by omega)
        have Ru := R.rule u (by omega)
        have Rv := R.rule v (by omega)
        obtain ⟨⟨ur1, uc1, uc2⟩, _⟩ := Ru
        obtain ⟨⟨vr1, vc1, vc2⟩, _⟩ := Rv
        have xu := R.next u (by omega)
        have hS : ∀ x, Sol m n (d u) x ↔ Sol m n (d v) x := fun x => (R.sol u (by omega) x).trans (R.sol v (by omega) x).symm
        have N0 := (R.N0 u (by omega)).1.trans (R.N0 v (by omega)).1.symm
        have B0 := (R.N0 u (by omega)).2.trans (R.N0 v (by omega)).2.symm
        have bu := h u (by omega) (by omega)
        have bv := h v (by omega) (by omega)
        have kq := R.keep (u := q) (a := u + 1) (b := v) (by omega) (by omega) (fun s s1 s2 => by
          have := v4 s s1 s2
          exact ⟨fun z => this (.inl z), fun z => this (.inr z)⟩)
        have kg : ∀ w, q < w → (NB n (d v) w ↔ NB n (d u) w) := fun w hw => R.keep (a := u) (b := v) (by omega) (by omega) (fun s s1 s2 => by
          have := h s (by omega) (by omega)
          exact ⟨by omega, by omega⟩)
        have notNB : ∀ {d : Dic} {i : Nat}, Dis m n d → i ≤ m → d.B i = q → ¬ NB n d q := by
          rintro d i D hi e ⟨j, _, j2, e2⟩
          exact D.bn i j hi j2 (e.trans e2.symm)
        rcases u3 with e | e
        · -- q enters at u: it is basic behind
          have b1 : (d (u + 1)).B (r u) = q := by
            rw [xu]
            show (if r u = r u then (d u).N (c u) else _) = q
            rw [if_pos rfl, e]
          have nb : ¬ NB n (d v) q := fun z => notNB Du1 (by omega) b1 (kq.mp z)
          rcases v3 with e2 | e2
          · exact nb ⟨c v, vc1, vc2, e2⟩
          · exact no_pair Du Dv hS N0 B0 (R.rule u (by omega)) (R.rule v (by omega)) e e2 (by omega) (by omega) fun w hw => (kg w hw).symm
        · have b1 : (d (u + 1)).N (c u) = q := by
            rw [xu]
            show (if c u = c u then (d u).B (r u) else _) = q
            rw [if_pos rfl, e]
          have nb : NB n (d v) q := kq.mpr ⟨c u, uc1, uc2, b1⟩
          rcases v3 with e2 | e2
          · exact no_pair Dv Du (fun x => (hS x).symm) N0.symm B0.symm (R.rule v (by omega)) (R.rule u (by omega)) e2 e (by omega) (by omega) kg
          · exact notNB Dv (by omega) e2 nb
/-- all names but the two fixed ones below T: fewer than 2 ^ T steps -/
theorem Run.steps (R : Run m n d r c k) {T : Nat} (hT : ∀ s, s < k → (d s).N (c s) < T ∧ (d s).B (r s) < T) : k < 2 ^ T := by
  have := R.short T 0 k (by omega) (by omega) fun s _ h => hT s h
  omega
end

/-! ### what a run keeps -/
section
variable {m n : Nat} {d : Nat → Dic} {r c : Nat → Nat} {k : Nat}
theorem Run.below (R : Run m n d r c k) {T : Nat} (hB : ∀ i, i < m → (d 0).B i < T) (hN : ∀ j, 1 ≤ j → j ≤ n → (d 0).N j < T) : ∀ s, s ≤ k → (∀ i, i < m → (d s).B i < T) ∧ (∀ j, 1 ≤ j → j ≤ n → (d s).N j < T) := by
  intro s
  induction s with
  | zero => intro _; exact ⟨hB, hN⟩
  | succ s ih =>
    intro h
    obtain ⟨i1, i2⟩ := ih (by omega)
    obtain ⟨⟨h1, h2, h3⟩, _⟩ := R.rule s (by omega)
    rw [R.next s (by omega)]
    refine ⟨fun i hi => ?_, fun j hj hj2 => ?_⟩
    · show (if i = r s then (d s).N (c s) else (d s).B i) < T
      by_cases e : i = r s
      · rw [if_pos e]; exact i2 _ h2 h3
      · rw [if_neg e]; exact i1 i hi
    · show (if j = c s then (d s).B (r s) else (d s).N j) < T
      by_cases e : j = c s
      · rw [if_pos e]; exact i1 _ h1
      · rw [if_neg e]; exact i2 j hj hj2
theorem Run.len (R : Run m n d r c k) {T : Nat} (hB : ∀ i, i < m → (d 0).B i < T) (hN : ∀ j, 1 ≤ j → j ≤ n → (d 0).N j < T) : k < 2 ^ T :=
  R.steps fun s hs => by
    obtain ⟨i1, i2⟩ := R.below hB hN s (by omega)
    obtain ⟨⟨h1, h2, h3⟩, _⟩ := R.rule s hs
    exact ⟨i2 _ h2 h3, i1 _ h1⟩
theorem Run.more (R : Run m n d r c k) {a b : Nat} (h : Rule m n (d k) a b) : Run m n (fun s => if s ≤ k then d s else xch (d k) a b) (fun s => if s < k then r s else a) (fun s => if s < k then c s else b) (k + 1) where
  dis := by
    show Dis m n (if 0 ≤ k then d 0 else _)
    rw [if_pos (by omega)]; exact R.dis
  rule := fun s hs => by
    show Rule m n (if s ≤ k then d s else _) (if s < k then r s else a) (if s < k then c s else b)
    by_cases e : s < k
    · rw [if_pos (by omega), if_pos e, if_pos e]; exact R.rule s e
    · rw [if_pos (by omega), if_neg e, if_neg e, show s = k by omega]; exact h
  next := fun s hs => by
    show (if s + 1 ≤ k then d (s + 1) else xch (d k) a b) = xch (if s ≤ k then d s else _) (if s < k then r s else a) (if s < k then c s else b)
    by_cases e : s < k
    · rw [if_pos (by omega), if_pos (by omega), if_pos e, if_pos e]; exact R.next s e
    · rw [if_neg (by omega), if_pos (by omega), if_neg e, if_neg e, show s = k by omega]
end
/-- what can be reached from a dictionary -/
def Reach (m n : Nat) (d0 : Dic) (k : Nat) (d : Dic) : Prop := ∃ (D : Nat → Dic) (r c : Nat → Nat), Run m n D r c k ∧ D 0 = d0 ∧ D k = d
theorem Reach.start {m n : Nat} {d0 : Dic} (h : Dis m n d0) : Reach m n d0 0 d0 := ⟨fun _ => d0, fun _ => 0, fun _ => 0, ⟨h, fun s hs => by omega, fun s hs => by omega⟩, rfl, rfl⟩
theorem Reach.step {m n k : Nat} {d0 d : Dic} {a b : Nat} (h : Reach m n d0 k d) (hr : Rule m n d a b) : Reach m n d0 (k + 1) (xch d a b) := by
  obtain ⟨D, r, c, R, e0, ek⟩ := h
  refine ⟨_, _, _, R.more (by rw [ek]; exact hr), ?_, ?_⟩
  · show (if 0 ≤ k then D 0 else _) = d0
    rw [if_pos (by omega)]; exact e0
  · show (if k + 1 ≤ k then _ else xch (D k) a b) = _
    rw [if_neg (by omega), ek]
/-- what holds of all that is reached -/
structure Good (m n T : Nat) (d0 d : Dic) : Prop where
  dis : Dis m n d
  sol : ∀ x, Sol m n d x ↔ Sol m n d0 x
  N0 : d.N 0 = d0.N 0
  Bm : d.B m = d0.B m
  B : ∀ i, i < m → d.B i < T
  N : ∀ j, 1 ≤ j → j ≤ n → d.N j < T
theorem Reach.good {m n k T : Nat} {d0 d : Dic} (h : Reach m n d0 k d) (hB : ∀ i, i < m → d0.B i < T) (hN : ∀ j, 1 ≤ j → j ≤ n → d0.N j < T) : Good m n T d0 d ∧ k < 2 ^ T := by
  obtain ⟨D, r, c, R, rfl, rfl⟩ := h
  obtain ⟨b1, b2⟩ := R.below hB hN k (Nat.le_refl _)
  exact ⟨⟨R.disAt k (Nat.le_refl _), R.sol k (Nat.le_refl _), (R.N0 k (Nat.le_refl _)).1, (R.N0 k (Nat.le_refl _)).2, b1, b2⟩, R.len hB hN⟩

/-! ### the first dictionary: shares 0 .. n, then the inequalities; n + 1 + many the constant, one more the reward -/
def dic0 (n many : Nat) (A : Nat → Nat → Rat) (rew : Nat → Rat) : Dic where
  t := fun i j => if i = 0 then (if j = 0 then 1 else -1) else if i = many + 1 then (if j = 0 then rew 0 else rew j - rew 0) else (if j = 0 then A (i - 1) 0 else A (i - 1) j - A (i - 1) 0)
  B := fun i => if i = 0 then 0 else if i = many + 1 then n + many + 2 else n + i
  N := fun j => if j = 0 then n + many + 1 else j
/-- a share vector's values at all names -/
def ext (n many : Nat) (A : Nat → Nat → Rat) (rew p : Nat → Rat) (u : Nat) : Rat :=
  if u ≤ n then p u else if u = n + many + 1 then sm (n + 1) p else if u = n + many + 2 then sm (n + 1) (fun k => rew k * p k) else sm (n + 1) (fun k => A (u - (n + 1)) k * p k)
section
variable {n many : Nat} {A : Nat → Nat → Rat} {rew : Nat → Rat}
theorem first_form (g p : Nat → Rat) : sm (n + 1) (fun k => g k * p k) = g 0 * sm (n + 1) p + sm n (fun j => (g (j + 1) - g 0) * p (j + 1)) := by
  rw [sm_first, sm_first]
  have : sm n (fun j => (g (j + 1) - g 0) * p (j + 1)) = sm n (fun j => g (j + 1) * p (j + 1)) + -(g 0) * sm n (fun j => p (j + 1)) := by
    rw [← sm_mul, ← sm_add]
    exact sm_congr fun j _ => by grind
  rw [this]; grind
theorem dic0_dis : Dis (many + 1) n (dic0 n many A rew) where
  bb := fun i i' hi hi' h => by
    have h : (if i = 0 then 0 else if i = many + 1 then n + many + 2 else n + i) = (if i' = 0 then 0 else if i' = many + 1 then n + many + 2 else n + i') := h
    split at h <;> split at h <;> (try split at h) <;> (try split at h) <;> omega
  nn := fun j j' hj hj' h => by
    have h : (if j = 0 then n + many + 1 else j) = (if j' = 0 then n + many + 1 else j') := h
    split at h <;> split at h <;> omega
  bn := fun i j hi hj h => by
    have h : (if i = 0 then 0 else if i = many + 1 then n + many + 2 else n + i) = (if j = 0 then n + many + 1 else j) := h
    split at h <;> split at h <;> (try split at h) <;> omega
theorem dic0_B : ∀ i, i < many + 1 → (dic0 n many A rew).B i < n + many + 1 := fun i hi => by
  show (if i = 0 then 0 else if i = many + 1 then n + many + 2 else n + i) < _
  split
  · omega
  · split <;> omega
theorem dic0_N : ∀ j, 1 ≤ j → j ≤ n → (dic0 n many A rew).N j < n + many + 1 := fun j hj hj2 => by
  show (if j = 0 then n + many + 1 else j) < _
  rw [if_neg (by omega)]; omega
theorem ext_C (p : Nat → Rat) : ext n many A rew p (n + many + 1) = sm (n + 1) p := by
  unfold ext
  rw [if_neg (by omega), if_pos rfl]
theorem ext_F (p : Nat → Rat) : ext n many A rew p (n + many + 2) = sm (n + 1) (fun k => rew k * p k) := by
  unfold ext
  rw [if_neg (by omega), if_neg (by omega), if_pos rfl]
theorem ext_share (p : Nat → Rat) {u : Nat} (h : u ≤ n) : ext n many A rew p u = p u := by
  unfold ext
  rw [if_pos h]
theorem ext_slack (p : Nat → Rat) {s : Nat} (h : s < many) : ext n many A rew p (n + 1 + s) = sm (n + 1) (fun k => A s k * p k) := by
  unfold ext
  rw [if_neg (by omega), if_neg (by omega), if_neg (by omega), show n + 1 + s - (n + 1) = s by omega]
theorem dic0_sol (x : Nat → Rat) : Sol (many + 1) n (dic0 n many A rew) x ↔ (x (n + many + 1) = sm (n + 1) x ∧ (∀ s, s < many → x (n + 1 + s) = sm (n + 1) (fun k => A s k * x k)) ∧ x (n + many + 2) = sm (n + 1) (fun k => rew k * x k)) := by
  have row0 : sm (n + 1) (fun j => (dic0 n many A rew).t 0 j * x ((dic0 n many A rew).N j)) = x (n + many + 1) - sm n (fun j => x (j + 1)) := by
    rw [sm_first]
    have : sm n (fun j => (dic0 n many A rew).t 0 (j + 1) * x ((dic0 n many A rew).N (j + 1))) = -1 * sm n (fun j => x (j + 1)) := by
      rw [← sm_mul]
      refine sm_congr fun j _ => ?_
      simp only [dic0]
      rw [if_pos trivial, if_neg (by omega), if_neg (by omega)]
    rw [this]
    simp only [dic0]
    rw [if_pos trivial, if_pos trivial, if_pos trivial]; grind
  have rowg : ∀ (g : Nat → Rat) (i : Nat), (∀ j, (dic0 n many A rew).t i j = if j = 0 then g 0 else g j - g 0) → sm (n + 1) (fun j => (dic0 n many A rew).t i j * x ((dic0 n many A rew).N j)) = g 0 * x (n + many + 1) + sm n (fun j => (g (j + 1) - g 0) * x (j + 1)) := by
    intro g i h
    rw [sm_first]
    have : sm n (fun j => (dic0 n many A rew).t i (j + 1) * x ((dic0 n many A rew).N (j + 1))) = sm n (fun j => (g (j + 1) - g 0) * x (j + 1)) := by
      refine sm_congr fun j _ => ?_
      rw [h]
      show (if j + 1 = 0 then g 0 else g (j + 1) - g 0) * x (if j + 1 = 0 then n + many + 1 else j + 1) = _
      rw [if_neg (by omega), if_neg (by omega)]
    rw [this, h, if_pos rfl]
    rfl
  have rowS : ∀ s, s < many → ∀ j, (dic0 n many A rew).t (s + 1) j = if j = 0 then A s 0 else A s j - A s 0 := fun s hs j => by
    simp only [dic0]
    rw [if_neg (by omega), if_neg (by omega), show s + 1 - 1 = s by omega]
  have rowR : ∀ j, (dic0 n many A rew).t (many + 1) j = if j = 0 then rew 0 else rew j - rew 0 := fun j => by
    simp only [dic0]
    rw [if_neg (by omega), if_pos trivial]
  have B0 : (dic0 n many A rew).B 0 = 0 := rfl
  have Bs : ∀ s, s < many → (dic0 n many A rew).B (s + 1) = n + 1 + s := fun s hs => by
    show (if s + 1 = 0 then 0 else if s + 1 = many + 1 then n + many + 2 else n + (s + 1)) = _
    rw [if_neg (by omega), if_neg (by omega)]; omega
  have Bm : (dic0 n many A rew).B (many + 1) = n + many + 2 := by
    show (if many + 1 = 0 then 0 else if many + 1 = many + 1 then n + many + 2 else _) = _
    rw [if_neg (by omega), if_pos rfl]
  constructor
  · intro h
    have h0 := h 0 (by omega)
    rw [B0, row0] at h0
    have hC : x (n + many + 1) = sm (n + 1) x := by
      rw [sm_first]; grind
    refine ⟨hC, fun s hs => ?_, ?_⟩
    · have := h (s + 1) (by omega)
      rw [Bs s hs, rowg _ _ (rowS s hs), hC] at this
      rw [this, first_form]
    · have := h (many + 1) (by omega)
      rw [Bm, rowg _ _ rowR, hC] at this
      rw [this, first_form]
  · rintro ⟨hC, hS, hF⟩ i hi
    by_cases e0 : i = 0
    · subst e0
      rw [B0, row0, hC, sm_first]; grind
    · by_cases e1 : i = many + 1
      · subst e1
        rw [Bm, rowg _ _ rowR, hF, hC, first_form]
      · obtain ⟨s, rfl⟩ : ∃ s, i = s + 1 := ⟨i - 1, by omega⟩
        rw [Bs s (by omega), rowg _ _ (rowS s (by omega)), hS s (by omega), hC, first_form]
theorem sol_ext (p : Nat → Rat) : Sol (many + 1) n (dic0 n many A rew) (ext n many A rew p) := by
  rw [dic0_sol]
  have e : ∀ g : Nat → Rat, sm (n + 1) (fun k => g k * ext n many A rew p k) = sm (n + 1) (fun k => g k * p k) := fun g => sm_congr fun k hk => by rw [ext_share p (by omega)]
  refine ⟨?_, fun s hs => ?_, ?_⟩
  · rw [ext_C]; exact (sm_congr fun k hk => by rw [ext_share p (by omega)]).symm
  · rw [ext_slack p hs, e]
  · rw [ext_F, e]
/-- a solution is told by its shares -/
theorem sol_is_ext {x : Nat → Rat} (h : Sol (many + 1) n (dic0 n many A rew) x) : ∀ u, u ≤ n + many + 2 → x u = ext n many A rew x u := by
  rw [dic0_sol] at h
  obtain ⟨h1, h2, h3⟩ := h
  intro u hu
  by_cases a : u ≤ n
  · rw [ext_share x a]
  · by_cases b : u = n + many + 1
    · subst b; rw [ext_C, h1]
    · by_cases c : u = n + many + 2
      · subst c; rw [ext_F, h3]
      · obtain ⟨s, rfl⟩ : ∃ s, u = n + 1 + s := ⟨u - (n + 1), by omega⟩
        rw [ext_slack x (by omega), h2 s (by omega)]
end

/-! ### the ends -/
/-- shares that keep all inequalities -/
structure Fits (n many : Nat) (A : Nat → Nat → Rat) (p : Nat → Rat) : Prop where
  nn : ∀ k, k ≤ n → 0 ≤ p k
  one : sm (n + 1) p = 1
  kept : ∀ s, s < many → 0 ≤ sm (n + 1) (fun k => A s k * p k)
section
variable {n many : Nat} {A : Nat → Nat → Rat} {rew : Nat → Rat} {d : Dic}
theorem Fits.ext_nn {p : Nat → Rat} (h : Fits n many A p) {u : Nat} (hu : u < n + many + 1) : 0 ≤ ext n many A rew p u := by
  by_cases a : u ≤ n
  · rw [ext_share p a]; exact h.nn u a
  · obtain ⟨s, rfl⟩ : ∃ s, u = n + 1 + s := ⟨u - (n + 1), by omega⟩
    rw [ext_slack p (by omega)]; exact h.kept s (by omega)
abbrev GoodL (n many : Nat) (A : Nat → Nat → Rat) (rew : Nat → Rat) (d : Dic) : Prop := Good (many + 1) n (n + many + 1) (dic0 n many A rew) d
theorem GoodL.C (g : GoodL n many A rew d) : d.N 0 = n + many + 1 := by
  rw [g.N0]; rfl
theorem GoodL.F (g : GoodL n many A rew d) : d.B (many + 1) = n + many + 2 := by
  rw [g.Bm]
  simp only [dic0]
  rw [if_neg (by omega), if_pos trivial]
theorem GoodL.row (g : GoodL n many A rew d) (p : Nat → Rat) {i : Nat} (hi : i ≤ many + 1) : ext n many A rew p (d.B i) = d.t i 0 * sm (n + 1) p + sm n (fun j => d.t i (j + 1) * ext n many A rew p (d.N (j + 1))) := by
  have h := (g.sol _).mpr (sol_ext p) i hi
  rw [h, sm_first, g.C, ext_C]
/-- a row that cannot be from 0 on -/
theorem no_row (g : GoodL n many A rew d) {p : Nat → Rat} (h : Fits n many A p) {r : Nat} (hr : r < many + 1) (h0 : d.t r 0 < 0) (hj : ∀ j, 1 ≤ j → j ≤ n → d.t r j ≤ 0) : False := by
  have e := g.row p (i := r) (by omega)
  have a := h.ext_nn (rew := rew) (g.B r hr)
  have b : sm n (fun j => d.t r (j + 1) * ext n many A rew p (d.N (j + 1))) ≤ 0 := by
    refine sm_nonpos fun j hj2 => ?_
    have x := hj (j + 1) (by omega) (by omega)
    have y := h.ext_nn (rew := rew) (g.N (j + 1) (by omega) (by omega))
    have := Rat.mul_nonneg (show 0 ≤ -(d.t r (j + 1)) by grind) y
    grind
  rw [h.one] at e
  grind
/-- a column without a number below 0 is none -/
theorem no_col (g : GoodL n many A rew d) {c : Nat} (hc1 : 1 ≤ c) (hc : c ≤ n) (h : ∀ i, i < many + 1 → 0 ≤ d.t i c) : False := by
  have S := (g.sol _).mp (sol_colv g.dis hc)
  have E := sol_is_ext S
  have nn : ∀ u, u < n + many + 1 → 0 ≤ colv (many + 1) n d c u := by
    intro u hu
    unfold colv
    cases e : plc (many + 1 + 1) d.B u with
    | none =>
      show (0 : Rat) ≤ (if u = d.N c then 1 else 0)
      split <;> grind
    | some i =>
      obtain ⟨h1, h2⟩ := plc_some e
      have : i < many + 1 := by
        by_cases z : i = many + 1
        · subst z
          rw [g.F] at h2; omega
        · omega
      exact h i this
  have z0 : colv (many + 1) n d c (n + many + 1) = 0 := by
    rw [← g.C, colv_N g.dis hc (by omega), if_neg (by omega)]
  have s0 : sm (n + 1) (colv (many + 1) n d c) = 0 := by
    have := E (n + many + 1) (by omega)
    rw [ext_C, z0] at this
    exact this.symm
  have all := sm_all_zero (fun i hi => nn i (by omega)) (show sm (n + 1) (colv (many + 1) n d c) ≤ 0 by rw [s0]; exact Rat.le_refl)
  have one : colv (many + 1) n d c (d.N c) = 1 := by
    rw [colv_N g.dis hc hc, if_pos rfl]
  have hN := g.N c hc1 hc
  rw [E _ (by omega)] at one
  by_cases a : d.N c ≤ n
  · rw [ext_share _ a, all _ (by omega)] at one
    exact absurd one (by decide)
  · rw [show d.N c = n + 1 + (d.N c - (n + 1)) by omega, ext_slack _ (by omega), sm_zero_of] at one
    · exact absurd one (by decide)
    · intro k hk
      rw [all k hk]; grind
/-- where the rule stops: all is right -/
structure Done (m n : Nat) (d : Dic) : Prop where
  rows : ∀ i, i < m → 0 ≤ d.t i 0
  rew : ∀ j, 1 ≤ j → j ≤ n → d.t m j ≤ 0
/-- the share of k in the last dictionary; the weight of the s-th inequality -/
def shr (m : Nat) (d : Dic) (k : Nat) : Rat := match plc m d.B k with
  | some i => d.t i 0
  | none => 0
def wgt (m n : Nat) (d : Dic) (u : Nat) : Rat := match plc n (fun j => d.N (j + 1)) u with
  | some j => -d.t m (j + 1)
  | none => 0
theorem shr_col (g : GoodL n many A rew d) {k : Nat} (hk : k ≤ n) : shr (many + 1) d k = colv (many + 1) n d 0 k := by
  unfold shr colv
  have e : plc (many + 1 + 1) d.B k = plc (many + 1) d.B k := by
    show (if d.B (many + 1) = k then some (many + 1) else plc (many + 1) d.B k) = _
    rw [if_neg]
    rw [g.F]; omega
  rw [e]
  cases plc (many + 1) d.B k with
  | some i => rfl
  | none =>
    show (0 : Rat) = (if k = d.N 0 then 1 else 0)
    rw [if_neg]
    rw [g.C]; omega
theorem shr_sums (g : GoodL n many A rew d) : sm (n + 1) (shr (many + 1) d) = 1 ∧ (∀ s, s < many → sm (n + 1) (fun k => A s k * shr (many + 1) d k) = colv (many + 1) n d 0 (n + 1 + s)) ∧ sm (n + 1) (fun k => rew k * shr (many + 1) d k) = d.t (many + 1) 0 := by
  have S := (g.sol _).mp (sol_colv g.dis (j := 0) (by omega))
  obtain ⟨h1, h2, h3⟩ := (dic0_sol _).mp S
  have e : ∀ f : Nat → Rat, sm (n + 1) (fun k => f k * shr (many + 1) d k) = sm (n + 1) (fun k => f k * colv (many + 1) n d 0 k) := fun f => sm_congr fun k hk => by rw [shr_col g (by omega)]
  refine ⟨?_, fun s hs => ?_, ?_⟩
  · rw [sm_congr fun k hk => shr_col g (k := k) (by omega), ← h1, ← g.C, colv_N g.dis (by omega) (by omega), if_pos rfl]
  · rw [e, h2 s hs]
  · rw [e, ← h3, ← g.F, colv_B g.dis (by omega)]
theorem shr_fits (g : GoodL n many A rew d) (D : Done (many + 1) n d) : Fits n many A (shr (many + 1) d) where
  nn := fun k hk => by
    unfold shr
    cases e : plc (many + 1) d.B k with
    | none => exact Rat.le_refl
    | some i => exact D.rows i (plc_some e).1
  one := (shr_sums g).1
  kept := fun s hs => by
    rw [(shr_sums g).2.1 s hs]
    unfold colv
    cases e : plc (many + 1 + 1) d.B (n + 1 + s) with
    | none =>
      show (0 : Rat) ≤ (if n + 1 + s = d.N 0 then 1 else 0)
      split <;> grind
    | some i =>
      obtain ⟨h1, h2⟩ := plc_some e
      refine D.rows i ?_
      by_cases z : i = many + 1
      · subst z
        rw [g.F] at h2; omega
      · omega
theorem done_best (g : GoodL n many A rew d) (D : Done (many + 1) n d) {p : Nat → Rat} (h : Fits n many A p) : sm (n + 1) (fun k => rew k * p k) ≤ d.t (many + 1) 0 := by
  have e := g.row p (i := many + 1) (by omega)
  rw [g.F, ext_F, h.one] at e
  have b : sm n (fun j => d.t (many + 1) (j + 1) * ext n many A rew p (d.N (j + 1))) ≤ 0 := by
    refine sm_nonpos fun j hj2 => ?_
    have x := D.rew (j + 1) (by omega) (by omega)
    have y := h.ext_nn (rew := rew) (g.N (j + 1) (by omega) (by omega))
    have := Rat.mul_nonneg (show 0 ≤ -(d.t (many + 1) (j + 1)) by grind) y
    grind
  grind
theorem wgt_nn (D : Done (many + 1) n d) (u : Nat) : 0 ≤ wgt (many + 1) n d u := by
  unfold wgt
  cases e : plc n (fun j => d.N (j + 1)) u with
  | none => exact Rat.le_refl
  | some j =>
    have := D.rew (j + 1) (by omega) (by have := (plc_some e).1; omega)
    show 0 ≤ -d.t (many + 1) (j + 1)
    grind
theorem wgt_sum (g : GoodL n many A rew d) (u : Nat) : wgt (many + 1) n d u = -sm n (fun j => if d.N (j + 1) = u then d.t (many + 1) (j + 1) else 0) := by
  unfold wgt
  cases e : plc n (fun j => d.N (j + 1)) u with
  | none =>
    rw [sm_zero_of]
    · grind
    · intro j hj
      rw [if_neg (plc_none e j hj)]
  | some j =>
    obtain ⟨h1, h2⟩ := plc_some e
    have h2 : d.N (j + 1) = u := h2
    rw [sm_one h1, if_pos h2]
    intro i hi hne
    rw [if_neg]
    intro z
    have := g.dis.nn (i + 1) (j + 1) (by omega) (by omega) (by rw [z, h2])
    omega
/-- the weights make sums that are nowhere above the greatest sum less the reward -/
theorem done_weights (g : GoodL n many A rew d) (D : Done (many + 1) n d) {k : Nat} (hk : k ≤ n) : sm many (fun s => wgt (many + 1) n d (n + 1 + s) * A s k) ≤ d.t (many + 1) 0 - rew k := by
  have e := g.row (fun j => if j = k then 1 else 0) (i := many + 1) (by omega)
  have unit : ∀ f : Nat → Rat, sm (n + 1) (fun j => f j * (if j = k then (1 : Rat) else 0)) = f k := fun f => by
    rw [sm_one (c := k) (by omega)]
    · rw [if_pos rfl]; grind
    · intro j _ hne
      rw [if_neg hne]; grind
  have one : sm (n + 1) (fun j => if j = k then (1 : Rat) else 0) = 1 := by
    have := unit fun _ => 1
    rw [← this]
    exact sm_congr fun j _ => by grind
  rw [g.F, ext_F, unit, one] at e
  -- the sum over the inequalities, by columns
  have sw : sm many (fun s => wgt (many + 1) n d (n + 1 + s) * A s k) = -sm n (fun j => d.t (many + 1) (j + 1) * (if n + 1 ≤ d.N (j + 1) then A (d.N (j + 1) - (n + 1)) k else 0)) := by
    have e1 : sm many (fun s => wgt (many + 1) n d (n + 1 + s) * A s k) = sm many (fun s => sm n (fun j => (if d.N (j + 1) = n + 1 + s then -d.t (many + 1) (j + 1) * A s k else 0))) := by
      refine sm_congr fun s hs => ?_
      rw [wgt_sum g]
      have : sm n (fun j => (if d.N (j + 1) = n + 1 + s then -d.t (many + 1) (j + 1) * A s k else 0)) = -(A s k) * sm n (fun j => if d.N (j + 1) = n + 1 + s then d.t (many + 1) (j + 1) else 0) := by
        rw [← sm_mul]
        refine sm_congr fun j _ => ?_
        show (if _ then _ else (0 : Rat)) = -(A s k) * (if _ then _ else 0)
        split <;> grind
      rw [this]; grind
    rw [e1, sm_swap]
    have e2 : sm n (fun j => d.t (many + 1) (j + 1) * (if n + 1 ≤ d.N (j + 1) then A (d.N (j + 1) - (n + 1)) k else 0)) = -1 * sm n (fun j => sm many fun i => if d.N (j + 1) = n + 1 + i then -d.t (many + 1) (j + 1) * A i k else 0) := by
      rw [← sm_mul]
      refine sm_congr fun j hj => ?_
      have hN := g.N (j + 1) (by omega) (by omega)
      by_cases a : n + 1 ≤ d.N (j + 1)
      · rw [if_pos a, sm_one (c := d.N (j + 1) - (n + 1)) (by omega), if_pos (by omega)]
        · grind
        · intro i _ hne
          rw [if_neg (by omega)]
      · rw [if_neg a, sm_zero_of]
        · grind
        · intro i _
          rw [if_neg (by omega)]
    rw [e2]; grind
  rw [sw]
  have le : sm n (fun j => d.t (many + 1) (j + 1) * ext n many A rew (fun j => if j = k then 1 else 0) (d.N (j + 1))) ≤ sm n (fun j => d.t (many + 1) (j + 1) * (if n + 1 ≤ d.N (j + 1) then A (d.N (j + 1) - (n + 1)) k else 0)) := by
    refine sm_le fun j hj => ?_
    have hN := g.N (j + 1) (by omega) (by omega)
    by_cases a : n + 1 ≤ d.N (j + 1)
    · rw [if_pos a]
      have : ext n many A rew (fun j => if j = k then 1 else 0) (d.N (j + 1)) = A (d.N (j + 1) - (n + 1)) k := by
        have e3 := ext_slack (n := n) (many := many) (A := A) (rew := rew) (fun j => if j = k then 1 else 0) (s := d.N (j + 1) - (n + 1)) (by omega)
        rw [show n + 1 + (d.N (j + 1) - (n + 1)) = d.N (j + 1) by omega, unit] at e3
        exact e3
      rw [this]; exact Rat.le_refl
    · rw [if_neg a, ext_share _ (by omega)]
      have x := D.rew (j + 1) (by omega) (by omega)
      show d.t (many + 1) (j + 1) * (if d.N (j + 1) = k then (1 : Rat) else 0) ≤ d.t (many + 1) (j + 1) * 0
      split <;> grind
  grind
end
end KM
set_option linter.all false
namespace KM
/-! ### small whole solutions (by pigeonholes) -/
theorem pigeon : ∀ (M N : Nat) (f : Nat → Nat), (∀ t, t < N → f t < M) → M < N → ∃ s t, s < t ∧ t < N ∧ f s = f t := by
  intro M
  induction M with
  | zero => intro N f h hN; exact absurd (h 0 (by omega)) (by omega)
  | succ M ih =>
    intro N f h hN
    by_cases e : ∃ s, s < N - 1 ∧ f s = f (N - 1)
    · obtain ⟨s, h1, h2⟩ := e
      exact ⟨s, N - 1, h1, by omega, h2⟩
    · have ne : ∀ s, s < N - 1 → f s ≠ f (N - 1) := fun s h1 h2 => e ⟨s, h1, h2⟩
      obtain ⟨s, t, h1, h2, h3⟩ := ih (N - 1) (fun t => if f t = M then f (N - 1) else f t) (fun t ht => by
        show (if f t = M then f (N - 1) else f t) < M
        have a := h t (by omega)
        have b := h (N - 1) (by omega)
        have c := ne t ht
        split <;> omega) (by omega)
      refine ⟨s, t, h1, by omega, ?_⟩
      have a := ne s (by omega)
      have b := ne t h2
      have h3 : (if f s = M then f (N - 1) else f s) = (if f t = M then f (N - 1) else f t) := h3
      split at h3 <;> split at h3 <;> omega
def smi (n : Nat) (f : Nat → Int) : Int := match n with
  | 0 => 0
  | n + 1 => smi n f + f n
theorem smi_succ (n : Nat) (f : Nat → Int) : smi (n + 1) f = smi n f + f n := rfl
theorem smi_sub (n : Nat) (f g : Nat → Int) : smi n (fun i => f i - g i) = smi n f - smi n g := by
  induction n with
  | zero => rfl
  | succ n ih => rw [smi_succ, smi_succ, smi_succ, ih]; omega
theorem smi_congr {n : Nat} {f g : Nat → Int} (h : ∀ i, i < n → f i = g i) : smi n f = smi n g := by
  induction n with
  | zero => rfl
  | succ n ih => rw [smi_succ, smi_succ, ih (fun i hi => h i (by omega)), h n (by omega)]
theorem smi_abs {n : Nat} {f : Nat → Int} {b : Nat} (h : ∀ i, i < n → (f i).natAbs ≤ b) : (smi n f).natAbs ≤ n * b := by
  induction n with
  | zero => exact Nat.zero_le _
  | succ n ih =>
    rw [smi_succ, Nat.succ_mul]
    have a := ih fun i hi => h i (by omega)
    have c := h n (by omega)
    omega
/-- the digits tell the number -/
theorem digits_inj {b : Nat} (hb : 0 < b) : ∀ (k s t : Nat), s < b ^ k → t < b ^ k → (∀ j, j < k → s / b ^ j % b = t / b ^ j % b) → s = t := by
  intro k
  induction k with
  | zero => intro s t hs ht _; rw [Nat.pow_zero] at hs ht; omega
  | succ k ih =>
    intro s t hs ht h
    rw [Nat.pow_succ, Nat.mul_comm] at hs ht
    have h0 := h 0 (by omega)
    rw [Nat.pow_zero, Nat.div_one, Nat.div_one] at h0
    have hd := ih (s / b) (t / b) (Nat.div_lt_of_lt_mul hs) (Nat.div_lt_of_lt_mul ht) fun j hj => by
      have := h (j + 1) (by omega)
      rw [Nat.pow_succ, Nat.mul_comm, ← Nat.div_div_eq_div_mul, ← Nat.div_div_eq_div_mul] at this
      exact this
    rw [← Nat.div_add_mod s b, ← Nat.div_add_mod t b, h0, hd]
def horner (W : Nat) (v : Nat → Nat) (k : Nat) : Nat := match k with
  | 0 => 0
  | k + 1 => horner W v k * W + v k
theorem horner_lt {W : Nat} {v : Nat → Nat} : ∀ {k : Nat}, (∀ i, i < k → v i < W) → horner W v k < W ^ k := by
  intro k
  induction k with
  | zero => intro _; exact Nat.one_pos
  | succ k ih =>
    intro h
    have a := ih fun i hi => h i (by omega)
    have b := h k (by omega)
    show horner W v k * W + v k < W ^ (k + 1)
    rw [Nat.pow_succ]
    calc horner W v k * W + v k < horner W v k * W + W := by omega
      _ = (horner W v k + 1) * W := by rw [Nat.succ_mul]
      _ ≤ W ^ k * W := Nat.mul_le_mul_right _ a
theorem horner_inj {W : Nat} {u v : Nat → Nat} : ∀ {k : Nat}, (∀ i, i < k → u i < W) → (∀ i, i < k → v i < W) → horner W u k = horner W v k → ∀ i, i < k → u i = v i := by
  intro k
  induction k with
  | zero => intro _ _ _ i hi; omega
  | succ k ih =>
    intro h1 h2 h i hi
    have h : horner W u k * W + u k = horner W v k * W + v k := h
    have a := h1 k (by omega)
    have b := h2 k (by omega)
    have hW : 0 < W := by omega
    have e1 : u k = v k := by
      have := congrArg (· % W) h
      simp only [Nat.mul_add_mod_self_right, Nat.mod_eq_of_lt a, Nat.mod_eq_of_lt b] at this
      exact this
    have e2 : horner W u k = horner W v k := by
      rw [e1] at h
      exact Nat.eq_of_mul_eq_mul_right hW (by omega)
    by_cases z : i = k
    · subst z; exact e1
    · exact ih (fun i hi => h1 i (by omega)) (fun i hi => h2 i (by omega)) e2 i (by omega)
theorem siegel (n M : Nat) (hM : 1 ≤ M) (a : Nat → Nat → Int) (ha : ∀ i, i < n → ∀ j, j ≤ n → (a i j).natAbs ≤ M) :
    ∃ z : Nat → Int, (∃ j, j ≤ n ∧ z j ≠ 0) ∧ (∀ j, j ≤ n → (z j).natAbs ≤ (2 * ((n + 1) * M)) ^ n) ∧ ∀ i, i < n → smi (n + 1) (fun j => a i j * z j) = 0 := by
  generalize hH : (2 * ((n + 1) * M)) ^ n = H
  generalize hG : (n + 1) * M = G
  have hG1 : 1 ≤ G := by
    rw [← hG]
    exact Nat.mul_pos (by omega) hM
  rw [hG] at hH
  let dg : Nat → Nat → Nat := fun j t => t / (H + 1) ^ j % (H + 1)
  have dgle : ∀ j t, dg j t ≤ H := fun j t => by
    have : t / (H + 1) ^ j % (H + 1) < H + 1 := Nat.mod_lt _ (by omega)
    exact Nat.le_of_lt_succ this
  let sv : Nat → Nat → Int := fun i t => smi (n + 1) (fun j => a i j * (dg j t : Int))
  have svb : ∀ i, i < n → ∀ t, (sv i t).natAbs ≤ G * H := by
    intro i hi t
    have : (smi (n + 1) (fun j => a i j * (dg j t : Int))).natAbs ≤ (n + 1) * (M * H) := smi_abs fun j hj => by
      rw [Int.natAbs_mul]
      exact Nat.mul_le_mul (ha i hi j (by omega)) (dgle j t)
    rw [← Nat.mul_assoc, hG] at this
    exact this
  let val : Nat → Nat → Nat := fun t i => (sv i t + (G * H : Nat)).toNat
  have vlt : ∀ t i, i < n → val t i < 2 * G * H + 1 := fun t i hi => by
    have := svb i hi t
    show (sv i t + (G * H : Nat)).toNat < 2 * G * H + 1
    rw [Nat.mul_assoc]
    omega
  have big : (2 * G * H + 1) ^ n < (H + 1) ^ (n + 1) := by
    have h1 : 2 * G * H + 1 ≤ 2 * G * (H + 1) := by
      rw [Nat.mul_add]
      omega
    calc (2 * G * H + 1) ^ n ≤ (2 * G * (H + 1)) ^ n := Nat.pow_le_pow_left h1 n
      _ = H * (H + 1) ^ n := by rw [Nat.mul_pow, hH]
      _ < (H + 1) * (H + 1) ^ n := Nat.mul_lt_mul_of_pos_right (by omega) (Nat.pow_pos (by omega))
      _ = (H + 1) ^ (n + 1) := by rw [Nat.pow_succ, Nat.mul_comm]
  obtain ⟨s, t, h1, h2, h3⟩ := pigeon _ _ (fun t => horner (2 * G * H + 1) (val t) n) (fun t _ => horner_lt fun i hi => vlt t i hi) big
  have hv := horner_inj (fun i hi => vlt s i hi) (fun i hi => vlt t i hi) h3
  refine ⟨fun j => (dg j t : Int) - (dg j s : Int), ?_, fun j hj => ?_, fun i hi => ?_⟩
  · refine Classical.byContradiction fun hno => ?_
    have all : ∀ j, j < n + 1 → dg j s = dg j t := fun j hj => by
      refine Classical.byContradiction fun z => hno ⟨j, by omega, ?_⟩
      show (dg j t : Int) - (dg j s : Int) ≠ 0
      omega
    have := digits_inj (b := H + 1) (by omega) (n + 1) s t (by omega) h2 all
    omega
  · have a1 := dgle j s
    have a2 := dgle j t
    show ((dg j t : Int) - (dg j s : Int)).natAbs ≤ H
    omega
  · have e1 := hv i hi
    have e1 : (sv i s + (G * H : Nat)).toNat = (sv i t + (G * H : Nat)).toNat := e1
    have b1 := svb i hi s
    have b2 := svb i hi t
    have e2 : sv i s = sv i t := by omega
    have : smi (n + 1) (fun j => a i j * ((dg j t : Int) - (dg j s : Int))) = sv i t - sv i s := by
      show _ = smi (n + 1) _ - smi (n + 1) _
      rw [← smi_sub]
      exact smi_congr fun j _ => Int.mul_sub _ _ _
    rw [this, e2]
    omega
end KM
set_option linter.all false
namespace KM
/-! ### the sizes of a dictionary's numbers -/
/-- a quotient of two whole numbers below 2 ^ b -/
def Sz (b : Nat) (r : Rat) : Prop := ∃ N D : Int, 0 < D ∧ D.natAbs < 2 ^ b ∧ N.natAbs < 2 ^ b ∧ r * (D : Rat) = (N : Rat)
theorem smi_cast (n : Nat) (f : Nat → Int) : ((smi n f : Int) : Rat) = sm n (fun i => (f i : Rat)) := by
  induction n with
  | zero => rfl
  | succ n ih => rw [smi_succ, sm_succ, Rat.intCast_add, ih]
theorem Sz.of_div {b : Nat} {r : Rat} {N D : Int} (h : r * (D : Rat) = (N : Rat)) (h0 : D ≠ 0) (hD : D.natAbs < 2 ^ b) (hN : N.natAbs < 2 ^ b) : Sz b r := by
  by_cases p : 0 < D
  · exact ⟨N, D, p, hD, hN, h⟩
  · refine ⟨-N, -D, by omega, by omega, by omega, ?_⟩
    rw [Rat.intCast_neg, Rat.intCast_neg]; grind
theorem choose_up {n : Nat} {P : Nat → Int → Prop} (h : ∀ k, k ≤ n → ∃ a : Int, P k a) : ∃ f : Nat → Int, ∀ k, k ≤ n → P k (f k) :=
  ⟨fun k => if q : k ≤ n then (h k q).choose else 0, fun k hk => by
    dsimp only
    rw [dif_pos hk]
    exact (h k hk).choose_spec⟩
/-- the rows are whole after a multiplication each -/
structure Whole (n many : Nat) (A : Nat → Nat → Rat) (rew : Nat → Rat) (S M : Nat) : Prop where
  rows : ∀ s, s < many → ∃ D : Int, 0 < D ∧ D.natAbs ≤ S ∧ ∀ k, k ≤ n → ∃ a : Int, a.natAbs ≤ M ∧ A s k * (D : Rat) = (a : Rat)
  rew : ∀ k, k ≤ n → ∃ a : Int, a.natAbs ≤ M ∧ rew k = (a : Rat)
  one : 1 ≤ M
  oneS : 1 ≤ S
section
variable {n many : Nat} {A : Nat → Nat → Rat} {rew : Nat → Rat} {d : Dic} {S M : Nat}
/-- each name's form, whole -/
theorem Whole.form (W : Whole n many A rew S M) {u : Nat} (hu : u ≤ n + many + 2) : ∃ (D : Int) (f : Nat → Int), 0 < D ∧ D.natAbs ≤ S ∧ (∀ k, k ≤ n → (f k).natAbs ≤ M) ∧ ∀ p : Nat → Rat, ext n many A rew p u * (D : Rat) = sm (n + 1) (fun k => (f k : Rat) * p k) := by
  have one : ((1 : Int) : Rat) = 1 := rfl
  by_cases a : u ≤ n
  · refine ⟨1, fun k => if k = u then 1 else 0, by omega, W.oneS, fun k _ => ?_, fun p => ?_⟩
    · have := W.one
      show (if k = u then (1 : Int) else 0).natAbs ≤ M
      split <;> omega
    · rw [ext_share p a, sm_one (c := u) (by omega)]
      · show _ = ((if u = u then (1 : Int) else 0 : Int) : Rat) * p u
        rw [if_pos rfl, one]; grind
      · intro k _ hne
        show ((if k = u then (1 : Int) else 0 : Int) : Rat) * p k = 0
        rw [if_neg hne, Rat.intCast_zero]; grind
  · by_cases b : u = n + many + 1
    · subst b
      refine ⟨1, fun _ => 1, by omega, W.oneS, fun k _ => W.one, fun p => ?_⟩
      have : sm (n + 1) (fun k => ((1 : Int) : Rat) * p k) = sm (n + 1) p := sm_congr fun k _ => by rw [one]; grind
      show ext n many A rew p (n + many + 1) * ((1 : Int) : Rat) = sm (n + 1) (fun k => ((1 : Int) : Rat) * p k)
      rw [this, ext_C, one]; grind
    · by_cases c : u = n + many + 2
      · subst c
        obtain ⟨f, hf⟩ := choose_up W.rew
        refine ⟨1, f, by omega, W.oneS, fun k hk => (hf k hk).1, fun p => ?_⟩
        rw [ext_F, one]
        have : sm (n + 1) (fun k => rew k * p k) = sm (n + 1) (fun k => (f k : Rat) * p k) := sm_congr fun k hk => by rw [(hf k (by omega)).2]
        rw [this]; grind
      · obtain ⟨s, rfl⟩ : ∃ s, u = n + 1 + s := ⟨u - (n + 1), by omega⟩
        obtain ⟨D, hD, hS, hr⟩ := W.rows s (by omega)
        obtain ⟨f, hf⟩ := choose_up hr
        refine ⟨D, f, hD, hS, fun k hk => (hf k hk).1, fun p => ?_⟩
        rw [ext_slack p (by omega)]
        have : sm (n + 1) (fun k => (f k : Rat) * p k) = (D : Rat) * sm (n + 1) (fun k => A s k * p k) := by
          rw [← sm_mul]
          refine sm_congr fun k hk => ?_
          rw [← (hf k (by omega)).2]; grind
        rw [this]; grind
/-- every share is a name -/
theorem GoodL.has (g : GoodL n many A rew d) {k : Nat} (hk : k ≤ n) : (∃ i, i ≤ many + 1 ∧ d.B i = k) ∨ (∃ j, j ≤ n ∧ d.N j = k) := by
  refine Classical.byContradiction fun hno => ?_
  have nB : ∀ i, i ≤ many + 1 → d.B i ≠ k := fun i hi z => hno (.inl ⟨i, hi, z⟩)
  have nN : ∀ j, j ≤ n → d.N j ≠ k := fun j hj z => hno (.inr ⟨j, hj, z⟩)
  have S : Sol (many + 1) n d (fun u => if u = k then 1 else 0) := by
    intro i hi
    show (if d.B i = k then (1 : Rat) else 0) = _
    rw [if_neg (nB i hi), sm_zero_of]
    intro j hj
    show _ * (if d.N j = k then (1 : Rat) else 0) = 0
    rw [if_neg (nN j (by omega))]; grind
  have h := ((dic0_sol _).mp ((g.sol _).mp S)).1
  have e : sm (n + 1) (fun u => if u = k then (1 : Rat) else 0) = 1 := by
    rw [sm_one (c := k) (by omega), if_pos rfl]
    intro j _ hne
    rw [if_neg hne]
  rw [e, if_neg (by omega)] at h
  exact absurd h (by decide)
/-- a column is told by a small whole share vector -/
theorem GoodL.column (g : GoodL n many A rew d) (W : Whole n many A rew S M) {j : Nat} (hj : j ≤ n) :
    ∃ z : Nat → Int, (∀ k, k ≤ n → (z k).natAbs ≤ (2 * ((n + 1) * M)) ^ n) ∧ ext n many A rew (fun k => (z k : Rat)) (d.N j) ≠ 0 ∧
      (∀ i, i ≤ many + 1 → ext n many A rew (fun k => (z k : Rat)) (d.B i) = d.t i j * ext n many A rew (fun k => (z k : Rat)) (d.N j)) ∧
      ∀ k, k ≤ n → (z k : Rat) = colv (many + 1) n d j k * ext n many A rew (fun k => (z k : Rat)) (d.N j) := by
  have low : ∀ k, k ≤ n → d.N k ≤ n + many + 2 := fun k hk => by
    by_cases e : k = 0
    · subst e; rw [g.C]; omega
    · have := g.N k (by omega) hk; omega
  -- the n other columns' forms
  have forms : ∃ (D : Nat → Int) (f : Nat → Nat → Int), ∀ i, i ≤ n → 0 < D i ∧ (∀ k, k ≤ n → (f i k).natAbs ≤ M) ∧ ∀ p : Nat → Rat, ext n many A rew p (d.N i) * (D i : Rat) = sm (n + 1) (fun k => (f i k : Rat) * p k) := by
    have h : ∀ i, ∃ (D : Int) (f : Nat → Int), i ≤ n → 0 < D ∧ (∀ k, k ≤ n → (f k).natAbs ≤ M) ∧ ∀ p : Nat → Rat, ext n many A rew p (d.N i) * (D : Rat) = sm (n + 1) (fun k => (f k : Rat) * p k) := by
      intro i
      by_cases hi : i ≤ n
      · obtain ⟨D, f, h1, _, h3, h4⟩ := W.form (low i hi)
        exact ⟨D, f, fun _ => ⟨h1, h3, h4⟩⟩
      · exact ⟨0, fun _ => 0, fun z => absurd z hi⟩
    exact ⟨fun i => (h i).choose, fun i => (h i).choose_spec.choose, fun i hi => (h i).choose_spec.choose_spec hi⟩
  obtain ⟨D, f, hf⟩ := forms
  obtain ⟨z, ⟨k0, hk0, hz0⟩, hz, hs⟩ := siegel n M W.one (fun i k => f (if i < j then i else i + 1) k) (fun i hi k hk => by
    show (f (if i < j then i else i + 1) k).natAbs ≤ M
    exact (hf _ (by split <;> omega)).2.1 k hk)
  have zero : ∀ j', j' ≤ n → j' ≠ j → ext n many A rew (fun k => (z k : Rat)) (d.N j') = 0 := by
    intro j' hj' hne
    have h := hs (if j' < j then j' else j' - 1) (by split <;> omega)
    have ix : (if (if j' < j then j' else j' - 1) < j then (if j' < j then j' else j' - 1) else (if j' < j then j' else j' - 1) + 1) = j' := by
      by_cases q : j' < j
      · rw [if_pos q, if_pos q]
      · rw [if_neg q, if_neg (by omega)]; omega
    have h : smi (n + 1) (fun k => f (if (if j' < j then j' else j' - 1) < j then (if j' < j then j' else j' - 1) else (if j' < j then j' else j' - 1) + 1) k * z k) = 0 := h
    rw [ix] at h
    have h2 := congrArg (fun i : Int => (i : Rat)) h
    simp only [smi_cast] at h2
    have e : sm (n + 1) (fun i => ((f j' i * z i : Int) : Rat)) = sm (n + 1) (fun k => (f j' k : Rat) * (z k : Rat)) := sm_congr fun k _ => Rat.intCast_mul _ _
    rw [e, ← (hf j' hj').2.2] at h2
    have hD := (hf j' hj').1
    have hD' : ((D j' : Int) : Rat) ≠ 0 := fun q => by
      have := Rat.intCast_eq_zero_iff.mp q
      omega
    have h2 : ext n many A rew (fun k => (z k : Rat)) (d.N j') * ((D j' : Int) : Rat) = 0 := h2
    grind
  have Sx := (g.sol _).mpr (sol_ext (n := n) (many := many) (A := A) (rew := rew) (fun k => (z k : Rat)))
  have rows : ∀ i, i ≤ many + 1 → ext n many A rew (fun k => (z k : Rat)) (d.B i) = d.t i j * ext n many A rew (fun k => (z k : Rat)) (d.N j) := by
    intro i hi
    rw [Sx i hi, sm_one (c := j) (by omega)]
    intro j' hj' hne
    rw [zero j' (by omega) hne]; grind
  have col : ∀ k, k ≤ n → (z k : Rat) = colv (many + 1) n d j k * ext n many A rew (fun k => (z k : Rat)) (d.N j) := by
    intro k hk
    have ek := ext_share (n := n) (many := many) (A := A) (rew := rew) (fun k => (z k : Rat)) hk
    rcases g.has hk with ⟨i, hi, e⟩ | ⟨j', hj', e⟩
    · have := rows i hi
      rw [e, ek] at this
      rw [← e, colv_B g.dis hi, e]
      exact this
    · rw [← e, colv_N g.dis hj hj', e]
      by_cases q : j' = j
      · subst q
        rw [if_pos rfl, e, ek]; grind
      · rw [if_neg q]
        have := zero j' hj' q
        rw [e, ek] at this
        rw [this]; grind
  refine ⟨z, hz, fun q => ?_, rows, col⟩
  have := col k0 hk0
  rw [q] at this
  have : ((z k0 : Int) : Rat) = 0 := by rw [this]; grind
  exact hz0 (Rat.intCast_eq_zero_iff.mp this)
theorem form_bound {f z : Nat → Int} {M H : Nat} (hf : ∀ k, k ≤ n → (f k).natAbs ≤ M) (hz : ∀ k, k ≤ n → (z k).natAbs ≤ H) : ∃ v : Int, v.natAbs ≤ (n + 1) * (M * H) ∧ sm (n + 1) (fun k => (f k : Rat) * (z k : Rat)) = (v : Rat) := by
  refine ⟨smi (n + 1) (fun k => f k * z k), smi_abs fun k hk => ?_, ?_⟩
  · rw [Int.natAbs_mul]
    exact Nat.mul_le_mul (hf k (by omega)) (hz k (by omega))
  · rw [smi_cast]
    exact (sm_congr fun k _ => Rat.intCast_mul _ _).symm
/-- a dictionary's numbers -/
theorem GoodL.entry (g : GoodL n many A rew d) (W : Whole n many A rew S M) {b : Nat} (hb : S * ((n + 1) * (M * (2 * ((n + 1) * M)) ^ n)) < 2 ^ b) {i j : Nat} (hi : i ≤ many + 1) (hj : j ≤ n) : Sz b (d.t i j) := by
  obtain ⟨z, hz, h0, hr, _⟩ := g.column W hj
  have lowN : d.N j ≤ n + many + 2 := by
    by_cases e : j = 0
    · subst e; rw [g.C]; omega
    · have := g.N j (by omega) hj; omega
  have lowB : d.B i ≤ n + many + 2 := by
    by_cases e : i = many + 1
    · subst e; rw [g.F]; omega
    · have := g.B i (by omega); omega
  obtain ⟨DN, fN, n1, n2, n3, n4⟩ := W.form lowN
  obtain ⟨DB, fB, b1, b2, b3, b4⟩ := W.form lowB
  obtain ⟨vN, vn1, vn2⟩ := form_bound n3 hz
  obtain ⟨vB, vb1, vb2⟩ := form_bound b3 hz
  have eN := (n4 fun k => (z k : Rat)).trans vn2
  have eB := (b4 fun k => (z k : Rat)).trans vb2
  have er := hr i hi
  have hDN : ((DN : Int) : Rat) ≠ 0 := fun q => by have := Rat.intCast_eq_zero_iff.mp q; omega
  have hDB : ((DB : Int) : Rat) ≠ 0 := fun q => by have := Rat.intCast_eq_zero_iff.mp q; omega
  have hvN : vN ≠ 0 := fun q => by
    rw [q, Rat.intCast_zero] at eN
    exact h0 (by grind)
  have bd : ∀ {D v : Int}, D.natAbs ≤ S → v.natAbs ≤ (n + 1) * (M * (2 * ((n + 1) * M)) ^ n) → (D * v).natAbs < 2 ^ b := fun {D v} h1 h2 => by
    rw [Int.natAbs_mul]
    exact Nat.lt_of_le_of_lt (Nat.mul_le_mul h1 h2) hb
  refine Sz.of_div (N := DN * vB) (D := DB * vN) ?_ (Int.mul_ne_zero (by omega) hvN) (bd b2 vn1) (bd n2 vb1)
  rw [Rat.intCast_mul, Rat.intCast_mul, ← eN, ← eB, er]
  grind
/-- the shares have one denominator -/
theorem GoodL.shares (g : GoodL n many A rew d) (W : Whole n many A rew S M) : ∃ (E : Int) (z : Nat → Int), 0 < E ∧ E.natAbs ≤ (n + 1) * (2 * ((n + 1) * M)) ^ n ∧ ∀ k, k ≤ n → (z k).natAbs ≤ (2 * ((n + 1) * M)) ^ n ∧ shr (many + 1) d k * (E : Rat) = (z k : Rat) := by
  obtain ⟨z, hz, h0, _, hc⟩ := g.column W (j := 0) (by omega)
  have eC : ext n many A rew (fun k => (z k : Rat)) (d.N 0) = ((smi (n + 1) z : Int) : Rat) := by
    rw [g.C, ext_C, smi_cast]
  rw [eC] at h0 hc
  have hE : (smi (n + 1) z).natAbs ≤ (n + 1) * (2 * ((n + 1) * M)) ^ n := smi_abs fun k hk => hz k (by omega)
  have nz : smi (n + 1) z ≠ 0 := fun q => h0 (by rw [q, Rat.intCast_zero])
  by_cases p : 0 < smi (n + 1) z
  · refine ⟨smi (n + 1) z, z, p, hE, fun k hk => ⟨hz k hk, ?_⟩⟩
    rw [shr_col g hk, hc k hk]
  · refine ⟨-smi (n + 1) z, fun k => -z k, by omega, by omega, fun k hk => ⟨?_, ?_⟩⟩
    · have := hz k hk
      show (-z k).natAbs ≤ _
      omega
    · rw [shr_col g hk, Rat.intCast_neg, Rat.intCast_neg, hc k hk]; grind
end
end KM
set_option linter.all false
namespace KM
/-! ### one end only -/
theorem Rule.uniq {m n : Nat} {d : Dic} {r c r' c' : Nat} (D : Dis m n d) (h : Rule m n d r c) (h' : Rule m n d r' c') : r = r' ∧ c = c' := by
  obtain ⟨⟨a1, a2, a3⟩, h⟩ := h
  obtain ⟨⟨b1, b2, b3⟩, h'⟩ := h'
  rcases h with ⟨p1, p2, p3, p4, p5⟩ | ⟨p1, p2, p3, p4, p5⟩ <;> rcases h' with ⟨q1, q2, q3, q4, q5⟩ | ⟨q1, q2, q3, q4, q5⟩
  · have e : r = r' := D.bb _ _ (by omega) (by omega) (Nat.le_antisymm (p2 _ b1 q1) (q2 _ a1 p1))
    subst e
    exact ⟨rfl, D.nn _ _ a3 b3 (Nat.le_antisymm (p5 _ b2 b3 q4) (q5 _ a2 a3 p4))⟩
  · exact absurd (Nat.le_antisymm (p3 _ b2 b3 q1) (q2 _ a1 p1)) (D.bn _ _ (by omega) b3)
  · exact absurd (Nat.le_antisymm (q3 _ a2 a3 p1) (p2 _ b1 q1)) (D.bn _ _ (by omega) a3)
  · have e : c = c' := D.nn _ _ a3 b3 (Nat.le_antisymm (p3 _ b2 b3 q1) (q3 _ a2 a3 p1))
    subst e
    exact ⟨D.bb _ _ (by omega) (by omega) (Nat.le_antisymm (p5 _ b1 q4) (q5 _ a1 p4)), rfl⟩
theorem Rule.undone {m n : Nat} {d : Dic} {r c : Nat} (h : Rule m n d r c) (D : Done m n d) : False := by
  obtain ⟨⟨a1, a2, a3⟩, h⟩ := h
  rcases h with ⟨p1, _⟩ | ⟨p1, _⟩
  · have := D.rows r a1; grind
  · have := D.rew c a2 a3; grind
theorem reach_uniq {m n k k' : Nat} {d0 d d' : Dic} (h : Reach m n d0 k d) (h' : Reach m n d0 k' d') (e : Done m n d) (e' : Done m n d') : d = d' := by
  obtain ⟨D, r, c, R, s0, rfl⟩ := h
  obtain ⟨D', r', c', R', s0', rfl⟩ := h'
  have same : ∀ s, s ≤ k → s ≤ k' → D s = D' s := by
    intro s
    induction s with
    | zero => intro _ _; rw [s0, s0']
    | succ s ih =>
      intro h1 h2
      have i := ih (by omega) (by omega)
      have u1 := R.rule s (by omega)
      have u2 := R'.rule s (by omega)
      rw [← i] at u2
      obtain ⟨e1, e2⟩ := Rule.uniq (R.disAt s (by omega)) u1 u2
      rw [R.next s (by omega), R'.next s (by omega), ← i, e1, e2]
  rcases Nat.lt_trichotomy k k' with l | l | l
  · have u := R'.rule k l
    rw [← same k (Nat.le_refl _) (by omega)] at u
    exact (u.undone e).elim
  · subst l
    exact same k (Nat.le_refl _) (Nat.le_refl _)
  · have u := R.rule k' l
    rw [same k' (by omega) (Nat.le_refl _)] at u
    exact (u.undone e').elim
/-- the last dictionary -/
structure Last (n many : Nat) (A : Nat → Nat → Rat) (rew : Nat → Rat) (d : Dic) : Prop where
  g : GoodL n many A rew d
  dn : Done (many + 1) n d
  r : ∃ k, Reach (many + 1) n (dic0 n many A rew) k d
theorem Last.uniq {n many : Nat} {A : Nat → Nat → Rat} {rew : Nat → Rat} {d d' : Dic} (h : Last n many A rew d) (h' : Last n many A rew d') : d = d' := by
  obtain ⟨k, r⟩ := h.r
  obtain ⟨k', r'⟩ := h'.r
  exact reach_uniq r r' h.dn h'.dn

/-! ### numbers with one denominator -/
def Com (b n : Nat) (f : Nat → Rat) : Prop := ∃ (N : Int) (Z : Nat → Int), 0 < N ∧ N.natAbs < 2 ^ b ∧ ∀ k, k ≤ n → (Z k).natAbs < 2 ^ b ∧ f k * (N : Rat) = (Z k : Rat)
theorem ne0 {N : Int} (h : 0 < N) : (N : Rat) ≠ 0 := fun q => by have := Rat.intCast_eq_zero_iff.mp q; omega
theorem Com.at {b n k : Nat} {f : Nat → Rat} (h : Com b n f) (hk : k ≤ n) : Sz b (f k) := by
  obtain ⟨N, Z, h1, h2, h3⟩ := h
  exact ⟨Z k, N, h1, h2, (h3 k hk).1, (h3 k hk).2⟩
theorem Com.mono {b c n : Nat} {f : Nat → Rat} (h : Com b n f) (hc : b ≤ c) : Com c n f := by
  obtain ⟨N, Z, h1, h2, h3⟩ := h
  have p : 2 ^ b ≤ 2 ^ c := Nat.pow_le_pow_right (by decide) hc
  exact ⟨N, Z, h1, Nat.lt_of_lt_of_le h2 p, fun k hk => ⟨Nat.lt_of_lt_of_le (h3 k hk).1 p, (h3 k hk).2⟩⟩
theorem smi_lt {n b : Nat} {f : Nat → Int} (h : ∀ k, k < n → (f k).natAbs < 2 ^ b) : (smi n f).natAbs ≤ n * 2 ^ b := by
  induction n with
  | zero => simp [smi]
  | succ n ih =>
    have h1 := ih fun k hk => h k (by omega)
    have h2 := h n (by omega)
    have h3 : (smi n f + f n).natAbs ≤ (smi n f).natAbs + (f n).natAbs := Int.natAbs_add_le _ _
    rw [smi_succ, Nat.add_mul]
    omega
theorem small_mul {i b : Nat} (h : i ≤ 7) : i * 2 ^ b < 2 ^ (b + 3) := by
  have : 2 ^ (b + 3) = 8 * 2 ^ b := by rw [Nat.pow_add]; omega
  have p : 0 < 2 ^ b := Nat.pow_pos (by decide)
  rw [this]
  exact Nat.mul_lt_mul_of_pos_right (by omega) p
theorem Com.sum {b n i : Nat} {f : Nat → Rat} (h : Com b n f) (hi : i ≤ n + 1) (hn : n ≤ 6) : Sz (b + 3) (sm i f) := by
  obtain ⟨N, Z, h1, h2, h3⟩ := h
  have p : 2 ^ b ≤ 2 ^ (b + 3) := Nat.pow_le_pow_right (by decide) (by omega)
  refine ⟨smi i Z, N, h1, Nat.lt_of_lt_of_le h2 p, Nat.lt_of_le_of_lt (smi_lt fun k hk => (h3 k (by omega)).1) (small_mul (by omega)), ?_⟩
  rw [smi_cast, Rat.mul_comm, ← sm_mul]
  refine sm_congr fun k hk => ?_
  rw [← (h3 k (by omega)).2]; grind
/-- .. times the powers of a small one -/
theorem pow_lt2 {a c i : Nat} (h : a < 2 ^ c) (h0 : 0 < c) : a ^ i ≤ 2 ^ (c * i) := by
  rw [Nat.pow_mul]
  exact Nat.pow_le_pow_left (Nat.le_of_lt h) i
theorem mul_pow' (a b : Rat) (k : Nat) : (a * b) ^ k = a ^ k * b ^ k := by
  induction k with
  | zero => grind
  | succ k ih => rw [Rat.pow_succ, Rat.pow_succ, Rat.pow_succ, ih]; grind
theorem Com.pow {b c n : Nat} {f : Nat → Rat} {y : Rat} (h : Com b n f) (hy : Sz c y) (hc : 0 < c) : Com (b + c * n) n (fun k => f k * y ^ k) := by
  obtain ⟨N, Z, h1, h2, h3⟩ := h
  obtain ⟨P, D, dp, hd, hp, ey⟩ := hy
  have d0 := ne0 dp
  refine ⟨N * D ^ n, fun k => Z k * P ^ k * D ^ (n - k), Int.mul_pos h1 (Int.pow_pos dp), ?_, fun k hk => ⟨?_, ?_⟩⟩
  · rw [Int.natAbs_mul, Int.natAbs_pow, Nat.pow_add]
    exact Nat.lt_of_lt_of_le (Nat.mul_lt_mul_of_pos_right h2 (Nat.pow_pos (by omega))) (Nat.mul_le_mul_left _ (pow_lt2 hd hc))
  · rw [Int.natAbs_mul, Int.natAbs_mul, Int.natAbs_pow, Int.natAbs_pow]
    have e : 2 ^ (b + c * n) = 2 ^ b * 2 ^ (c * k) * 2 ^ (c * (n - k)) := by
      rw [← Nat.pow_add, ← Nat.pow_add]
      congr 1
      have : c * n = c * k + c * (n - k) := by rw [← Nat.mul_add]; congr 1; omega
      omega
    rw [e]
    have a1 := (h3 k hk).1
    have a2 := pow_lt2 (i := k) hp hc
    have a3 := pow_lt2 (i := n - k) hd hc
    refine Nat.lt_of_le_of_lt (Nat.mul_le_mul_right _ (Nat.mul_le_mul_left _ a2)) ?_
    refine Nat.lt_of_lt_of_le ?_ (Nat.mul_le_mul_left _ a3)
    refine Nat.mul_lt_mul_of_pos_right ?_ (Nat.pow_pos (by omega))
    exact Nat.mul_lt_mul_of_pos_right a1 (Nat.pow_pos (by decide))
  · show f k * y ^ k * ((N * D ^ n : Int) : Rat) = ((Z k * P ^ k * D ^ (n - k) : Int) : Rat)
    rw [Rat.intCast_mul, Rat.intCast_mul, Rat.intCast_mul, Rat.intCast_pow, Rat.intCast_pow, Rat.intCast_pow, ← (h3 k hk).2, ← ey]
    have : ((D : Int) : Rat) ^ n = ((D : Int) : Rat) ^ k * ((D : Int) : Rat) ^ (n - k) := by
      have e := show n = k + (n - k) by omega
      generalize n - k = j at e ⊢
      subst e
      grind
    rw [this, mul_pow']
    grind
/-- each over the sum -/
theorem Com.norm {b n : Nat} {f : Nat → Rat} (h : Com b n f) (hn : n ≤ 6) (h0 : 0 < sm (n + 1) f) : Com (b + 3) n (fun k => f k / sm (n + 1) f) := by
  obtain ⟨N, Z, h1, h2, h3⟩ := h
  have p : 2 ^ b ≤ 2 ^ (b + 3) := Nat.pow_le_pow_right (by decide) (by omega)
  have es : sm (n + 1) f * (N : Rat) = ((smi (n + 1) Z : Int) : Rat) := by
    rw [smi_cast, Rat.mul_comm, ← sm_mul]
    refine sm_congr fun k hk => ?_
    rw [← (h3 k (by omega)).2]; grind
  have Np : (0 : Rat) < (N : Rat) := Rat.intCast_pos.mpr h1
  have sp : 0 < smi (n + 1) Z := by
    rw [← Rat.intCast_pos, ← es]
    exact Rat.mul_pos h0 Np
  refine ⟨smi (n + 1) Z, Z, sp, Nat.lt_of_le_of_lt (smi_lt fun k hk => (h3 k (by omega)).1) (small_mul (by omega)), fun k hk => ⟨Nat.lt_of_lt_of_le (h3 k hk).1 p, ?_⟩⟩
  show f k / sm (n + 1) f * _ = _
  rw [← es, ← (h3 k hk).2]
  grind
end KM
set_option linter.all false
namespace KM
/-! ### looks and shares, as numbers -/
structure Lk where
  x : Rat
  lo : Rat
  hi : Rat
/-- the inequalities of looks L at the strength x -/
def Am (L : Nat → Lk) (x : Rat) (i k : Nat) : Rat := if i % 2 = 0 then ((k : Nat) - (L (i / 2)).lo) * ((L (i / 2)).x / x) ^ k else ((L (i / 2)).hi - (k : Nat)) * ((L (i / 2)).x / x) ^ k
def ld (q : Nat → Rat) (x : Rat) (k : Nat) : Rat := q k * x ^ k
def tot (n : Nat) (q : Nat → Rat) (x : Rat) : Rat := sm (n + 1) (ld q x)
/-- the mean fill at the strength x -/
def seen (n : Nat) (q : Nat → Rat) (x : Rat) : Rat := sm (n + 1) (fun k => ld q x k * (k : Nat)) / tot n q x
/-- chances -/
structure Chan (n : Nat) (q : Nat → Rat) : Prop where
  nn : ∀ k, k ≤ n → 0 ≤ q k
  one : sm (n + 1) q = 1
/-- shares at x from chances, and back -/
def fwd (n : Nat) (q : Nat → Rat) (x : Rat) (k : Nat) : Rat := ld q x k / tot n q x
def bck (n : Nat) (p : Nat → Rat) (x : Rat) (k : Nat) : Rat := p k / x ^ k / sm (n + 1) (fun j => p j / x ^ j)
theorem pow_pos' {x : Rat} (h : 0 < x) (k : Nat) : 0 < x ^ k := Rat.pow_pos h
theorem one_pos {n : Nat} {q : Nat → Rat} (h : Chan n q) {w : Nat → Rat} (hw : ∀ k, k ≤ n → 0 < w k) : 0 < sm (n + 1) (fun k => q k * w k) := by
  refine Classical.byContradiction fun z => ?_
  have a := sm_all_zero (n := n + 1) (f := fun k => q k * w k) (fun k hk => Rat.mul_nonneg (h.nn k (by omega)) (by have := hw k (by omega); grind)) (by grind)
  have b : sm (n + 1) q = 0 := sm_zero_of fun k hk => by
    have h1 := a k hk
    have h2 := hw k (by omega)
    grind
  rw [h.one] at b
  exact absurd b (by decide)
theorem tot_pos {n : Nat} {q : Nat → Rat} {x : Rat} (h : Chan n q) (hx : 0 < x) : 0 < tot n q x := one_pos h fun k _ => pow_pos' hx k
theorem div_sum {n : Nat} {f : Nat → Rat} {c : Rat} : sm n (fun k => f k / c) = sm n f / c := by
  have : sm n (fun k => f k / c) = sm n (fun k => (1 / c) * f k) := sm_congr fun k _ => by grind
  rw [this, sm_mul]; grind
theorem div_nn {a b : Rat} (h : 0 ≤ a) (hb : 0 < b) : 0 ≤ a / b := by
  rw [Rat.div_def]
  exact Rat.mul_nonneg h (by have := Rat.inv_pos.mpr hb; grind)
theorem le_div {a t lo : Rat} (ht : 0 < t) : lo ≤ a / t ↔ 0 ≤ a + -lo * t := by
  constructor
  · intro h
    have := Rat.mul_nonneg (show 0 ≤ a / t - lo by grind) (show 0 ≤ t by grind)
    have e : (a / t - lo) * t = a + -lo * t := by grind
    rw [← e]; exact this
  · intro h
    have := div_nn h ht
    have e : (a + -lo * t) / t = a / t - lo := by grind
    rw [e] at this
    grind
theorem div_le {a t hi : Rat} (ht : 0 < t) : a / t ≤ hi ↔ 0 ≤ hi * t + -1 * a := by
  constructor
  · intro h
    have := Rat.mul_nonneg (show 0 ≤ hi - a / t by grind) (show 0 ≤ t by grind)
    have e : (hi - a / t) * t = hi * t + -1 * a := by grind
    rw [← e]; exact this
  · intro h
    have := div_nn h ht
    have e : (hi * t + -1 * a) / t = hi - a / t := by grind
    rw [e] at this
    grind
theorem fwd_chan {n : Nat} {q : Nat → Rat} {x : Rat} (h : Chan n q) (hx : 0 < x) : Chan n (fwd n q x) := by
  have t := tot_pos h hx
  refine ⟨fun k hk => div_nn (Rat.mul_nonneg (h.nn k hk) (by have := pow_pos' hx k; grind)) t, ?_⟩
  show sm (n + 1) (fun k => ld q x k / tot n q x) = 1
  rw [div_sum]
  show tot n q x / tot n q x = 1
  grind
theorem bck_pos {n : Nat} {p : Nat → Rat} {x : Rat} (h : Chan n p) (hx : 0 < x) : 0 < sm (n + 1) (fun j => p j / x ^ j) := by
  have : sm (n + 1) (fun j => p j / x ^ j) = sm (n + 1) (fun j => p j * (1 / x ^ j)) := sm_congr fun k _ => by grind
  rw [this]
  refine one_pos h fun k _ => ?_
  have := pow_pos' hx k
  rw [Rat.div_def]
  exact Rat.mul_pos (by decide) (Rat.inv_pos.mpr this)
theorem bck_chan {n : Nat} {p : Nat → Rat} {x : Rat} (h : Chan n p) (hx : 0 < x) : Chan n (bck n p x) := by
  have t := bck_pos h hx
  refine ⟨fun k hk => div_nn (div_nn (h.nn k hk) (pow_pos' hx k)) t, ?_⟩
  show sm (n + 1) (fun k => p k / x ^ k / _) = 1
  rw [div_sum (f := fun k => p k / x ^ k)]
  grind
/-- the loads of what came back are the shares, but for a factor -/
theorem ld_bck {n : Nat} {p : Nat → Rat} {x : Rat} (h : Chan n p) (hx : 0 < x) (y : Rat) (k : Nat) : ld (bck n p x) y k = p k * (y / x) ^ k * (1 / sm (n + 1) (fun j => p j / x ^ j)) := by
  have t := bck_pos h hx
  have e : (y / x) ^ k = y ^ k / x ^ k := by
    have := pow_pos' hx k
    have h2 := mul_pow' (y / x) x k
    rw [show y / x * x = y by grind] at h2
    rw [h2]; grind
  show p k / x ^ k / _ * y ^ k = _
  rw [e]
  generalize sm (n + 1) (fun j => p j / x ^ j) = c at t
  grind
theorem fwd_bck {n : Nat} {p : Nat → Rat} {x : Rat} (h : Chan n p) (hx : 0 < x) (k : Nat) : fwd n (bck n p x) x k = p k := by
  have t := bck_pos h hx
  have e : ∀ k, ld (bck n p x) x k = p k * (1 / sm (n + 1) (fun j => p j / x ^ j)) := fun k => by
    rw [ld_bck h hx, show x / x = 1 by grind]
    have : (1 : Rat) ^ k = 1 := by
      induction k with
      | zero => rfl
      | succ k ih => rw [Rat.pow_succ, ih]; grind
    rw [this]; grind
  show ld _ _ _ / tot _ _ _ = _
  have et : tot n (bck n p x) x = 1 / sm (n + 1) (fun j => p j / x ^ j) := by
    show sm (n + 1) (ld (bck n p x) x) = _
    rw [sm_congr (g := fun k => (1 / sm (n + 1) (fun j => p j / x ^ j)) * p k) fun k _ => by rw [e k]; grind, sm_mul, h.one]
    grind
  rw [e, et]
  generalize sm (n + 1) (fun j => p j / x ^ j) = c at t
  have : c ≠ 0 := by grind
  grind
/-- a mean is at least, at most -/
theorem seen_ge {n : Nat} {q : Nat → Rat} {y lo : Rat} (h : Chan n q) (hy : 0 < y) : lo ≤ seen n q y ↔ 0 ≤ sm (n + 1) (fun k => ((k : Nat) - lo) * ld q y k) := by
  have t := tot_pos h hy
  have e : sm (n + 1) (fun k => ((k : Nat) - lo) * ld q y k) = sm (n + 1) (fun k => ld q y k * (k : Nat)) + -lo * tot n q y := by
    show _ = _ + -lo * sm (n + 1) (ld q y)
    rw [← sm_mul, ← sm_add]
    exact sm_congr fun k _ => by grind
  rw [e]
  show lo ≤ _ / _ ↔ _
  exact le_div t
theorem seen_le {n : Nat} {q : Nat → Rat} {y hi : Rat} (h : Chan n q) (hy : 0 < y) : seen n q y ≤ hi ↔ 0 ≤ sm (n + 1) (fun k => (hi - (k : Nat)) * ld q y k) := by
  have t := tot_pos h hy
  have e : sm (n + 1) (fun k => (hi - (k : Nat)) * ld q y k) = hi * tot n q y + -1 * sm (n + 1) (fun k => ld q y k * (k : Nat)) := by
    show _ = hi * sm (n + 1) (ld q y) + _
    rw [← sm_mul, ← sm_mul, ← sm_add]
    exact sm_congr fun k _ => by grind
  rw [e]
  show _ / _ ≤ hi ↔ _
  exact div_le t
/-- chances that keep the looks are a solution, and the other way -/
def Keeps (n l : Nat) (L : Nat → Lk) (q : Nat → Rat) : Prop := ∀ i, i < l → (L i).lo ≤ seen n q (L i).x ∧ seen n q (L i).x ≤ (L i).hi
theorem quo_pow {x y : Rat} (hx : 0 < x) (k : Nat) : x ^ k * (y / x) ^ k = y ^ k := by
  rw [← mul_pow']
  congr 1
  grind
theorem keeps_fits {n l : Nat} {L : Nat → Lk} {q : Nat → Rat} {x : Rat} (h : Chan n q) (hx : 0 < x) (hL : ∀ i, i < l → 0 < (L i).x) (k : Keeps n l L q) : Fits n (2 * l) (Am L x) (fwd n q x) := by
  have t := tot_pos h hx
  have c := fwd_chan h hx
  refine ⟨c.nn, c.one, fun s hs => ?_⟩
  have hl := hL (s / 2) (by omega)
  have key : ∀ g : Nat → Rat, sm (n + 1) (fun k => g k * ((L (s / 2)).x / x) ^ k * fwd n q x k) = sm (n + 1) (fun k => g k * ld q (L (s / 2)).x k) / tot n q x := fun g => by
    rw [← div_sum]
    refine sm_congr fun k _ => ?_
    show g k * _ * (q k * x ^ k / tot n q x) = g k * (q k * (L (s / 2)).x ^ k) / tot n q x
    rw [← quo_pow (y := (L (s / 2)).x) hx k]
    grind
  obtain ⟨k1, k2⟩ := k (s / 2) (by omega)
  by_cases e : s % 2 = 0
  · have : sm (n + 1) (fun k => Am L x s k * fwd n q x k) = sm (n + 1) (fun k => ((k : Nat) - (L (s / 2)).lo) * ((L (s / 2)).x / x) ^ k * fwd n q x k) := sm_congr fun k _ => by unfold Am; rw [if_pos e]
    rw [this, key fun k => ((k : Nat) - (L (s / 2)).lo)]
    exact div_nn ((seen_ge h hl).mp k1) t
  · have : sm (n + 1) (fun k => Am L x s k * fwd n q x k) = sm (n + 1) (fun k => ((L (s / 2)).hi - (k : Nat)) * ((L (s / 2)).x / x) ^ k * fwd n q x k) := sm_congr fun k _ => by unfold Am; rw [if_neg e]
    rw [this, key fun k => ((L (s / 2)).hi - (k : Nat))]
    exact div_nn ((seen_le h hl).mp k2) t
theorem fits_keeps {n l : Nat} {L : Nat → Lk} {p : Nat → Rat} {x : Rat} (hx : 0 < x) (hL : ∀ i, i < l → 0 < (L i).x) (F : Fits n (2 * l) (Am L x) p) : Keeps n l L (bck n p x) := by
  have h : Chan n p := ⟨F.nn, F.one⟩
  have t := bck_pos h hx
  have c := bck_chan h hx
  intro i hi
  have hl := hL i hi
  have key : ∀ g : Nat → Rat, sm (n + 1) (fun k => g k * ld (bck n p x) (L i).x k) = (1 / sm (n + 1) (fun j => p j / x ^ j)) * sm (n + 1) (fun k => g k * ((L i).x / x) ^ k * p k) := fun g => by
    rw [← sm_mul]
    exact sm_congr fun k _ => by rw [ld_bck h hx]; grind
  have pos : 0 ≤ 1 / sm (n + 1) (fun j => p j / x ^ j) := div_nn (by decide) t
  refine ⟨(seen_ge c hl).mpr ?_, (seen_le c hl).mpr ?_⟩
  · rw [key fun k => ((k : Nat) - (L i).lo)]
    refine Rat.mul_nonneg pos ?_
    have := F.kept (2 * i) (by omega)
    have e : sm (n + 1) (fun k => Am L x (2 * i) k * p k) = sm (n + 1) (fun k => ((k : Nat) - (L i).lo) * ((L i).x / x) ^ k * p k) := sm_congr fun k _ => by
      unfold Am
      rw [if_pos (by omega), show 2 * i / 2 = i by omega]
    rw [← e]; exact this
  · rw [key fun k => ((L i).hi - (k : Nat))]
    refine Rat.mul_nonneg pos ?_
    have := F.kept (2 * i + 1) (by omega)
    have e : sm (n + 1) (fun k => Am L x (2 * i + 1) k * p k) = sm (n + 1) (fun k => ((L i).hi - (k : Nat)) * ((L i).x / x) ^ k * p k) := sm_congr fun k _ => by
      unfold Am
      rw [if_neg (by omega), show (2 * i + 1) / 2 = i by omega]
    rw [← e]; exact this
/-- the mean at the strength of the shares -/
theorem seen_fwd {n : Nat} {q : Nat → Rat} {x : Rat} : seen n q x = sm (n + 1) (fun k => (k : Nat) * fwd n q x k) := by
  show sm (n + 1) (fun k => ld q x k * (k : Nat)) / tot n q x = _
  rw [← div_sum]
  exact sm_congr fun k _ => by show _ = (k : Rat) * (ld q x k / tot n q x); grind
theorem seen_bck {n : Nat} {p : Nat → Rat} {x : Rat} (h : Chan n p) (hx : 0 < x) : seen n (bck n p x) x = sm (n + 1) (fun k => (k : Nat) * p k) := by
  rw [seen_fwd]
  exact sm_congr fun k _ => by rw [fwd_bck h hx]
end KM
set_option linter.all false
set_option exponentiation.threshold 20000
namespace KM
theorem pow_mul2 {x y a b : Nat} (hx : x < 2 ^ a) (hy : y < 2 ^ b) : x * y < 2 ^ (a + b) := by
  rw [Nat.pow_add]
  exact Nat.mul_lt_mul'' hx hy
theorem Sz.mul {a b : Nat} {r s : Rat} (h : Sz a r) (k : Sz b s) : Sz (a + b) (r * s) := by
  obtain ⟨N, D, h1, h2, h3, h4⟩ := h
  obtain ⟨M, E, k1, k2, k3, k4⟩ := k
  refine ⟨N * M, D * E, Int.mul_pos h1 k1, by rw [Int.natAbs_mul]; exact pow_mul2 h2 k2, by rw [Int.natAbs_mul]; exact pow_mul2 h3 k3, ?_⟩
  rw [Rat.intCast_mul, Rat.intCast_mul, ← h4, ← k4]; grind
theorem Sz.inv {a : Nat} {r : Rat} (h : Sz a r) (h0 : r ≠ 0) : Sz a (1 / r) := by
  obtain ⟨N, D, h1, h2, h3, h4⟩ := h
  refine Sz.of_div (N := D) (D := N) ?_ (fun z => ?_) h3 h2
  · rw [← h4]; grind
  · subst z
    have hD := ne0 h1
    rw [Rat.intCast_zero] at h4
    grind
theorem Sz.div {a b : Nat} {r s : Rat} (h : Sz a r) (k : Sz b s) (h0 : s ≠ 0) : Sz (a + b) (r / s) := by
  rw [show r / s = r * (1 / s) by grind]
  exact Sz.mul h (Sz.inv k h0)
theorem Sz.mono {a b : Nat} {r : Rat} (h : Sz a r) (k : a ≤ b) : Sz b r := by
  obtain ⟨N, D, h1, h2, h3, h4⟩ := h
  have p : 2 ^ a ≤ 2 ^ b := Nat.pow_le_pow_right (by decide) k
  exact ⟨N, D, h1, Nat.lt_of_lt_of_le h2 p, Nat.lt_of_lt_of_le h3 p, h4⟩
theorem Sz.neg {a : Nat} {r : Rat} (h : Sz a r) : Sz a (-r) := by
  obtain ⟨N, D, h1, h2, h3, h4⟩ := h
  exact ⟨-N, D, h1, h2, by omega, by rw [Rat.intCast_neg, ← h4]; grind⟩
structure Case (n l : Nat) (L : Nat → Lk) (x : Rat) : Prop where
  n1 : 1 ≤ n
  n5 : n ≤ 5
  l1 : 1 ≤ l
  l4 : l ≤ 4
  xp : 0 < x
  xs : Sz 4 x
  lp : ∀ i, i < l → 0 < (L i).x
  ls : ∀ i, i < l → Sz 4 (L i).x
  lo : ∀ i, i < l → Sz 45 (L i).lo
  hi : ∀ i, i < l → Sz 45 (L i).hi
  fit : ∃ q, Chan n q ∧ Keeps n l L q
section
variable {n l : Nat} {L : Nat → Lk} {x : Rat}
theorem Case.fits (C : Case n l L x) : ∃ p, Fits n (2 * l) (Am L x) p := by
  obtain ⟨q, h, k⟩ := C.fit
  exact ⟨_, keeps_fits h C.xp C.lp k⟩
theorem com_part (C : Case n l L x) {i : Nat} (hi : i < l) : Com 41 n (fun k => ((L i).x / x) ^ k) := by
  have c1 : Com 1 n (fun _ => 1) := ⟨1, fun _ => 1, by omega, by decide, fun k _ => ⟨by show (1 : Int).natAbs < 2 ^ 1; decide, by show (1 : Rat) * ((1 : Int) : Rat) = ((1 : Int) : Rat); grind⟩⟩
  have hx := C.xp
  have c2 := Com.pow c1 (Sz.div (C.ls i hi) C.xs (by grind)) (by decide)
  have e : (fun k : Nat => (1 : Rat) * ((L i).x / x) ^ k) = fun k : Nat => ((L i).x / x) ^ k := by funext k; grind
  rw [e] at c2
  exact Com.mono c2 (by have := C.n5; omega)
/-- k less a small number, times the powers -/
theorem row_whole {y lo : Rat} {hf : Nat → Rat} (h : Com 41 n hf) (hl : Sz 45 lo) (hn : n ≤ 5) : ∃ D : Int, 0 < D ∧ D.natAbs < 2 ^ 86 ∧ ∀ k, k ≤ n → ∃ a : Int, a.natAbs < 2 ^ 90 ∧ ((k : Nat) - lo) * hf k * (D : Rat) = (a : Rat) := by
  obtain ⟨N, Z, h1, h2, h3⟩ := h
  obtain ⟨P, E, e1, e2, e3, e4⟩ := hl
  refine ⟨N * E, Int.mul_pos h1 e1, by rw [Int.natAbs_mul]; exact pow_mul2 h2 e2, fun k hk => ⟨Z k * ((k : Nat) * E - P), ?_, ?_⟩⟩
  · rw [Int.natAbs_mul]
    have : (((k : Nat) : Int) * E - P).natAbs < 2 ^ 49 := by
      have a : (((k : Nat) : Int) * E).natAbs = k * E.natAbs := by rw [Int.natAbs_mul, Int.natAbs_natCast]
      have b : k * E.natAbs ≤ 5 * 2 ^ 45 := Nat.mul_le_mul (by omega) (Nat.le_of_lt e2)
      omega
    exact pow_mul2 (h3 k hk).1 this
  · rw [Rat.intCast_mul, Rat.intCast_mul, Rat.intCast_sub, Rat.intCast_mul, ← (h3 k hk).2, ← e4]
    have : (((k : Nat) : Int) : Rat) = ((k : Nat) : Rat) := rfl
    rw [this]
    grind
theorem Case.rows (C : Case n l L x) {s : Nat} (hs : s < 2 * l) : ∃ D : Int, 0 < D ∧ D.natAbs < 2 ^ 86 ∧ ∀ k, k ≤ n → ∃ a : Int, a.natAbs < 2 ^ 90 ∧ Am L x s k * (D : Rat) = (a : Rat) := by
  have hp := com_part C (i := s / 2) (by omega)
  by_cases e : s % 2 = 0
  · obtain ⟨D, d1, d2, d3⟩ := row_whole (y := x) hp (C.lo (s / 2) (by omega)) C.n5
    refine ⟨D, d1, d2, fun k hk => ?_⟩
    obtain ⟨a, a1, a2⟩ := d3 k hk
    refine ⟨a, a1, ?_⟩
    unfold Am
    rw [if_pos e]; exact a2
  · obtain ⟨D, d1, d2, d3⟩ := row_whole (y := x) hp (C.hi (s / 2) (by omega)) C.n5
    refine ⟨D, d1, d2, fun k hk => ?_⟩
    obtain ⟨a, a1, a2⟩ := d3 k hk
    refine ⟨-a, by omega, ?_⟩
    unfold Am
    rw [if_neg e, Rat.intCast_neg, ← a2]; grind
theorem Case.am (C : Case n l L x) {s k : Nat} (hs : s < 2 * l) (hk : k ≤ n) : Sz 90 (Am L x s k) := by
  obtain ⟨D, d1, d2, d3⟩ := C.rows hs
  obtain ⟨a, a1, a2⟩ := d3 k hk
  exact ⟨a, D, d1, Nat.lt_of_lt_of_le d2 (Nat.pow_le_pow_right (by decide) (by decide)), a1, a2⟩
/-- rewards: small whole numbers -/
def Rew (n : Nat) (rew : Nat → Rat) : Prop := ∀ k, k ≤ n → ∃ a : Int, a.natAbs ≤ 5 ∧ rew k = (a : Rat)
theorem Case.whole (C : Case n l L x) {rew : Nat → Rat} (hr : Rew n rew) : Whole n (2 * l) (Am L x) rew (2 ^ 86) (2 ^ 90) where
  rows := fun s hs => by
    obtain ⟨D, d1, d2, d3⟩ := C.rows hs
    refine ⟨D, d1, Nat.le_of_lt d2, fun k hk => ?_⟩
    obtain ⟨a, a1, a2⟩ := d3 k hk
    exact ⟨a, Nat.le_of_lt a1, a2⟩
  rew := fun k hk => by
    obtain ⟨a, a1, a2⟩ := hr k hk
    exact ⟨a, Nat.le_trans a1 (by decide), a2⟩
  one := by decide
  oneS := by decide
theorem big_le (hn : n ≤ 5) : (2 * ((n + 1) * 2 ^ 90)) ^ n ≤ 2 ^ 470 := by
  have a : 2 * ((n + 1) * 2 ^ 90) ≤ 2 ^ 94 := by omega
  refine Nat.le_trans (Nat.pow_le_pow_left a n) ?_
  rw [← Nat.pow_mul]
  exact Nat.pow_le_pow_right (by decide) (by omega)
theorem Case.size (C : Case n l L x) {rew : Nat → Rat} (hr : Rew n rew) {d : Dic} (g : GoodL n (2 * l) (Am L x) rew d) {i j : Nat} (hi : i ≤ 2 * l + 1) (hj : j ≤ n) : Sz 1000 (d.t i j) := by
  refine g.entry (C.whole hr) ?_ hi hj
  have b := big_le C.n5
  have n5 := C.n5
  have h1 : (n + 1) * (2 ^ 90 * (2 * ((n + 1) * 2 ^ 90)) ^ n) ≤ 8 * (2 ^ 90 * 2 ^ 470) := Nat.mul_le_mul (by omega) (Nat.mul_le_mul_left _ b)
  refine Nat.lt_of_le_of_lt (Nat.mul_le_mul_left _ h1) ?_
  rw [← Nat.pow_add, show (8 : Nat) = 2 ^ 3 from rfl, ← Nat.pow_add, ← Nat.pow_add]
  exact Nat.pow_lt_pow_right (by decide) (by decide)
theorem Case.com (C : Case n l L x) {rew : Nat → Rat} (hr : Rew n rew) {d : Dic} (g : GoodL n (2 * l) (Am L x) rew d) : Com 480 n (shr (2 * l + 1) d) := by
  obtain ⟨E, z, h1, h2, h3⟩ := g.shares (C.whole hr)
  have b := big_le C.n5
  have n5 := C.n5
  have p : 2 ^ 470 < 2 ^ 480 := Nat.pow_lt_pow_right (by decide) (by decide)
  refine ⟨E, z, h1, ?_, fun k hk => ⟨Nat.lt_of_le_of_lt (Nat.le_trans (h3 k hk).1 b) p, (h3 k hk).2⟩⟩
  refine Nat.lt_of_le_of_lt (Nat.le_trans h2 (Nat.mul_le_mul (show n + 1 ≤ 8 by omega) b)) ?_
  rw [show (8 : Nat) = 2 ^ 3 from rfl, ← Nat.pow_add]
  exact Nat.pow_lt_pow_right (by decide) (by decide)
theorem Com.found {b : Nat} {p : Nat → Rat} (h : Com b n p) (hx : 0 < x) (xs : Sz 4 x) : Com (b + 4 * n) n (fun k => p k / x ^ k) := by
  have c := Com.pow h (Sz.inv xs (by grind)) (by decide)
  have e : (fun k : Nat => p k * (1 / x) ^ k) = fun k : Nat => p k / x ^ k := by
    funext k
    have h2 := mul_pow' (1 / x) x k
    have o : (1 : Rat) ^ k = 1 := by
      induction k with
      | zero => rfl
      | succ k ih => rw [Rat.pow_succ]; grind
    rw [show 1 / x * x = 1 by grind, o] at h2
    have := pow_pos' hx k
    grind
  rw [e] at c
  exact c
end
end KM
set_option linter.all false
set_option exponentiation.threshold 20000
namespace KM
/-! ### what the law asks, in numbers -/
/-- rewards: the number, with a sign; or one number's own -/
def rwd (sg : Int) (k : Nat) : Rat := ((sg * (k : Int) : Int) : Rat)
def rwn (sg : Int) (c : Nat) (k : Nat) : Rat := if k = c then (sg : Rat) else 0
section
variable {n many : Nat} {A : Nat → Nat → Rat} {rew : Nat → Rat} {d : Dic}
theorem Last.fits (h : Last n many A rew d) : Fits n many A (shr (many + 1) d) := shr_fits h.g h.dn
theorem Last.best (h : Last n many A rew d) {p : Nat → Rat} (f : Fits n many A p) : sm (n + 1) (fun k => rew k * p k) ≤ d.t (many + 1) 0 := done_best h.g h.dn f
theorem Last.value (h : Last n many A rew d) : sm (n + 1) (fun k => rew k * shr (many + 1) d k) = d.t (many + 1) 0 := (shr_sums h.g).2.2
theorem Last.weights (h : Last n many A rew d) {k : Nat} (hk : k ≤ n) : sm many (fun s => wgt (many + 1) n d (n + 1 + s) * A s k) ≤ d.t (many + 1) 0 - rew k := done_weights h.g h.dn hk
end
theorem sm_pair (l : Nat) (f : Nat → Rat) : sm (2 * l) f = sm l (fun i => f (2 * i) + f (2 * i + 1)) := by
  induction l with
  | zero => rfl
  | succ l ih =>
    rw [show 2 * (l + 1) = (2 * l + 1) + 1 by omega, sm_succ, sm_succ, ih, sm_succ]
    grind
theorem rwd_one (k : Nat) : rwd 1 k = (k : Nat) := by
  unfold rwd
  rw [Int.one_mul]
  rfl
theorem rwd_neg (k : Nat) : rwd (-1) k = -((k : Nat) : Rat) := by
  unfold rwd
  rw [show (-1 : Int) * (k : Int) = -(k : Int) by omega, Rat.intCast_neg]
  rfl
theorem rwd_rew {n : Nat} {sg : Int} (hn : n ≤ 5) (h : sg = 1 ∨ sg = -1) : Rew n (rwd sg) := fun k hk => ⟨sg * (k : Int), by
  rcases h with rfl | rfl
  · rw [Int.one_mul, Int.natAbs_natCast]; omega
  · rw [show (-1 : Int) * (k : Int) = -(k : Int) by omega, Int.natAbs_neg, Int.natAbs_natCast]; omega, rfl⟩
theorem rwn_rew {n c : Nat} {sg : Int} (h : sg = 1 ∨ sg = -1) : Rew n (rwn sg c) := fun k hk => by
  unfold rwn
  by_cases e : k = c
  · rw [if_pos e]
    exact ⟨sg, by rcases h with rfl | rfl <;> decide, rfl⟩
  · rw [if_neg e]
    exact ⟨0, by decide, by rw [Rat.intCast_zero]⟩
/-- a total of bounded ones by their number's -/
theorem rwn_sum {n c : Nat} (hc : c ≤ n) (sg : Int) (p : Nat → Rat) : sm (n + 1) (fun k => rwn sg c k * p k) = (sg : Rat) * p c := by
  rw [sm_one (c := c) (by omega)]
  · unfold rwn; rw [if_pos rfl]
  · intro j _ hj
    unfold rwn; rw [if_neg hj]; grind
section
variable {n l : Nat} {L : Nat → Lk} {x : Rat} {d : Dic} {rew : Nat → Rat}
/-- the shares that a last dictionary tells, as chances -/
def Qs (n l : Nat) (d : Dic) (x : Rat) : Nat → Rat := bck n (shr (2 * l + 1) d) x
theorem Last.chan (h : Last n (2 * l) (Am L x) rew d) : Chan n (shr (2 * l + 1) d) := ⟨h.fits.nn, h.fits.one⟩
theorem Last.qchan (h : Last n (2 * l) (Am L x) rew d) (hx : 0 < x) : Chan n (Qs n l d x) := bck_chan h.chan hx
theorem Last.qkeeps (h : Last n (2 * l) (Am L x) rew d) (C : Case n l L x) : Keeps n l L (Qs n l d x) := fits_keeps C.xp C.lp h.fits
theorem Last.qseen (h : Last n (2 * l) (Am L x) rew d) (hx : 0 < x) : seen n (Qs n l d x) x = sm (n + 1) (fun k => (k : Nat) * shr (2 * l + 1) d k) := seen_bck h.chan hx
theorem Last.qfwd (h : Last n (2 * l) (Am L x) rew d) (hx : 0 < x) (k : Nat) : fwd n (Qs n l d x) x k = shr (2 * l + 1) d k := fwd_bck h.chan hx k
theorem Last.qcom (h : Last n (2 * l) (Am L x) rew d) (C : Case n l L x) (hr : Rew n rew) : Com 503 n (Qs n l d x) := by
  have c := Com.found (C.com hr h.g) C.xp C.xs
  have := Com.norm c (by have := C.n5; omega) (bck_pos h.chan C.xp)
  exact Com.mono this (by have := C.n5; omega)
theorem Last.fcom (h : Last n (2 * l) (Am L x) rew d) (C : Case n l L x) (hr : Rew n rew) : Com 500 n (fun k => shr (2 * l + 1) d k / x ^ k) := Com.mono (Com.found (C.com hr h.g) C.xp C.xs) (by have := C.n5; omega)
end
structure Ends (n l : Nat) (L : Nat → Lk) (x : Rat) (d1 d2 : Dic) : Prop where
  lo : Last n (2 * l) (Am L x) (rwd (-1)) d1
  hi : Last n (2 * l) (Am L x) (rwd 1) d2
section
variable {n l : Nat} {L : Nat → Lk} {x : Rat} {d1 d2 : Dic}
theorem neg_sum {n : Nat} (p : Nat → Rat) : sm n (fun k => rwd (-1) k * p k) = -sm n (fun k => (k : Nat) * p k) := by
  have : sm n (fun k => rwd (-1) k * p k) = sm n (fun k => -1 * ((k : Nat) * p k)) := sm_congr fun k _ => by rw [rwd_neg]; grind
  rw [this, sm_mul]; grind
theorem pos_sum {n : Nat} (p : Nat → Rat) : sm n (fun k => rwd 1 k * p k) = sm n (fun k => (k : Nat) * p k) := sm_congr fun k _ => by rw [rwd_one]
theorem Ends.low (E : Ends n l L x d1 d2) (hx : 0 < x) : seen n (Qs n l d1 x) x = -d1.t (2 * l + 1) 0 := by
  rw [E.lo.qseen hx, ← E.lo.value, neg_sum]; grind
theorem Ends.high (E : Ends n l L x d1 d2) (hx : 0 < x) : seen n (Qs n l d2 x) x = d2.t (2 * l + 1) 0 := by
  rw [E.hi.qseen hx, ← E.hi.value, pos_sum]
theorem Ends.within (E : Ends n l L x d1 d2) (C : Case n l L x) {q : Nat → Rat} (h : Chan n q) (k : Keeps n l L q) : -d1.t (2 * l + 1) 0 ≤ seen n q x ∧ seen n q x ≤ d2.t (2 * l + 1) 0 := by
  have f := keeps_fits h C.xp C.lp k
  have a := E.lo.best f
  have b := E.hi.best f
  rw [neg_sum, ← seen_fwd] at a
  rw [pos_sum, ← seen_fwd] at b
  exact ⟨by grind, b⟩
/-- the pull of the k-th number by the weights -/
def pull (l : Nat) (L : Nat → Lk) (x : Rat) (g : Nat → Rat) (k : Nat) : Rat := sm l fun i => (g (2 * i) * ((k : Nat) - (L i).lo) + g (2 * i + 1) * ((L i).hi - (k : Nat))) * ((L i).x / x) ^ k
theorem pull_sum {g : Nat → Rat} {k : Nat} : pull l L x g k = sm (2 * l) (fun s => g s * Am L x s k) := by
  rw [sm_pair]
  refine sm_congr fun i _ => ?_
  unfold Am
  rw [if_pos (by omega), if_neg (by omega), show 2 * i / 2 = i by omega, show (2 * i + 1) / 2 = i by omega]
  grind
theorem Ends.down (E : Ends n l L x d1 d2) {k : Nat} (hk : k ≤ n) : pull l L x (fun s => wgt (2 * l + 1) n d1 (n + 1 + s)) k ≤ (k : Nat) - -d1.t (2 * l + 1) 0 := by
  rw [pull_sum]
  have := E.lo.weights hk
  rw [rwd_neg] at this
  grind
theorem Ends.up (E : Ends n l L x d1 d2) {k : Nat} (hk : k ≤ n) : pull l L x (fun s => wgt (2 * l + 1) n d2 (n + 1 + s)) k ≤ d2.t (2 * l + 1) 0 - (k : Nat) := by
  rw [pull_sum]
  have := E.hi.weights hk
  rw [rwd_one] at this
  exact this
/-- the span of a number -/
structure Span (n l : Nat) (L : Nat → Lk) (x : Rat) (c : Nat) (d1 d2 : Dic) : Prop where
  lo : Last n (2 * l) (Am L x) (rwn (-1) c) d1
  hi : Last n (2 * l) (Am L x) (rwn 1 c) d2
theorem Span.within {c : Nat} (E : Span n l L x c d1 d2) (C : Case n l L x) (hc : c ≤ n) {q : Nat → Rat} (h : Chan n q) (k : Keeps n l L q) : -d1.t (2 * l + 1) 0 ≤ fwd n q x c ∧ fwd n q x c ≤ d2.t (2 * l + 1) 0 := by
  have f := keeps_fits h C.xp C.lp k
  have a := E.lo.best f
  have b := E.hi.best f
  rw [rwn_sum hc] at a b
  have e1 : ((-1 : Int) : Rat) = -1 := by rw [Rat.intCast_neg]; rfl
  have e2 : ((1 : Int) : Rat) = 1 := rfl
  rw [e1] at a
  rw [e2] at b
  exact ⟨by grind, by grind⟩
end
end KM
set_option linter.all false
set_option exponentiation.threshold 20000
namespace KM
/-! ### the law's own numbers: how big they are -/
theorem Sz.add' {a b : Nat} {r s : Rat} (h : Sz a r) (k : Sz b s) : Sz (a + b + 1) (r + s) := by
  obtain ⟨N, D, h1, h2, h3, h4⟩ := h
  obtain ⟨M, E, k1, k2, k3, k4⟩ := k
  have e1 := pow_mul2 h2 k2
  have e2 := pow_mul2 h3 k2
  have e3 := pow_mul2 k3 h2
  rw [Nat.add_comm b a] at e3
  have p : 2 ^ (a + b + 1) = 2 ^ (a + b) + 2 ^ (a + b) := by rw [Nat.pow_succ]; omega
  refine ⟨N * E + M * D, D * E, Int.mul_pos h1 k1, by rw [Int.natAbs_mul]; omega, ?_, ?_⟩
  · have := Int.natAbs_add_le (N * E) (M * D)
    rw [Int.natAbs_mul, Int.natAbs_mul] at this
    omega
  · rw [Rat.intCast_mul, Rat.intCast_add, Rat.intCast_mul, Rat.intCast_mul, ← h4, ← k4]; grind
theorem Sz.sub' {a b : Nat} {r s : Rat} (h : Sz a r) (k : Sz b s) : Sz (a + b + 1) (r - s) := by
  rw [show r - s = r + -s by grind]
  exact Sz.add' h (Sz.neg k)
theorem Sz.zero (b : Nat) (hb : 0 < b) : Sz b 0 := ⟨0, 1, by omega, Nat.one_lt_two_pow (by omega), Nat.two_pow_pos b, by rw [Rat.intCast_zero]; grind⟩
theorem Sz.one (b : Nat) (hb : 0 < b) : Sz b 1 := ⟨1, 1, by omega, Nat.one_lt_two_pow (by omega), Nat.one_lt_two_pow (by omega), by rw [show ((1 : Int) : Rat) = 1 from rfl]; grind⟩
theorem Sz.pow {b : Nat} {r : Rat} (h : Sz b r) (hb : 0 < b) : ∀ k : Nat, Sz (b * k + 1) (r ^ k)
  | 0 => by
    rw [Rat.pow_zero]
    exact Sz.one _ (by omega)
  | k + 1 => by
    rw [Rat.pow_succ, show b * (k + 1) + 1 = (b * k + 1) + b by rw [Nat.mul_add]; omega]
    exact Sz.mul (Sz.pow h hb k) h
theorem Sz.nat {k : Nat} {b : Nat} (h : k < 2 ^ b) (hb : 0 < b) : Sz b (k : Nat) := ⟨(k : Nat), 1, by omega, Nat.one_lt_two_pow (by omega), by rw [Int.natAbs_natCast]; exact h, by
  have : (((k : Nat) : Int) : Rat) = ((k : Nat) : Rat) := rfl
  rw [this, show ((1 : Int) : Rat) = 1 from rfl]; grind⟩
theorem Com.load {b n : Nat} {q : Nat → Rat} {x : Rat} (h : Com b n q) (xs : Sz 4 x) : Com (b + 4 * n) n (ld q x) := Com.pow h xs (by decide)
theorem Com.num {b n : Nat} {f : Nat → Rat} (h : Com b n f) (hn : n ≤ 7) : Com (b + 3) n (fun k => f k * (k : Nat)) := by
  obtain ⟨N, Z, h1, h2, h3⟩ := h
  have p : 2 ^ (b + 3) = 8 * 2 ^ b := by rw [Nat.pow_add]; omega
  refine ⟨N, fun k => Z k * ((k : Nat) : Int), h1, by omega, fun k hk => ⟨?_, ?_⟩⟩
  · rw [Int.natAbs_mul, Int.natAbs_natCast, Nat.mul_comm]
    refine Nat.lt_of_le_of_lt (Nat.mul_le_mul_right _ (show k ≤ 7 by omega)) ?_
    have := (h3 k hk).1
    omega
  · rw [Rat.intCast_mul, ← (h3 k hk).2]
    have : (((k : Nat) : Int) : Rat) = ((k : Nat) : Rat) := rfl
    rw [this]; grind
/-- a fraction with a whole number of parts -/
theorem quo_whole {a b : Nat} (hb : 0 < b) : ((a : Nat) : Rat) / ((b : Nat) : Rat) * (((b : Nat) : Int) : Rat) = (((a : Nat) : Int) : Rat) := by
  have e : (((b : Nat) : Int) : Rat) = ((b : Nat) : Rat) := rfl
  have e2 : (((a : Nat) : Int) : Rat) = ((a : Nat) : Rat) := rfl
  have h := ne0 (N := ((b : Nat) : Int)) (by omega)
  rw [e] at h
  rw [e, e2]; grind
theorem natR {a b : Nat} (h : a ≤ b) : ((a : Nat) : Rat) ≤ ((b : Nat) : Rat) := Rat.natCast_le_natCast.mpr h
theorem natR0 (a : Nat) : (0 : Rat) ≤ ((a : Nat) : Rat) := Rat.natCast_nonneg
theorem natRp {a : Nat} (h : 0 < a) : (0 : Rat) < ((a : Nat) : Rat) := Rat.natCast_pos.mpr h
theorem quo_le {a b : Nat} (hb : 0 < b) (h : a ≤ b) : ((a : Nat) : Rat) / ((b : Nat) : Rat) ≤ 1 := by
  have h1 := natRp hb
  have h2 := natR h
  rw [div_le h1]; grind
theorem quo_sz {a b c : Nat} (hb : 0 < b) (hb2 : b < 2 ^ c) (ha : a < 2 ^ c) : Sz c (((a : Nat) : Rat) / ((b : Nat) : Rat)) :=
  ⟨((a : Nat) : Int), ((b : Nat) : Int), by omega, by rw [Int.natAbs_natCast]; exact hb2, by rw [Int.natAbs_natCast]; exact ha, quo_whole hb⟩
/-- so many parts each -/
def smn (n : Nat) (f : Nat → Nat) : Nat := match n with
  | 0 => 0
  | n + 1 => smn n f + f n
theorem smn_cast : ∀ (n : Nat) (f : Nat → Nat), ((smn n f : Nat) : Rat) = sm n (fun k => ((f k : Nat) : Rat))
  | 0, _ => rfl
  | n + 1, f => by
    rw [sm_succ, ← smn_cast n f]
    exact Rat.natCast_add _ _
theorem smn_le {f : Nat → Nat} {b : Nat} : ∀ {n : Nat}, (∀ k, k < n → f k ≤ b) → smn n f ≤ n * b
  | 0, _ => by simp [smn]
  | n + 1, h => by
    have := smn_le (f := f) (b := b) (n := n) fun k hk => h k (by omega)
    have := h n (by omega)
    rw [Nat.succ_mul]
    show smn n f + f n ≤ _
    omega
theorem parts_chan {n s : Nat} {f : Nat → Nat} (hs : smn (n + 1) f = s) (h0 : 0 < s) : Chan n (fun k => ((f k : Nat) : Rat) / ((s : Nat) : Rat)) := by
  have h1 := natRp h0
  refine ⟨fun k _ => div_nn (natR0 _) h1, ?_⟩
  rw [div_sum, ← smn_cast, hs]
  grind
theorem parts_com {n s : Nat} {f : Nat → Nat} (hf : ∀ k, k ≤ n → f k ≤ 7) (hn : n ≤ 5) (hs : smn (n + 1) f = s) (h0 : 0 < s) : Com 6 n (fun k => ((f k : Nat) : Rat) / ((s : Nat) : Rat)) := by
  have := smn_le (f := f) (b := 7) (n := n + 1) fun k hk => hf k (by omega)
  refine ⟨((s : Nat) : Int), fun k => ((f k : Nat) : Int), by omega, by rw [Int.natAbs_natCast]; omega, fun k hk => ⟨?_, quo_whole h0⟩⟩
  rw [Int.natAbs_natCast]
  have := hf k hk
  omega
/-- what lies between 0 and 5 over a divisor -/
theorem low_sz {r : Rat} {D : Int} {N : Int} (h0 : 0 ≤ r) (h5 : r ≤ 5) (hD : 0 < D) (hD2 : D.natAbs < 2 ^ 42) (e : r * (D : Rat) = (N : Rat)) : Sz 45 r := by
  refine ⟨N, D, hD, Nat.lt_of_lt_of_le hD2 (Nat.pow_le_pow_right (by decide) (by decide)), ?_, e⟩
  have d0 : (0 : Rat) < (D : Rat) := Rat.intCast_pos.mpr hD
  have n0 : (0 : Rat) ≤ (N : Rat) := by rw [← e]; exact Rat.mul_nonneg h0 (Rat.le_of_lt d0)
  have n5 : (N : Rat) ≤ ((5 * D : Int) : Rat) := by
    rw [← e, Rat.intCast_mul]
    exact Rat.mul_le_mul_of_nonneg_right h5 (Rat.le_of_lt d0)
  have a := Rat.intCast_nonneg.mp n0
  have b := Rat.intCast_le_intCast.mp n5
  omega
theorem den_eq (r : Rat) : r * ((r.den : Int) : Rat) = (r.num : Rat) := by
  have h := Rat.num_divInt_den r
  rw [Rat.divInt_eq_div] at h
  have h0 := ne0 (N := (r.den : Int)) (by have := r.den_pos; omega)
  grind
theorem low_look {h : Rat} {c t : Nat} (h0 : 0 ≤ h) (hc : h ≤ (c : Nat)) (c5 : c ≤ 5) (hd : h.den ≤ 10 ^ 12) (ht : t ≤ 4) : 0 ≤ h * (((t : Nat) : Rat) / ((4 : Nat) : Rat)) ∧ Sz 45 (h * (((t : Nat) : Rat) / ((4 : Nat) : Rat))) := by
  have q0 : 0 ≤ ((t : Nat) : Rat) / ((4 : Nat) : Rat) := div_nn (natR0 _) (natRp (by decide))
  have q1 := quo_le (a := t) (b := 4) (by decide) ht
  have p0 : 0 ≤ h * (((t : Nat) : Rat) / ((4 : Nat) : Rat)) := Rat.mul_nonneg h0 q0
  have c5' := natR c5
  have e5 : ((5 : Nat) : Rat) = 5 := rfl
  have p1 : h * (((t : Nat) : Rat) / ((4 : Nat) : Rat)) ≤ h * 1 := Rat.mul_le_mul_of_nonneg_left q1 h0
  refine ⟨p0, low_sz (D := (h.den : Int) * 4) (N := h.num * (t : Nat)) p0 (by grind) (by have := h.den_pos; omega) (by omega) ?_⟩
  rw [Rat.intCast_mul, Rat.intCast_mul, ← den_eq h, show (((t : Nat) : Int) : Rat) = ((t : Nat) : Rat) from rfl, show ((4 : Int) : Rat) = 4 from rfl, show ((4 : Nat) : Rat) = 4 from rfl]
  grind
theorem high_look {h : Rat} {c t : Nat} (h0 : 0 ≤ h) (hc : h ≤ (c : Nat)) (c5 : c ≤ 5) (hd : h.den ≤ 10 ^ 12) (ht : t ≤ 4) : h ≤ h + (((c : Nat) : Rat) - h) * (((t : Nat) : Rat) / ((4 : Nat) : Rat)) ∧ h + (((c : Nat) : Rat) - h) * (((t : Nat) : Rat) / ((4 : Nat) : Rat)) ≤ (c : Nat) ∧ Sz 45 (h + (((c : Nat) : Rat) - h) * (((t : Nat) : Rat) / ((4 : Nat) : Rat))) := by
  have q0 : 0 ≤ ((t : Nat) : Rat) / ((4 : Nat) : Rat) := div_nn (natR0 _) (natRp (by decide))
  have q1 := quo_le (a := t) (b := 4) (by decide) ht
  have g0 : 0 ≤ ((c : Nat) : Rat) - h := by grind
  have p0 : 0 ≤ (((c : Nat) : Rat) - h) * (((t : Nat) : Rat) / ((4 : Nat) : Rat)) := Rat.mul_nonneg g0 q0
  have c5' := natR c5
  have e5 : ((5 : Nat) : Rat) = 5 := rfl
  have p1 : (((c : Nat) : Rat) - h) * (((t : Nat) : Rat) / ((4 : Nat) : Rat)) ≤ (((c : Nat) : Rat) - h) * 1 := Rat.mul_le_mul_of_nonneg_left q1 g0
  refine ⟨by grind, by grind, low_sz (D := (h.den : Int) * 4) (N := h.num * 4 + ((c : Nat) * (h.den : Int) - h.num) * (t : Nat)) (by grind) (by grind) (by have := h.den_pos; omega) (by omega) ?_⟩
  rw [Rat.intCast_mul, Rat.intCast_add, Rat.intCast_mul, Rat.intCast_mul, Rat.intCast_sub, Rat.intCast_mul, ← den_eq h, show (((t : Nat) : Int) : Rat) = ((t : Nat) : Rat) from rfl, show (((c : Nat) : Int) : Rat) = ((c : Nat) : Rat) from rfl, show ((4 : Int) : Rat) = 4 from rfl, show ((4 : Nat) : Rat) = 4 from rfl]
  grind
theorem seen_span {n : Nat} {q : Nat → Rat} {x : Rat} (h : Chan n q) (hx : 0 < x) : 0 ≤ seen n q x ∧ seen n q x ≤ (n : Nat) := by
  have f := fwd_chan h hx
  rw [seen_fwd]
  constructor
  · refine sm_nonneg fun k hk => ?_
    exact Rat.mul_nonneg (natR0 k) (f.nn k (by omega))
  · have : sm (n + 1) (fun k => ((k : Nat) : Rat) * fwd n q x k) ≤ sm (n + 1) (fun k => ((n : Nat) : Rat) * fwd n q x k) := sm_le fun k hk => Rat.mul_le_mul_of_nonneg_right (natR (by omega)) (f.nn k (by omega))
    rw [sm_mul, f.one] at this
    grind
end KM
set_option Elab.async false
set_option linter.all false
set_option maxRecDepth 100000
/-! Rules of our own over the hand layer: a bool less a bool, a list or a tuple walked, repr of data. -/
namespace K86
open PySem PySem.Spec PyProof.Rows L2
section
variable {X : Cx}
theorem op_subBB : OpR X (binaryOp .Sub) (fun x y H Q => ∃ p q : Bool, x = .bl p ∧ y = .bl q ∧ Q (.int ((if p then 1 else 0) - (if q then 1 else 0))) H) := by
  intro pins s σ H x y v u Q I rx ry h
  obtain ⟨p, q, rfl, rfl, hq⟩ := h
  cases rx
  cases ry
  refine PyProof.Rows.sub_bool ⟨.int _, H, I.tok _, ⟨_, rfl⟩, ?_⟩
  exact hq
/-- a list or a tuple -/
def iSeq (K : PySem.W.Frag) (tl : TE) : TI := fun σ H R => tl σ H fun x H1 => ∃ a, x = .ref a ∧ ((∃ xs, SqL K H1 a xs ∧ R (Itl K a) H1) ∨ (∃ xs, SqT K H1 a xs ∧ R (Itt K a) H1))
theorem pi_seq {tg l : Expr} {tl : TE} (hl : PE X l tl) : PI X tg l (iSeq X.K tl) := by
  refine ⟨fun pins s σ H R I h => ?_⟩
  refine thn (hl.run pins s σ H _ I h) fun v s1 ⟨x, H1, I1, r1, q1⟩ => ?_
  obtain ⟨a, rfl, q⟩ := q1
  have hv : PE X (.Constant .none 0 ⟨0, 0, 0, 0⟩) (tC .non) := pe_non
  rcases q with ⟨xs, hs, q⟩ | ⟨xs, hs, q⟩
  · cases r1
    obtain ⟨its, rv, p, hz⟩ := I1.list hs
    refine wpAny_pyIter_list p.isList ?_
    refine ⟨_, [s1.heap.objs.size], _, _, H1, rfl, I1.kept (t' := s1.toks) fun b o e => Heap.get?_push_of_some _ e, turn_list a _, ⟨_, Heap.get?_push_size _ rfl, rfl, rfl⟩, fun b hb => ?_, q⟩
    obtain rfl : b = s1.heap.objs.size := by simpa using hb
    exact I1.fpOk (Nat.le_refl _) (I1.hok.fresh (Nat.le_refl _))
  · cases r1
    obtain ⟨its, rv, p, hz⟩ := I1.tuple hs
    refine wpAny_pyIter_tuple (show s1.heap.IsTuple a its.toArray from p) ?_
    refine ⟨_, [s1.heap.objs.size], _, _, H1, rfl, I1.kept (t' := s1.toks) fun b o e => Heap.get?_push_of_some _ e, turn_tuple a _, ⟨_, Heap.get?_push_size _ rfl, rfl, rfl⟩, fun b hb => ?_, q⟩
    obtain rfl : b = s1.heap.objs.size := by simpa using hb
    exact I1.fpOk (Nat.le_refl _) (I1.hok.fresh (Nat.le_refl _))
/-- repr of data, where no guard runs -/
def rRepr (K : PySem.W.Frag) : List V → Hp → VK → Prop := fun vs H Q => ∃ (a : Addr) (d : PyData), vs = [.ref a] ∧ Dp K H (.ref a) d ∧ d.showable = true ∧ d.hasDict = false ∧ d.depth ≤ 60 ∧ d.shown.length ≤ sizeLine ∧ Q (.str d.shown) H
theorem cr_repr (hg : X.A.guards = some []) (hu : X.A.units + 64 < cLine) : CallR X (.builtin "repr") (rRepr X.K) := by
  intro pins s σ H vs us Q I r h
  obtain ⟨a, d, rfl, hd, hs, hn, hdp, hz, q⟩ := h
  obtain ⟨u, rfl, ru⟩ := vals1 r
  obtain ⟨as, rd⟩ := Dp.reads I d _ _ hd ru
  cases ru
  refine repr_of_reads' rd hs (fun z => by rw [hn] at z; cases z) hg (by omega) (fun _ _ e => e) (fun h' u tk hk => ?_) hz
  exact ⟨.str _, H, I.kept hk, ⟨_, rfl⟩, q⟩
end
end K86
set_option Elab.async false
set_option linter.all false
set_option maxRecDepth 100000
/-! min of a list of pairs of whole numbers: a pair with a least first number. -/
namespace K86
open PySem PySem.Spec PyProof.Rows L2
def pairD (p : Int × Int) : PyData := .tuple [.int p.1, .int p.2]
theorem lt_fst {p q : Int × Int} : (PySem.W.dataLt (pairD p) (pairD q) = true → p.1 ≤ q.1) ∧ (PySem.W.dataLt (pairD p) (pairD q) = false → q.1 ≤ p.1) := by
  by_cases e : p.1 = q.1
  · exact ⟨fun _ => by omega, fun _ => by omega⟩
  · have h : PySem.W.dataLt (pairD p) (pairD q) = decide (p.1 < q.1) := by
      unfold pairD
      rw [PySem.W.dataLt_tuple, PySem.W.dataLt_all_no (by simp [PySem.W.alike]) (by simp [PyData.eqv, e]), PySem.W.dataLt_int]
    rw [h]
    exact ⟨fun z => by have := of_decide_eq_true z; omega, fun z => by have := of_decide_eq_false z; omega⟩
theorem minD_pairs : ∀ (ps : List (Int × Int)) (p : Int × Int), ∃ r, r ∈ p :: ps ∧ PySem.W.minD (pairD p) (ps.map pairD) = pairD r ∧ ∀ q, q ∈ p :: ps → r.1 ≤ q.1 := by
  intro ps
  induction ps with
  | nil =>
    intro p
    refine ⟨p, List.mem_singleton.mpr rfl, rfl, fun q hq => ?_⟩
    rw [List.mem_singleton.mp hq]
    exact Int.le_refl _
  | cons a ps ih =>
    intro p
    have step : PySem.W.minD (pairD p) ((a :: ps).map pairD) = PySem.W.minD (if PySem.W.dataLt (pairD a) (pairD p) then pairD a else pairD p) (ps.map pairD) := rfl
    have ⟨h1, h2⟩ := lt_fst (p := a) (q := p)
    cases hb : PySem.W.dataLt (pairD a) (pairD p) with
    | true =>
      obtain ⟨r, r1, r2, r3⟩ := ih a
      refine ⟨r, List.mem_cons_of_mem _ r1, by rw [step, hb]; exact r2, fun q hq => ?_⟩
      rcases List.mem_cons.mp hq with e | hq
      · have := r3 a List.mem_cons_self
        have := h1 hb
        rw [e]; omega
      · exact r3 q hq
    | false =>
      obtain ⟨r, r1, r2, r3⟩ := ih p
      refine ⟨r, ?_, by rw [step, hb]; exact r2, fun q hq => ?_⟩
      · rcases List.mem_cons.mp r1 with e | h
        · rw [e]; exact List.mem_cons_self
        · exact List.mem_cons_of_mem _ (List.mem_cons_of_mem _ h)
      · rcases List.mem_cons.mp hq with e | hq
        · rw [e]; exact r3 p List.mem_cons_self
        · rcases List.mem_cons.mp hq with e | hq
          · have := r3 p List.mem_cons_self
            have := h2 hb
            rw [e]; omega
          · exact r3 q (List.mem_cons_of_mem _ hq)
theorem depth_pairs : ∀ ps : List (Int × Int), PyData.depthAll (ps.map pairD) ≤ 3
  | [] => by simp [PyData.depthAll]
  | p :: ps => by
    have := depth_pairs ps
    simp only [List.map_cons, PyData.depthAll, pairD, PyData.depth]
    omega
section
variable {X : Cx}
/-- the pairs that stand in a list -/
def rMinT (K : PySem.W.Frag) : List V → Hp → VK → Prop := fun vs H Q => ∃ (a : Addr) (ys : List V) (ps : List (Int × Int)), vs = [.ref a] ∧ SqL K H a ys ∧ DpAll K H ys (ps.map pairD) ∧ 0 < ps.length ∧
  ∀ v r, r ∈ ps → (∀ q, q ∈ ps → r.1 ≤ q.1) → Dp K H v (pairD r) → Q v H
theorem dp_read {pins : List (Addr × Obj)} {σ : L2.St} {H : Hp} {s : Shared} (I : Inv X pins σ H s) : ∀ {ys : List V} {ds : List PyData} {us : List Value} {i : Nat} {u : Value}, DpAll X.K H ys ds → Vals ys us → us[i]? = some u → ∃ y d, ys[i]? = some y ∧ ds[i]? = some d ∧ RelV y u ∧ Dp X.K H y d
  | _, _, _, _, _, .nil, .nil, h => by simp at h
  | _, _, _, 0, _, .cons h1 _, .cons r _, h => by
    simp at h
    subst h
    exact ⟨_, _, rfl, rfl, r, h1⟩
  | _, _, _, i + 1, u, .cons _ h2, .cons _ r, h => by
    obtain ⟨y, d, e1, e2, e3, e4⟩ := dp_read I (i := i) (u := u) h2 r (by simpa using h)
    exact ⟨y, d, by simpa using e1, by simpa using e2, e3, e4⟩
theorem pairD_inj {p q : Int × Int} (h : pairD p = pairD q) : p = q := by
  unfold pairD at h
  simp at h
  exact Prod.ext h.1 h.2
theorem cr_minT (hc : X.calm = true) (hu : X.A.units + 64 < cLine) : CallR X (.builtin "min") (rMinT X.K) := by
  intro pins s σ H vs us Q I r h
  obtain ⟨a, ys, ps, rfl, hs, hd, h0, q⟩ := h
  obtain ⟨u, rfl, ru⟩ := vals1 r
  cases ru
  obtain ⟨its, rv, hl, _⟩ := I.list hs
  obtain ⟨as, hr⟩ := Dp.readsAll I _ _ _ hd rv
  cases ps with
  | nil => exact absurd h0 (by decide)
  | cons p ps =>
    obtain ⟨m, m1, m2, m3⟩ := minD_pairs ps p
    have dd := depth_pairs (p :: ps)
    refine PySem.W.min_list_data (I.ok.hd hc) hl.isList (x := pairD p) (xs := ps.map pairD) (by simpa using hr) ⟨fun x hx y hy => ?_, fun x hx => ?_⟩ (by rw [List.map_cons] at dd; omega) fun i v h' tk bs hv hrd hk => ?_
    · rw [← List.map_cons] at hx hy
      obtain ⟨x', _, rfl⟩ := List.mem_map.mp hx
      obtain ⟨y', _, rfl⟩ := List.mem_map.mp hy
      simp [pairD, PySem.W.alike, PySem.W.alikeAll]
    · rw [← List.map_cons] at hx
      obtain ⟨x', _, rfl⟩ := List.mem_map.mp hx
      simp [pairD]
    · rw [m2] at hrd
      obtain ⟨y, d, e1, e2, e3, e4⟩ := dp_read I hd rv (show its[i]? = some v by simpa using hv)
      obtain ⟨as2, hrd2⟩ := Dp.reads I _ _ _ e4 e3
      have hrd3 := PySem.W.reads_keeps hk hrd2
      obtain ⟨ed, _⟩ := PyProof.Rows.reads_det (fun _ _ e _ => e) hrd hrd3
      have e4' : Dp X.K H y (pairD m) := by rw [← ed]; exact e4
      exact ⟨y, H, I.kept hk, e3, q y m m1 m3 e4'⟩
end
end K86
set_option Elab.async false
set_option linter.all false
set_option maxRecDepth 100000
set_option maxHeartbeats 2000000
/-! enumerate over a zip of two lists, and over a tuple: one rule for each next, which tells both of its ends. -/
namespace K86
open PySem PySem.Spec
open PyProof.Rows L2
section
variable {α β : Type} {M : Model} {P : Program} {w : World} {A : Around} {E : Value → Shared → Prop} {s : Shared}
/-! ### what stands, and what has moved -/
/-- all that stood outside L stands as it did -/
def Off (L : List Addr) (h h' : Heap) : Prop := ∀ c, c ∉ L → ∀ o, h.get? c = some o → h'.get? c = some o
theorem Off.one {a : Addr} {h h' : Heap} (q : Heap.SameBut a h h') : Off [a] h h' := fun c n o e => (q.2 c fun z => n (List.mem_singleton.mpr z)).trans e
theorem Off.ext {a : Addr} {h h' : Heap} (q : Heap.ExtBut a h h') : Off [a] h h' := fun c n o e => q c o (fun z => n (List.mem_singleton.mpr z)) e
theorem Off.all {h h' : Heap} (q : ∀ c o, h.get? c = some o → h'.get? c = some o) : Off [] h h' := fun c _ o e => q c o e
theorem Off.new {h : Heap} (o : Obj) : Off [] h (h.push o) := fun _ _ _ e => Heap.get?_push_of_some _ e
theorem Off.then {L L' : List Addr} {h h1 h2 : Heap} (q : Off L h h1) (r : Off L' h1 h2) : Off (L ++ L') h h2 := fun c n o e =>
  r c (fun z => n (List.mem_append.mpr (.inr z))) o (q c (fun z => n (List.mem_append.mpr (.inl z))) o e)
theorem Off.to {L L' : List Addr} {h h' : Heap} (q : Off L h h') (i : ∀ c, c ∈ L → c ∈ L') : Off L' h h' := fun c n => q c fun z => n (i c z)
/-- a field is read, and on it goes -/
theorem rd {a : Addr} {o : Obj} {vs : Array Value} {i : Nat} {x : Value} {f : Value → Sem β} {Q : β → Shared → Prop} (h : s.heap.get? a = some o) (d : o.data = .fields vs) (e : vs[i]? = some x) (g : wpAny M A (f x) Q E s) :
    wpAny M A (field (.ref a) i >>= f) Q E s := wpAny_bind (wpAny_field h d e g)
/-- a field is set, and on it goes -/
theorem wr {a : Addr} {c : Value} {vs : Array Value} {i : Nat} {x : Value} {f : Unit → Sem β} {Q : β → Shared → Prop} (h : s.heap.get? a = some { cls := c, dict := none, data := .fields vs, slots := #[] }) (hi : i < vs.size)
    (g : ∀ h', h'.get? a = some { cls := c, dict := none, data := .fields (vs.setIfInBounds i x), slots := #[] } → Heap.SameBut a s.heap h' → wpAny (model P w) A (f ()) Q E { s with heap := h' }) :
    wpAny (model P w) A (setField (.ref a) i x >>= f) Q E s := wpAny_bind (wpAny_setField_rec h hi g)
/-- an iterator's own tuple is free where none was handed out, or the one that was is gone -/
theorem own_free {a : Addr} {o : Obj} {vs : Array Value} {v : Value} {Q : Bool → Shared → Prop} (h : s.heap.get? a = some o) (d : o.data = .fields vs) (e : vs[0]? = some v) (c : v = .none ∨ ∃ T : Addr, v = rawInt T ∧ s.heap.get? T = none) (g : Q true s) :
    wpAny M A (Builtin.SmallTypes.ownedTupleIsFree (.ref a)) Q E s := by
  refine rd h d e ?_
  rcases c with rfl | ⟨T, rfl, hT⟩
  · exact wpAny_pure g
  · have gone : ∀ {R : Option Obj → Shared → Prop}, R none s → wpAny M A (loadIfAlive T) R E s := fun {R} r => by
      have : R (s.heap.get? T) s := by rw [hT]; exact r
      exact fun _ _ _ => this
    exact wpAny_bind (gone (wpAny_pure g))
/-- a tuple is handed out -/
theorem hand_out {a t : Addr} {c : Value} {vs : Array Value} {Q : Unit → Shared → Prop} (h : s.heap.get? a = some { cls := c, dict := none, data := .fields vs, slots := #[] }) (n : 1 < vs.size)
    (g : ∀ h', h'.get? a = some { cls := c, dict := none, data := .fields ((vs.setIfInBounds 0 (rawInt t)).setIfInBounds 1 (.bool false)), slots := #[] } → Heap.SameBut a s.heap h' → Q () { s with heap := h' }) :
    wpAny (model P w) A (Builtin.SmallTypes.ownedTupleHandOut (.ref a) (.ref t)) Q E s :=
  wr h (Nat.lt_of_succ_lt n) fun h1 e1 q1 => wpAny_setField_rec e1 (by rw [Array.size_setIfInBounds]; exact n) fun h2 e2 q2 => g h2 e2 (q1.trans q2)
/-! ### a zip of two lists at its k-th turn -/
abbrev zob (f0 : Value) (f : Bool) (TI TO : Addr) : Obj := { cls := .type "zip", dict := none, data := .fields #[f0, .bool f, .bool false, .ref TI, .ref TO], slots := #[] }
structure Zs (h : Heap) (z TI TO i1 i2 l1 l2 : Addr) (k : Nat) : Prop where
  zo : ∃ f0 f, h.get? z = some (zob f0 f TI TO) ∧ (f0 = .none ∧ f = false ∨ ∃ T : Addr, f0 = rawInt T)
  ti : IsPair h TI (.ref i1) (.ref i2)
  to : ∃ a b, IsPair h TO a b
  one : h.IsListIter i1 l1 k
  two : h.IsListIter i2 l2 k
variable {z TI TO i1 i2 l1 l2 : Addr} {k : Nat} {xs ys : Array Value} {h h' : Heap}
theorem Zs.keep (S : Zs h z TI TO i1 i2 l1 l2 k) (q : ∀ c ∈ [z, TI, TO, i1, i2], ∀ o, h.get? c = some o → h'.get? c = some o) : Zs h' z TI TO i1 i2 l1 l2 k := by
  simp only [List.forall_mem_cons] at q
  obtain ⟨qz, qTI, qTO, q1, q2, _⟩ := q
  obtain ⟨⟨f0, f, e, c⟩, ti, ⟨a, b, to⟩, one, two⟩ := S
  exact ⟨⟨f0, f, qz _ e, c⟩, qTI _ ti, ⟨a, b, qTO _ to⟩, one.at q1, two.at q2⟩
theorem Zs.obj (S : Zs h z TI TO i1 i2 l1 l2 k) : ∀ c ∈ [z, TI, TO, i1, i2], ∃ o, h.get? c = some o ∧ ∀ v, o.data ≠ .cell v := by
  obtain ⟨⟨f0, f, e, _⟩, ti, ⟨a, b, to⟩, ⟨o1, e1, _, d1⟩, ⟨o2, e2, _, d2⟩⟩ := S
  simp only [List.forall_mem_cons]
  refine ⟨⟨_, e, nofun⟩, ⟨_, ti, nofun⟩, ⟨_, to, nofun⟩, ⟨o1, e1, fun v => ?_⟩, ⟨o2, e2, fun v => ?_⟩, nofun⟩
  · rw [d1]; nofun
  · rw [d2]; nofun
/-- the end of a next: what it gives, or that it has ended -/
def Stopped (h : Heap) (e : Addr) : Prop := ∃ o, h.get? e = some o ∧ o.cls = .type "StopIteration"
/-- a list's iterator: both of its ends -/
theorem nx_list {j l : Addr} {Q : Value → Shared → Prop} (hh : A.handled = none) (it : s.heap.IsListIter j l k) (p : s.heap.IsList l xs)
    (hit : ∀ x h', xs[k]? = some x → h'.IsListIter j l (k + 1) → Heap.SameBut j s.heap h' → Q x { s with heap := h' }) (miss : ∀ h' x, xs[k]? = none → Off [j] s.heap h' → Stopped h' x → E (.ref x) { s with heap := h' }) :
    wpAny (model P w) A (Builtin.SmallTypes.nextOf (.ref j)) Q E s := by
  cases c : xs[k]? with
  | some x => exact wpAny_nextOf_list_item it p c fun h' => hit x h' c
  | none => exact wpAny_nextOf_list_end hh it p c fun h' x q => miss h' x c (.ext q)
theorem Off.at1 {a c : Addr} (q : Off [a] h h') (n : c ≠ a) : ∀ o, h.get? c = some o → h'.get? c = some o := q c fun z => n (List.mem_singleton.mp z)
/-- next, where the tuple that was handed out is gone -/
theorem zip_gone {Q : Value → Shared → Prop} {T : Addr} {f : Bool} (hh : A.handled = none) (D : ZipApart z TI TO i1 i2 l1 l2) (S : Zs s.heap z TI TO i1 i2 l1 l2 k) (p : s.heap.IsList l1 xs) (p' : s.heap.IsList l2 ys)
    (e : s.heap.get? z = some (zob (rawInt T) f TI TO)) (hT : s.heap.get? T = none)
    (hit : ∀ x y h', xs[k]? = some x → ys[k]? = some y → Zs h' z TI TO i1 i2 l1 l2 (k + 1) → IsPair h' s.heap.objs.size x y → h'.objs.size = s.heap.objs.size + 1 → Off [z, TO, i1, i2] s.heap h' → Q (.ref s.heap.objs.size) { s with heap := h' })
    (miss : ∀ h' x, xs[k]? = none ∨ ys[k]? = none → Off [z, TO, i1, i2] s.heap h' → Stopped h' x → E (.ref x) { s with heap := h' }) :
    wpAny (model P w) A (Builtin.«zip.__next__» ⟨[.ref z], []⟩) (fun fin s' => ∃ v, fin = .done (.ret v) ∧ Q v s') E s := by
  obtain ⟨_, ti, ⟨a, b, to⟩, one, two⟩ := S
  show wpAny _ _ (field _ 2 >>= _) _ _ _
  refine rd e rfl rfl ?_
  show wpAny _ _ (field _ 3 >>= _) _ _ _
  refine rd e rfl rfl (wpAny_bind (wpAny_seqItems ti rfl ?_))
  show wpAny _ _ (Builtin.SmallTypes.ownedTupleIsFree _ >>= _) _ _ _
  refine wpAny_bind (own_free e rfl rfl (.inr ⟨T, rfl, hT⟩) ?_)
  rw [if_pos rfl]
  refine wpAny_bind (wpAny_rule (rd e rfl rfl (wr e (by simp) fun ha za sa => wpAny_bind ?_)))
  simp only [List.zipIdx_cons, List.zipIdx_nil, List.forIn_cons, List.forIn_nil]
  have oa : Off [z] s.heap ha := .one sa
  have za : ha.get? z = some (zob .ellipsis f TI TO) := za
  -- where one of the two has ended: the zip's own field is put back
  have back : ∀ {L : List Addr} {h1 : Heap} {x : Addr}, Off L s.heap h1 → (∀ c, c ∈ L → c ∈ [z, TO, i1, i2]) → h1.get? z = some (zob .ellipsis f TI TO) → Stopped h1 x → xs[k]? = none ∨ ys[k]? = none →
      wpAny (model P w) A (setField (.ref z) 0 .none) (fun _ s2 => E (.ref x) s2) E { s with heap := h1 } := fun {L h1 x} o1 iL z1 st c => by
    obtain ⟨o, ox, oc⟩ := st
    have n : x ≠ z := fun q => by
      rw [q, z1] at ox
      cases ox
      simp at oc
    exact wpAny_setField_rec z1 (by simp) fun h2 _ s2 => miss h2 x c ((o1.then (.one s2)).to fun c m => (List.mem_append.mp m).elim (iL c) fun q => by simp [List.mem_singleton.mp q]) ⟨o, (Off.one s2).at1 n o ox, oc⟩
  refine wpAny_bind (wpAny_bind (wpAny_onRaise ?_))
  show wpAny _ _ (Builtin.SmallTypes.nextOf _ >>= _) _ _ _
  refine wpAny_bind (nx_list hh (one.at (oa.at1 D.i1z)) (p.at (oa.at1 D.l1z)) (fun x hb hx ib sb => ?_) fun hb x hx ob st => back (oa.then ob) (by simp) (ob.at1 D.i1z.symm _ za) st (.inl hx))
  have ob : Off [i1] ha hb := .one sb
  have tb : IsPair hb TO a b := ob.at1 D.TOi1 _ (oa.at1 D.TOz _ to)
  refine wpAny_pure (wpAny_bind (wpAny_seqItems tb rfl (wpAny_bind (wpAny_updateSeq_pair tb fun hc tc sc => wpAny_bind (wpAny_letGo (wpAny_pure ?_))))))
  have oc : Off [TO] hb hc := .one sc
  have tc : IsPair hc TO x b := tc
  have o3 := (oa.then ob).then oc
  refine wpAny_bind (wpAny_bind (wpAny_onRaise ?_))
  show wpAny _ _ (Builtin.SmallTypes.nextOf _ >>= _) _ _ _
  refine wpAny_bind (nx_list hh (two.at (o3 i2 (by simp [D.i2z, D.i12.symm, D.TOi2.symm]))) (p'.at (o3 l2 (by simp [D.l2z, D.l2i1, D.l2TO]))) (fun y hd hy jd sd => ?_) fun hd x hy od st =>
    back (o3.then od) (by simp) (od.at1 D.i2z.symm _ (oc.at1 D.TOz.symm _ (ob.at1 D.i1z.symm _ za))) st (.inr hy))
  have od : Off [i2] hc hd := .one sd
  have td : IsPair hd TO x b := od.at1 D.TOi2 _ tc
  refine wpAny_pure (wpAny_bind (wpAny_seqItems td rfl (wpAny_bind (wpAny_updateSeq_pair td fun he te se => wpAny_bind (wpAny_letGo (wpAny_pure (wpAny_pure ?_)))))))
  have oe : Off [TO] hd he := .one se
  have te : IsPair he TO x y := te
  have sz : he.objs.size = s.heap.objs.size := by rw [se.1, sd.1, sc.1, sb.1, sa.1]
  have ze : he.get? z = some (zob .ellipsis f TI TO) := oe.at1 D.TOz.symm _ (od.at1 D.i2z.symm _ (oc.at1 D.TOz.symm _ (ob.at1 D.i1z.symm _ za)))
  refine wpAny_bind (wpAny_seqItems te rfl (wpAny_bind (wpAny_newTuple ?_)))
  show wpAny _ _ (Builtin.SmallTypes.ownedTupleHandOut _ (.ref he.objs.size) >>= _) _ _ _
  refine wpAny_bind (hand_out (Heap.get?_push_of_some _ ze) (by simp) fun hf zf sf => wpAny_pure ⟨_, rfl, ?_⟩)
  have new := Off.new (h := he) { cls := .type "tuple", data := .seq #[x, y] }
  have of := new.then (.one sf)
  have zl : he.objs.size ≠ z := Nat.ne_of_gt (Heap.lt_size ze)
  have at' : ∀ c, c ≠ z → ∀ o, he.get? c = some o → hf.get? c = some o := fun c n => of c (by simpa using n)
  have np : IsPair hf he.objs.size x y := (Off.one sf).at1 zl _ (Heap.get?_push_size _ rfl)
  have ns : hf.objs.size = he.objs.size + 1 := by rw [sf.1, Heap.size_push]
  show Q (.ref he.objs.size) _
  rw [sz] at np ns ⊢
  refine hit x y hf hx hy ⟨⟨_, _, zf, .inr ⟨he.objs.size, rfl⟩⟩, ?_, ⟨x, y, at' _ D.TOz _ te⟩, ?_, ?_⟩ np ns (((o3.then (od.then oe)).then of).to (by simp))
  · exact at' _ D.TIz _ ((o3.then (od.then oe)) TI (by simp [D.TIz, D.TIi1, D.TITO, D.TIi2]) _ ti)
  · exact ib.at fun o q => at' _ D.i1z _ ((oc.then (od.then oe)) i1 (by simp [D.TOi1.symm, D.i12]) o q)
  · exact jd.at fun o q => at' _ D.i2z _ (oe.at1 D.TOi2.symm o q)
/-- a zip's next, wherever its tuple is -/
theorem zip_next {Q : Value → Shared → Prop} (hh : A.handled = none) (D : ZipApart z TI TO i1 i2 l1 l2) (S : Zs s.heap z TI TO i1 i2 l1 l2 k) (p : s.heap.IsList l1 xs) (p' : s.heap.IsList l2 ys)
    (hit : ∀ x y h', xs[k]? = some x → ys[k]? = some y → Zs h' z TI TO i1 i2 l1 l2 (k + 1) → IsPair h' s.heap.objs.size x y → h'.objs.size = s.heap.objs.size + 1 → Off [z, TO, i1, i2] s.heap h' → Q (.ref s.heap.objs.size) { s with heap := h' })
    (miss : ∀ h' x, xs[k]? = none ∨ ys[k]? = none → Off [z, TO, i1, i2] s.heap h' → Stopped h' x → E (.ref x) { s with heap := h' }) :
    wpAny (model P w) A (Builtin.«zip.__next__» ⟨[.ref z], []⟩) (fun fin s' => ∃ v, fin = .done (.ret v) ∧ Q v s') E s := by
  have four : ∀ {h'}, (∀ c o, c ≠ z → c ≠ TO → c ≠ i1 → c ≠ i2 → s.heap.get? c = some o → h'.get? c = some o) → Off [z, TO, i1, i2] s.heap h' := fun q c n o => by
    simp only [List.mem_cons, List.not_mem_nil, or_false, not_or] at n
    exact q c o n.1 n.2.1 n.2.2.1 n.2.2.2
  have ti : ∀ {h'}, Off [z, TO, i1, i2] s.heap h' → IsPair h' TI (.ref i1) (.ref i2) := fun q => q TI (by simp [D.TIz, D.TITO, D.TIi1, D.TIi2]) _ S.ti
  obtain ⟨f0, f, e, c⟩ := S.zo
  obtain ⟨a, b, to⟩ := S.to
  rcases c with ⟨rfl, rfl⟩ | ⟨T, rfl⟩
  · cases hx : xs[k]? with
    | none => exact zip_next_end hh D e S.ti to S.one S.two p p' (.inl hx) fun h' x q => miss h' x (.inl hx) (four q)
    | some x =>
      cases hy : ys[k]? with
      | none => exact zip_next_end hh D e S.ti to S.one S.two p p' (.inr hy) fun h' x q => miss h' x (.inr hy) (four q)
      | some y => exact zip_next_item D e S.ti to S.one S.two p p' hx hy fun h' q1 q2 q3 q4 q5 q6 q7 => hit x y h' hx hy ⟨⟨_, _, q1, .inr ⟨_, rfl⟩⟩, ti (four q7), ⟨_, _, q2⟩, q3, q4⟩ q5 q6 (four q7)
  · cases hT : s.heap.get? T with
    | none => exact zip_gone hh D S p p' e hT hit miss
    | some oT =>
      have off3 : ∀ {h'}, (∀ c o, c ≠ z → c ≠ i1 → c ≠ i2 → s.heap.get? c = some o → h'.get? c = some o) → Off [z, TO, i1, i2] s.heap h' := fun q => four fun c o n1 _ n3 n4 => q c o n1 n3 n4
      cases hx : xs[k]? with
      | none => exact zip_next_end_held hh D e hT S.ti S.one S.two p p' (.inl hx) fun h' x q => miss h' x (.inl hx) (off3 q)
      | some x =>
        cases hy : ys[k]? with
        | none => exact zip_next_end_held hh D e hT S.ti S.one S.two p p' (.inr hy) fun h' x q => miss h' x (.inr hy) (off3 q)
        | some y => exact zip_next_item_held D e hT S.ti S.one S.two p p' hx hy fun h' q1 q3 q4 q5 q6 q7 => hit x y h' hx hy ⟨⟨_, _, q1, .inr ⟨_, rfl⟩⟩, ti (off3 q7), ⟨a, b, q7 TO _ D.TOz D.TOi1 D.TOi2 to⟩, q3, q4⟩ q5 q6 (off3 q7)
/-- .. asked for by another builtin -/
theorem zip_nextOf {Q : Value → Shared → Prop} (hh : A.handled = none) (D : ZipApart z TI TO i1 i2 l1 l2) (S : Zs s.heap z TI TO i1 i2 l1 l2 k) (p : s.heap.IsList l1 xs) (p' : s.heap.IsList l2 ys)
    (hit : ∀ x y h', xs[k]? = some x → ys[k]? = some y → Zs h' z TI TO i1 i2 l1 l2 (k + 1) → IsPair h' s.heap.objs.size x y → h'.objs.size = s.heap.objs.size + 1 → Off [z, TO, i1, i2] s.heap h' → Q (.ref s.heap.objs.size) { s with heap := h' })
    (miss : ∀ h' x, xs[k]? = none ∨ ys[k]? = none → Off [z, TO, i1, i2] s.heap h' → Stopped h' x → E (.ref x) { s with heap := h' }) : wpAny (model P w) A (Builtin.SmallTypes.nextOf (.ref z)) Q E s := by
  obtain ⟨f0, f, e, _⟩ := id S.zo
  have ty : s.TypeIs (.ref z) "zip" := ⟨_, e, rfl⟩
  unfold Builtin.SmallTypes.nextOf
  exact wpAny_bind (wpAny_callSpecial?_slot (name := Str.ofString "__next__") ty F.slot_zip_next (wpAny_call_entry F.slot_zip_next ty F.entry_zip_next
    (zip_next hh D S p p' (fun x y h' a b c d f g => wpAny_pure (hit x y h' a b c d f g)) miss) (F.args_zip_next_1 _)))
/-! ### enumerate's next, over whatever gives or ends -/
theorem en_next {e it : Addr} {c : Int} {old : Value} {Q : Option Value → Shared → Prop} (he : IsEnum s.heap e it c old) (Hit : Value → Heap → Prop) (Miss : Heap → Prop)
    (src : ∀ R F : Value → Shared → Prop, (∀ x h1, Hit x h1 → R x { s with heap := h1 }) → (∀ h1 y, Miss h1 → Stopped h1 y → F (.ref y) { s with heap := h1 }) → wpAny (model P w) A.in1 (Builtin.SmallTypes.nextOf (.ref it)) R F s)
    (kept : ∀ x h1, Hit x h1 → IsEnum h1 e it c old)
    (hit : ∀ x h1 h', Hit x h1 → IsEnumOut h' e it (c + 1) x h1.objs.size → IsPair h' h1.objs.size (.int c s.toks) x → Off [e] h1 h' → Q (some (.ref h1.objs.size)) { s with heap := h', toks := s.toks + 1 })
    (miss : ∀ h1, Miss h1 → Q none { s with heap := h1 }) : wpAny (model P w) A (pyNext (.ref e)) Q E s := by
  have ty : s.TypeIs (.ref e) "enumerate" := ⟨_, he, rfl⟩
  unfold pyNext
  refine wpAny_bind (wpAny_attempt (wpAny_callSpecial?_slot (name := Str.ofString "__next__") ty F.slot_enumerate_next (wpAny_call_entry F.slot_enumerate_next ty F.entry_enumerate_next ?_ (F.args_enumerate_next_1 _))))
  show wpAny _ _ (field _ 2 >>= _) _ _ _
  refine rd he rfl rfl (wpAny_bind (src _ _ (fun x h1 H => ?_) fun h1 y H st => ?_))
  · have e1 := kept x h1 H
    show wpAny _ _ (field _ 3 >>= _) _ _ { s with heap := h1 }
    refine rd e1 rfl rfl ?_
    show wpAny _ _ (field _ 4 >>= _) _ _ { s with heap := h1 }
    refine rd e1 rfl rfl ?_
    show wpAny _ _ (mkInt c >>= _) _ _ { s with heap := h1 }
    refine wpAny_bind (wpAny_mkInt ?_)
    show wpAny _ _ (setField _ 3 (rawInt (c + 1)) >>= _) _ _ { s with heap := h1, toks := s.toks + 1 }
    refine wr e1 (by simp) fun h2 e2 s2 => wr e2 (by simp) fun h3 e3 s3 => wpAny_bind (wpAny_newTuple ?_)
    have e3 : IsEnum h3 e it (c + 1) old := e3
    have z3 : h3.objs.size = h1.objs.size := s3.1.trans s2.1
    have o3 := ((Off.one s2).then (.one s3)).then (.new { cls := .type "tuple", data := .seq #[.int c s.toks, x] })
    have new : IsPair (h3.push { cls := .type "tuple", data := .seq #[.int c s.toks, x] }) h1.objs.size (.int c s.toks) x := by rw [← z3]; exact Heap.get?_push_size _ rfl
    have e4 : IsEnum (h3.push { cls := .type "tuple", data := .seq #[.int c s.toks, x] }) e it (c + 1) old := Heap.get?_push_of_some _ e3
    show wpAny _ _ (Builtin.SmallTypes.ownedTupleIsFree _ >>= _) _ _ { s with heap := h3.push { cls := .type "tuple", data := .seq #[.int c s.toks, x] }, toks := s.toks + 1 }
    rw [z3]
    generalize h3.push { cls := .type "tuple", data := .seq #[.int c s.toks, x] } = h4 at o3 new e4
    refine wpAny_bind (own_free e4 rfl rfl (.inl rfl) ?_)
    rw [if_pos rfl]
    refine wpAny_bind (wpAny_rule (rd e4 rfl rfl (wr e4 (by simp) fun h5 e5 s5 => ?_)))
    have e5 : IsEnum h5 e it (c + 1) x := e5
    refine wpAny_bind (hand_out e5 (by simp) fun h6 e6 s6 => wpAny_bind (wpAny_letGo (wpAny_pure ⟨_, rfl, wpAny_pure ?_⟩)))
    have ne : h1.objs.size ≠ e := Nat.ne_of_gt (Heap.lt_size e1)
    exact hit x h1 h6 H e6 ((Off.one s6).at1 ne _ ((Off.one s5).at1 ne _ new)) ((o3.then ((Off.one s5).then (.one s6))).to (by simp))
  · obtain ⟨o, ho, hc⟩ := st
    exact wpAny_bind (wpAny_isInstance (T := "StopIteration") (b := true) ⟨o, ho, hc⟩ isSubtype_stop (wpAny_pure (miss h1 H)))
/-- enumerate(v): v's iterator, and the new object -/
theorem en_made (v : Value) (I : Heap → Prop) (it : Heap → Value) (nx : Heap → Heap)
    (hi : ∀ (P : Program) (w : World) (A : Around) (E : Value → Shared → Prop) (s : Shared) (Q : Value → Shared → Prop), I s.heap → Q (it s.heap) { s with heap := nx s.heap } → wpAny (model P w) A (pyIter v) Q E s) :
    Meets (Builtin.«enumerate.__new__» ⟨[.type "enumerate", v], []⟩) (fun _ R s => I s.heap ∧
      R (.ok (.ret (.ref (nx s.heap).objs.size))) { s with heap := (nx s.heap).push { cls := .type "enumerate", data := .fields #[.none, .bool false, it s.heap, rawInt 0, .none, .none] } }) :=
  .of_wp fun P w A R s h => by
    obtain ⟨hp, g, d, tk, os⟩ := s
    obtain ⟨hI, h⟩ := h
    have known := sub_enumerate
    have begin_ : ∀ (A : Around) (E : Value → Shared → Prop) (Q : Value → Shared → Prop), Q (it hp) ⟨nx hp, g, d, tk, os⟩ → wpAny (model P w) A (pyIter v) Q E ⟨hp, g, d, tk, os⟩ := fun A E Q => hi P w A E _ Q hI
    wp_walk using begin_
    refine wpAny_stack_any fun st => wpAny_pure ?_
    split
    case h_1 c _ _ _ _ _ => cases (c == Value.type "enumerate") <;> (wp_walk using begin_; exact ⟨_, rfl, h⟩)
    all_goals (wp_walk using begin_; exact ⟨_, rfl, h⟩)
theorem en_call {v : Value} {a : Addr} {Q : Value → Shared → Prop} (I : Heap → Prop) (it : Heap → Value) (nx : Heap → Heap) (i0 : I s.heap) (ia : it s.heap = .ref a) (keeps : Off [] s.heap (nx s.heap))
    (hi : ∀ (P : Program) (w : World) (A : Around) (E : Value → Shared → Prop) (s : Shared) (Q : Value → Shared → Prop), I s.heap → Q (it s.heap) { s with heap := nx s.heap } → wpAny (model P w) A (pyIter v) Q E s)
    (g : ∀ h', IsEnum h' (nx s.heap).objs.size a 0 .none → Off [] (nx s.heap) h' → Off [] s.heap h' → Q (.ref (nx s.heap).objs.size) { s with heap := h' }) : wpAny (model P w) A (call (.type "enumerate") [v]) Q E s := by
  refine callType_new F.called_enumerate (by decide) (F.typeCall_enumerate_1 _) (F.newCall_enumerate_1 _) (F.args_object_init_2 · _) F.entry_enumerate_new (en_made v I it nx hi) ⟨i0, ?_⟩
  rw [ia]
  have new : IsEnum ((nx s.heap).push { cls := .type "enumerate", data := .fields #[.none, .bool false, .ref a, rawInt 0, .none, .none] }) (nx s.heap).objs.size a 0 .none := Heap.get?_push_size _ rfl
  exact ⟨⟨_, new, rfl⟩, g _ new (.new _) (keeps.then (.new _))⟩
end
/-! ### the turns -/
section
variable {X : Cx} {pins : List (Addr × Obj)} {σ : L2.St} {H : Hp} {s : Shared}
/-- an object of ours that stands already is tracked from now on -/
theorem track {U : Addr} {o : HO} (I : Inv X pins σ H s) (f : FpOk X pins H U) (new : ObjOk X.prog X.w (upd H U o) s.heap U o) : Inv X pins σ (upd H U o) s := by
  have off : ∀ {b u}, H b = some u → upd H U o b = some u := fun {b u} e => (upd_ne (ne_of_none e f.1)).trans e
  refine I.step (h' := s.heap) (g' := s.gens) (d' := s.drawn) (t' := s.toks) (ch := [U]) (fun b hb => ?_) (fun _ _ _ _ _ e _ => e) (fun _ o _ _ _ e _ => ⟨o.slots, e⟩) (fun b _ hb _ n => (upd_ne fun z => hb (List.mem_singleton.mpr z)).trans n) (fun _ o _ e => ⟨o, e⟩)
    (fun _ _ => off) (fun _ _ _ => off) (fun _ _ e => ⟨#[], by rw [off e]; simp⟩) (fun _ hm => hm) (fun b u e => ?_) I.bare
  · cases List.mem_singleton.mp hb
    exact ⟨f.2.2.2.1, f.2.1, f.2.2.2.2⟩
  · by_cases hb : b = U
    · subst hb
      cases upd_same.symm.trans e
      exact new
    · exact (I.hok b u ((upd_ne hb).symm.trans e)).stay (fun _ _ _ q => q) (fun _ q => off q) fun _ _ q => off q
end
/-- enumerate(zip(xs, ys)): the lists as they stand at each turn, the items in a new pair, the pair in another -/
def Itez (K : PySem.W.Frag) (a b : Addr) : It :=
  ⟨(Itz K a b).go, fun i H v H' => ∃ T U x y, v = .ref U ∧ H T = none ∧ H U = none ∧ U ≠ T ∧ H' = upd (upd H T (.tup [x, y])) U (.tup [.int (i : Nat), .ref T]) ∧ (∀ xs, SqL K H a xs → xs[i]? = some x) ∧ ∀ ys, SqL K H b ys → ys[i]? = some y, (Itz K a b).stop⟩
theorem turn_enumZip {P : Program} {w : World} {K : PySem.W.Frag} {elts : List Expr} {kk : Nat} {tpos : Pos} {a b e z TI TO i1 i2 : Addr} (D : ZipApart z TI TO i1 i2 a b) (ne : e ∉ [z, TI, TO, i1, i2]) :
    Turn P w K (.Tuple elts kk tpos) (Itez K a b) [e, z, TI, TO, i1, i2] e (fun i h => (∃ old, IsEnum h e z ((i : Nat) : Int) old) ∧ Zs h z TI TO i1 i2 a b i) where
  mem := List.mem_cons_self ..
  obj := fun i h ⟨⟨_, he⟩, S⟩ c hc => (List.mem_cons.mp hc).elim (fun q => q ▸ ⟨_, he, nofun⟩) (S.obj c)
  keep := fun i h h' ⟨⟨old, he⟩, S⟩ q => ⟨⟨old, q e (List.mem_cons_self ..) _ he⟩, S.keep fun c m => q c (List.mem_cons_of_mem _ m)⟩
  item := by
    rintro X rfl rfl rfl calm i pins s σ H E I own ⟨⟨old, he⟩, S⟩ ⟨xs, ys, x, y, qa, qb, hx, hy⟩
    obtain ⟨us, ru, pa, _⟩ := I.list qa
    obtain ⟨vs, rv, pb, _⟩ := I.list qb
    obtain ⟨u, cu, xu⟩ := ru.get hx
    obtain ⟨v, cv, yv⟩ := rv.get hy
    have cu' : us.toArray[i]? = some u := by simpa using cu
    have cv' : vs.toArray[i]? = some v := by simpa using cv
    have n1 : e ∉ [z, TO, i1, i2] := fun q => ne (by
      simp only [List.mem_cons, List.not_mem_nil, or_false] at q ⊢
      rcases q with q | q | q | q <;> simp [q])
    have low : ∀ c ∈ [e, z, TI, TO, i1, i2], c < s.heap.objs.size := fun c m => (List.mem_cons.mp m).elim (fun q => q ▸ Heap.lt_size he) fun q => let ⟨_, q, _⟩ := S.obj c q; Heap.lt_size q
    refine en_next he (fun r h1 => r = .ref s.heap.objs.size ∧ Zs h1 z TI TO i1 i2 a b (i + 1) ∧ IsPair h1 s.heap.objs.size u v ∧ h1.objs.size = s.heap.objs.size + 1 ∧ Off [z, TO, i1, i2] s.heap h1) (fun _ => False)
      (fun R F yes _ => zip_nextOf (I.ok.hd calm) D S pa.isList pb.isList (fun u' v' h1 c c' S1 t n o => ?_) fun h1 r c => ?_) (fun r h1 q => q.2.2.2.2 e n1 _ he) (fun r h1 h2 ⟨er, S1, t, n, o⟩ he2 t2 o2 => ?_) fun _ => False.elim
    · cases cu'.symm.trans c
      cases cv'.symm.trans c'
      exact yes _ h1 ⟨rfl, S1, t, n, o⟩
    · rw [cu', cv'] at c
      rcases c with c | c <;> cases c
    subst er
    refine ⟨_, rfl, wpAny_letOwnedTupleGo_enum (s := { s with heap := h2, toks := s.toks + 1 }) he2 fun h3 he3 q3 => ?_⟩
    rw [n] at t2 ⊢
    have o13 : Off [e] h1 h3 := (o2.then (.one q3)).to (by simp)
    have nT : s.heap.objs.size ≠ e := Nat.ne_of_gt (low e (List.mem_cons_self ..))
    have nU : s.heap.objs.size + 1 ≠ e := Nat.ne_of_gt (Nat.lt_succ_of_lt (low e (List.mem_cons_self ..)))
    have t3 : IsPair h3 s.heap.objs.size u v := o13.at1 nT _ t
    have t4 : IsPair h3 (s.heap.objs.size + 1) (.int i s.toks) (.ref s.heap.objs.size) := (Off.one q3).at1 nU _ t2
    have TU : s.heap.objs.size + 1 ≠ s.heap.objs.size := Nat.succ_ne_self _
    have fT : FpOk X pins H s.heap.objs.size := I.fpOk (Nat.le_refl _) (I.hok.fresh (Nat.le_refl _))
    have fU : FpOk X pins H (s.heap.objs.size + 1) := I.fpOk (Nat.le_succ _) (I.hok.fresh (Nat.le_succ _))
    have o3 : Off [e, z, TI, TO, i1, i2] s.heap h3 := (o.then o13).to fun c m => by
      simp only [List.mem_append, List.mem_cons, List.not_mem_nil, or_false] at m ⊢
      rcases m with (m | m | m | m) | m <;> simp [m]
    have I0 : Inv X pins σ H { s with heap := h3, toks := s.toks + 1 } := I.turnedL (fun c o' n' => o3 c n' o') own
    have I1 := track (o := .tup [x, y]) I0 fT ⟨by show 2 ≤ sizeLine; decide, [u, v], .cons xu (.cons yv .nil), _, t3, rfl, _, rfl⟩
    have I2 := track (o := .tup [.int (i : Nat), .ref s.heap.objs.size]) I1 ⟨(upd_ne TU).trans fU.1, fU.2⟩ ⟨by show 2 ≤ sizeLine; decide, _, .cons ⟨_, rfl⟩ (.cons rfl .nil), _, t4, rfl, _, rfl⟩
    refine ⟨.ref (s.heap.objs.size + 1), _, I2, rfl, ⟨_, _, x, y, rfl, fT.1, fU.1, TU, rfl, fun l hl => ?_, fun l hl => ?_⟩, ⟨⟨_, Int.natCast_succ i ▸ he3⟩, S1.keep fun c m => o13.at1 fun q => ne (q ▸ m)⟩, fun c m => ?_⟩
    · rw [I.list_inj hl qa, hx]
    · rw [I.list_inj hl qb, hy]
    · rw [upd_ne (Nat.ne_of_lt (Nat.lt_succ_of_lt (low c m))), upd_ne (Nat.ne_of_lt (low c m)), (own c m).1]
  done := by
    rintro X rfl rfl rfl calm i pins s σ H E I own ⟨⟨old, he⟩, S⟩ ⟨xs, ys, qa, qb, over⟩
    obtain ⟨us, ru, pa, _⟩ := I.list qa
    obtain ⟨vs, rv, pb, _⟩ := I.list qb
    have c1 := ru.length
    have c2 := rv.length
    refine en_next he (fun _ _ => False) (fun h1 => Off [z, TO, i1, i2] s.heap h1) (fun R F _ no => zip_nextOf (I.ok.hd calm) D S pa.isList pb.isList (fun u v h1 c c' _ _ _ _ => ?_) fun h1 y _ o st => no h1 y o st) (fun _ _ => False.elim) (fun _ _ _ => False.elim) fun h1 o => ⟨rfl, ?_⟩
    · have c := (Array.getElem?_eq_some_iff.mp c).1
      have c' := (Array.getElem?_eq_some_iff.mp c').1
      simp at c c'
      omega
    · exact I.turnedL (t' := s.toks) (fun c o' n => (o.to (L' := [e, z, TI, TO, i1, i2]) (by simp)) c n o') own
  self := fun A i s Q E ⟨⟨_, he⟩, _⟩ h => wpAny_pyIter_enum he h
def iEnumZip (K : PySem.W.Frag) (ta : TA) : TI := fun σ H R => ta σ H fun vs H1 => ∃ a b xs ys, vs = [.ref a, .ref b] ∧ SqL K H1 a xs ∧ SqL K H1 b ys ∧ R (Itez K a b) H1
theorem pi_enumZip {X : Cx} {e e2 : Expr} {ta : TA} {p pos p2 pos2 tpos : Pos} {elts : List Expr} {kk : Nat} (hg : Gl X "enumerate") (hm : X.mg "enumerate" = none) (hg2 : Gl X "zip") (hm2 : X.mg "zip" = none) (ha : PA X [e, e2] ta)
    (hs : starEach [e, e2] X.env = (false, eval e X.env) :: starEach [e2] X.env := by rfl) (hpl : (backTo pos (starEach [e2] X.env)).any (·.1) = false := by rfl)
    (hs1 : starEach [.Call (.Name "zip" p) [e, e2] [] pos] X.env = [(false, eval (.Call (.Name "zip" p) [e, e2] [] pos) X.env)] := by rfl) :
    PI X (.Tuple elts kk tpos) (.Call (.Name "enumerate" p2) [.Call (.Name "zip" p) [e, e2] [] pos] [] pos2) (iEnumZip X.K ta) where
  run pins s σ H R I h := by
    refine Call_ (ld_blt I hg hm PyProof.Rows.boot_enumerate (PyProof.Rows.callWith_type1 ?_ hs1 rfl))
    rw [hs1]
    refine Calls.spliced_cons (Call_ (ld_blt I hg2 hm2 PyProof.Rows.boot_zip (PyProof.Rows.callWith_type1 (thn (ha.run pos pins s σ H _ I h) ?_) hs hpl)))
    rintro us s1 ⟨vs, H1, I1, r1, a, b, xs, ys, rfl, qa, qb, q⟩
    obtain ⟨ua, ub, rfl, ⟨⟩, ⟨⟩⟩ := vals2 r1
    obtain ⟨ia, _, pa, _⟩ := I1.list qa
    obtain ⟨ib, _, pb, _⟩ := I1.list qb
    refine call_zip_2 pa.isList pb.isList fun h2 hz ti to one two n hk => Calls.spliced_nil ?_
    have S : Zs h2 (s1.heap.objs.size + 4) (s1.heap.objs.size + 2) (s1.heap.objs.size + 3) s1.heap.objs.size (s1.heap.objs.size + 1) a b 0 := ⟨⟨_, _, hz, .inl ⟨rfl, rfl⟩⟩, ti, ⟨_, _, to⟩, one, two⟩
    refine en_call (s := { s1 with heap := h2 }) (fun h => ∃ TI TO f0 f, h.get? (s1.heap.objs.size + 4) = some (zob f0 f TI TO)) (fun _ => .ref (s1.heap.objs.size + 4)) id ⟨_, _, _, _, hz⟩ rfl (.all fun _ _ => id) ?_ fun h3 he k3 _ => wpAny_pyIter_enum he ?_
    · rintro P w A E s2 Q ⟨TI, TO, f0, f, z2⟩ g
      have ty : s2.TypeIs (.ref (s1.heap.objs.size + 4)) "zip" := ⟨_, z2, rfl⟩
      exact wpAny_pyIter_slot ty F.slot_zip_iter (wpAny_call_entry F.slot_zip_iter ty F.entry_zip_iter (wpAny_pure ⟨_, rfl, "zip", _, ty, F.slot_zip_next.lookup, g⟩) (F.args_zip_iter_1 _))
    · have n : h2.objs.size = s1.heap.objs.size + 5 := n
      have far : ∀ j, j < 5 → h2.objs.size ≠ s1.heap.objs.size + j := fun j hj => by rw [n]; omega
      have I2 : Inv X pins σ H1 { s1 with heap := h3 } := I1.kept (t' := s1.toks) fun c o z => k3 c List.not_mem_nil o (hk c o z)
      have young : ∀ c ∈ [h2.objs.size, s1.heap.objs.size + 4, s1.heap.objs.size + 2, s1.heap.objs.size + 3, s1.heap.objs.size, s1.heap.objs.size + 1], s1.heap.objs.size ≤ c := by
        simp only [List.forall_mem_cons]
        exact ⟨n ▸ Nat.le_add_right _ 5, Nat.le_add_right _ 4, Nat.le_add_right _ 2, Nat.le_add_right _ 3, Nat.le_refl _, Nat.le_succ _, nofun⟩
      refine ⟨h2.objs.size, _, _, _, H1, rfl, I2, turn_enumZip (PySem.W.ktu_apart s1.heap.objs.size a b pa.lt pb.lt) ?_, ⟨⟨.none, he⟩, S.keep fun c _ => k3 c List.not_mem_nil⟩, fun c m => I1.fpOk (young c m) (I1.hok.fresh (young c m)), q⟩
      simp only [List.mem_cons, List.not_mem_nil, or_false, not_or]
      exact ⟨far 4 (by decide), far 2 (by decide), far 3 (by decide), far 0 (by decide), far 1 (by decide)⟩
theorem walk_enumZip {K : PySem.W.Frag} {a b : Addr} {xs ys : List V} {n : Nat} (hn : n = min xs.length ys.length) : Walk (Itez K a b) n (fun H => SqL K H a xs ∧ SqL K H b ys)
    (fun i H v H' => ∃ T U x y, v = .ref U ∧ H T = none ∧ H U = none ∧ U ≠ T ∧ H' = upd (upd H T (.tup [x, y])) U (.tup [.int (i : Nat), .ref T]) ∧ xs[i]? = some x ∧ ys[i]? = some y) where
  goes := fun i H hi g => ⟨xs, ys, xs[i]'(by omega), ys[i]'(by omega), g.1, g.2, List.getElem?_eq_getElem _, List.getElem?_eq_getElem _⟩
  stops := fun H g => ⟨xs, ys, g.1, g.2, by omega⟩
  yields := fun i H v H' hi g ⟨T, U, x, y, e1, e2, e3, e4, e5, e6, e7⟩ => ⟨T, U, x, y, e1, e2, e3, e4, e5, e6 xs g.1, e7 ys g.2⟩
/-! ### enumerate(a tuple) -/
def IteT (K : PySem.W.Frag) (a : Addr) : It :=
  ⟨(Itt K a).go, fun i H v H' => ∃ T x, v = .ref T ∧ H T = none ∧ H' = upd H T (.tup [.int (i : Nat), x]) ∧ ∀ xs, SqT K H a xs → xs[i]? = some x, (Itt K a).stop⟩
theorem turn_enumT {P : Program} {w : World} {K : PySem.W.Frag} {elts : List Expr} {kk : Nat} {tpos : Pos} (a e it : Addr) (ne : e ≠ it) :
    Turn P w K (.Tuple elts kk tpos) (IteT K a) [e, it] e (fun i h => (∃ old, IsEnum h e it ((i : Nat) : Int) old) ∧ h.IsTupleIter it a i) where
  mem := List.mem_cons_self ..
  obj := fun i h ⟨⟨_, he⟩, o, ho, _, d⟩ => by
    simp only [List.forall_mem_cons]
    exact ⟨⟨_, he, nofun⟩, ⟨o, ho, fun v => by rw [d]; nofun⟩, nofun⟩
  keep := fun i h h' ⟨⟨old, he⟩, st⟩ q => by
    simp only [List.forall_mem_cons] at q
    exact ⟨⟨old, q.1 _ he⟩, st.at q.2.1⟩
  item := by
    rintro X rfl rfl rfl calm i pins s σ H E I own ⟨⟨old, he⟩, st⟩ ⟨xs, x, qa, hx⟩
    obtain ⟨us, ru, pa, _⟩ := I.tuple qa
    obtain ⟨u, cu, xu⟩ := ru.get hx
    have le : e < s.heap.objs.size := Heap.lt_size he
    have li : it < s.heap.objs.size := let ⟨_, q, _⟩ := st; Heap.lt_size q
    refine en_next he (fun r h1 => r = u ∧ h1.IsTupleIter it a (i + 1) ∧ Heap.SameBut it s.heap h1) (fun _ => False) (fun R F yes _ => RZ.nextOf_tuple_item (x := u) st pa (by simpa using cu) fun h1 st1 o => yes u h1 ⟨rfl, st1, o⟩)
      (fun r h1 q => (Off.one q.2.2).at1 ne _ he) (fun r h1 h2 ⟨er, st1, o⟩ he2 t2 o2 => ?_) fun _ => False.elim
    subst er
    refine ⟨_, rfl, wpAny_letOwnedTupleGo_enum (s := { s with heap := h2, toks := s.toks + 1 }) he2 fun h3 he3 q3 => ?_⟩
    rw [o.1] at t2 ⊢
    have t3 : IsPair h3 s.heap.objs.size (.int i s.toks) r := (Off.one q3).at1 (Nat.ne_of_gt le) _ t2
    have o3 : Off [e, it] s.heap h3 := (((Off.one o).then o2).then (.one q3)).to fun c m => by
      simp only [List.mem_append, List.mem_cons, List.not_mem_nil, or_false] at m ⊢
      rcases m with (m | m) | m <;> simp [m]
    have I1 : Inv X pins σ _ { s with heap := h3, toks := s.toks + 1 } := I.turnedNew (ob := .tup [.int (i : Nat), x]) (fun c o' n => o3 c n o') own (Nat.le_refl _) ⟨by show 2 ≤ sizeLine; decide, _, .cons ⟨_, rfl⟩ (.cons xu .nil), _, t3, rfl, _, rfl⟩
    refine ⟨.ref s.heap.objs.size, _, I1, rfl, ⟨_, x, rfl, I.hok.fresh (Nat.le_refl _), rfl, fun l hl => ?_⟩, ⟨⟨_, Int.natCast_succ i ▸ he3⟩, st1.at fun o' z => (Off.one q3).at1 ne.symm _ (o2.at1 ne.symm _ z)⟩, fun c m => ?_⟩
    · rw [I.tuple_inj hl qa, hx]
    · have lc : c < s.heap.objs.size := by
        simp only [List.mem_cons, List.not_mem_nil, or_false] at m
        rcases m with rfl | rfl <;> assumption
      rw [upd_ne (Nat.ne_of_lt lc), (own c m).1]
  done := by
    rintro X rfl rfl rfl calm i pins s σ H E I own ⟨⟨old, he⟩, st⟩ ⟨xs, qa, over⟩
    obtain ⟨us, ru, pa, _⟩ := I.tuple qa
    have c := ru.length
    refine en_next he (fun _ _ => False) (fun h1 => Off [it] s.heap h1) (fun R F _ no => RZ.nextOf_tuple_end (I.ok.hd calm) st pa (by simp; omega) fun h1 y o q => no h1 y (.ext o) q) (fun _ _ => False.elim) (fun _ _ _ => False.elim) fun h1 o => ⟨rfl, ?_⟩
    exact I.turnedL (t' := s.toks) (fun c o' n => (o.to (L' := [e, it]) (by simp)) c n o') own
  self := fun A i s Q E ⟨⟨_, he⟩, _⟩ h => wpAny_pyIter_enum he h
def iEnumT (K : PySem.W.Frag) (ta : TA) : TI := fun σ H R => ta σ H fun vs H1 => ∃ a xs, vs = [.ref a] ∧ SqT K H1 a xs ∧ R (IteT K a) H1
theorem pi_enumT {X : Cx} {e : Expr} {ta : TA} {p pos tpos : Pos} {elts : List Expr} {kk : Nat} (hg : Gl X "enumerate") (hm : X.mg "enumerate" = none) (ha : PA X [e] ta) (hs : starEach [e] X.env = [(false, eval e X.env)] := by rfl) :
    PI X (.Tuple elts kk tpos) (.Call (.Name "enumerate" p) [e] [] pos) (iEnumT X.K ta) where
  run pins s σ H R I h := by
    refine Call_ (ld_blt I hg hm PyProof.Rows.boot_enumerate (PyProof.Rows.callWith_type1 (thn (ha.run pos pins s σ H _ I h) ?_) hs rfl))
    rintro us s1 ⟨vs, H1, I1, r1, a, xs, rfl, qa, q⟩
    obtain ⟨ua, rfl, ⟨⟩⟩ := vals1 r1
    obtain ⟨its, _, pa, _⟩ := I1.tuple qa
    have B := begins_tuple a its.toArray
    refine en_call (fun h => h.IsTuple a its.toArray) (fun h => .ref h.objs.size) (fun h => h.push { cls := .type "tuple_iterator", data := .fields #[.ref a, .int 0 0] }) pa rfl (.new _) B.iter fun h2 he k2 k => wpAny_pyIter_enum he ?_
    have st : h2.IsTupleIter s1.heap.objs.size a 0 := ⟨_, k2 _ List.not_mem_nil _ (Heap.get?_push_size _ rfl), rfl, rfl⟩
    rw [Heap.size_push] at he ⊢
    have young : ∀ c ∈ [s1.heap.objs.size + 1, s1.heap.objs.size], s1.heap.objs.size ≤ c := by
      simp only [List.forall_mem_cons]
      exact ⟨Nat.le_succ _, Nat.le_refl _, nofun⟩
    exact ⟨_, _, _, _, H1, rfl, I1.kept (t' := s1.toks) fun c o z => k c List.not_mem_nil o z, turn_enumT a (s1.heap.objs.size + 1) s1.heap.objs.size (Nat.succ_ne_self _), ⟨⟨.none, he⟩, st⟩, fun c m => I1.fpOk (young c m) (I1.hok.fresh (young c m)), q⟩
theorem walk_enumT {K : PySem.W.Frag} {a : Addr} {xs : List V} : Walk (IteT K a) xs.length (fun H => SqT K H a xs) (YPair (fun i => some (.int (i : Nat))) (fun i => xs[i]?)) where
  goes := fun i H hi g => ⟨xs, xs[i], g, List.getElem?_eq_getElem _⟩
  stops := fun H g => ⟨xs, g, Nat.le_refl _⟩
  yields := fun i H v H' hi g ⟨T, x, e1, e2, e3, e4⟩ => ⟨T, _, x, e1, e2, e3, rfl, e4 xs g⟩
end K86
set_option Elab.async false
set_option linter.all false
set_option maxRecDepth 100000
/-! The text's defs, as they stand behind the top; a fraction on the heap. -/
namespace K86
open PySem PySem.Spec PyProof.Rows L2
def topS (i : Nat) : Stmt := PySem.Challenge.pw_guestseats_k86_whole_papers_of_ranges.main.body.getD i (.Pass ⟨0, 0, 0, 0⟩)
/-- where the module's name x leads to; the function there -/
def fAt (mg : Str → Option Value) (x : Str) : Addr := match mg x with
  | some (.ref a) => a
  | _ => 0
def fdAt (K : PySem.W.Frag) (mg : Str → Option Value) (x : Str) : FuncData := match K.lookup (fAt mg x) with
  | some ⟨_, _, .func fd, _⟩ => fd
  | _ => PySem.W.fnOf "" "" (defArgs (.Pass ⟨0, 0, 0, 0⟩)) [] (defScope (.Pass ⟨0, 0, 0, 0⟩)) .none .none .none .none none .none .none
/-- the def x, the i-th statement of the text, with the parameters ps -/
structure Df (K : PySem.W.Frag) (mg : Str → Option Value) (x : Str) (i : Nat) (ps : List Str) : Prop where
  F : Fun K x x (topS i) (fAt mg x) (fdAt K mg x)
  b : Binds K (fdAt K mg x) ps []
  m : mg x = some (.ref (fAt mg x))
theorem df_mk {K : PySem.W.Frag} {mg : Str → Option Value} {x : Str} {i : Nat} {ps : List Str} {f : Addr} {oc : Value} {od an : Option Addr} {osl : Array (Option Value)} {kV doc pm cdv ct : Value} (hm : mg x = some (.ref f))
    (l : K.lookup f = some ⟨oc, od, .func (PySem.W.fnOf x x (defArgs (topS i)) (defBody (topS i)) (defScope (topS i)) .none kV doc pm an cdv ct), osl⟩) (c : PySem.W.codeIn K cdv x = true) (k : PySem.W.keepIn K (.ref f) = true)
    (h : ∀ (kV doc pm : Value) (an : Option Addr) (cdv ct : Value) (us : List Value), us.length = ps.length → bindArgs (PySem.W.fnOf x x (defArgs (topS i)) (defBody (topS i)) (defScope (topS i)) .none kV doc pm an cdv ct) ⟨us, []⟩ = pure (ps.zip us)) : Df K mg x i ps := by
  have e1 : fAt mg x = f := by unfold fAt; rw [hm]
  have e2 : fdAt K mg x = PySem.W.fnOf x x (defArgs (topS i)) (defBody (topS i)) (defScope (topS i)) .none kV doc pm an cdv ct := by unfold fdAt; rw [e1, l]
  have F := fun_mk (st := topS i) (qual := x) (x := x) l c k
  refine ⟨?_, ?_, ?_⟩
  · rw [e1, e2]; exact F
  · rw [e2]; exact F.binds h
  · rw [e1]; exact hm

/-- all by name: nothing ahead -/
def allK {α : Type} : List α → List α → List α
  | [], ws => ws
  | _ :: _, _ => []
theorem kb_of {K : PySem.W.Frag} {fd : FuncData} {ps : List Str} (p0 : 0 < ps.length) (h : ∀ ws : List Value, ws.length = ps.length → bindArgs fd ⟨[], ps.zip ws⟩ = pure (ps.zip ws)) : KBinds K fd ps ps allK allK := by
  refine ⟨fun s us ws _ hl => ?_, fun {vs us zs ws} r rz => ?_⟩
  · match us, hl with
    | [], hl => exact .of_eq (h ws hl)
    | _ :: _, hl => exact absurd hl (by show 0 ≠ ps.length; omega)
  · match vs, us, r with
    | [], [], _ => exact rz
    | _ :: _, _ :: _, _ => exact .nil
structure Tx (K : PySem.W.Frag) (mg : Str → Option Value) : Prop where
  d_is_whole : Df K mg "is_whole" 8 ["value"]
  d_is_between : Df K mg "is_between" 9 ["value", "low", "high"]
  d_are_wholes : Df K mg "are_wholes" 10 ["value", "many"]
  d_divisor_of : Df K mg "divisor_of" 11 ["numbers"]
  d_lowest : Df K mg "lowest" 12 ["numbers"]
  d_sign_of : Df K mg "sign_of" 13 ["number"]
  d_is_ratio : Df K mg "is_ratio" 17 ["value"]
  d_ratio : Df K mg "ratio" 18 ["top", "low"]
  d_plus : Df K mg "plus" 19 ["one", "two"]
  d_minus : Df K mg "minus" 20 ["one", "two"]
  d_times : Df K mg "times" 21 ["one", "two"]
  d_over : Df K mg "over" 22 ["one", "two"]
  d_power : Df K mg "power" 23 ["one", "many"]
  d_total_of : Df K mg "total_of" 24 ["fractions"]
  d_is_below : Df K mg "is_below" 25 ["one", "two"]
  d_is_amount : Df K mg "is_amount" 27 ["value"]
  d_check_strength : Df K mg "check_strength" 28 ["value"]
  d_opposite_of : Df K mg "opposite_of" 30 ["number"]
  d_exchange : Df K mg "exchange" 31 ["rows", "place", "column"]
  d_wrong_name : Df K mg "wrong_name" 32 ["rows", "names", "others"]
  d_least_with : Df K mg "least_with" 33 ["names", "numbers", "sign"]
  d_crossed : Df K mg "crossed" 34 ["rows", "names", "others"]
  d_first_row : Df K mg "first_row" 35 ["numbers"]
  d_named_numbers : Df K mg "named_numbers" 36 ["names", "numbers", "start", "many"]
  d_best_shares : Df K mg "best_shares" 37 ["inequalities", "rewards"]
  d_check_look_seats : Df K mg "check_look_seats" 41 ["value"]
  d_is_look_for : Df K mg "is_look_for" 42 ["seats", "value"]
  d_wrong_look : Df K mg "wrong_look" 43 ["seats", "value"]
  d_check_looks : Df K mg "check_looks" 44 ["seats", "value"]
  d_inequalities_of : Df K mg "inequalities_of" 45 ["seats", "looks", "strength"]
  d_paired : Df K mg "paired" 46 ["weights"]
  d_shares_back : Df K mg "shares_back" 47 ["shares", "strength"]
  d_end_of : Df K mg "end_of" 48 ["seats", "looks", "strength", "sign"]
  d_both_ends : Df K mg "both_ends" 49 ["seats", "looks", "strength"]
  d_fill_range : Df K mg "fill_range" 50 ["seats", "looks", "strength"]
  d_range_shares : Df K mg "range_shares" 51 ["seats", "looks", "strength"]
  d_range_weights : Df K mg "range_weights" 52 ["seats", "looks", "strength"]
  d_number_range : Df K mg "number_range" 53 ["seats", "looks", "strength", "number"]
  d__law_store : Df K mg "_law_store" 55 ["_law_script", "_law_turn"]
  d__law_take : Df K mg "_law_take" 56 ["_law_store_here", "_law_top"]
  d__law_pick : Df K mg "_law_pick" 57 ["_law_store_here", "_law_some"]
  d__law_gcd : Df K mg "_law_gcd" 58 ["_law_one", "_law_two"]
  d__law_ratio : Df K mg "_law_ratio" 59 ["_law_n", "_law_m"]
  d__law_plus : Df K mg "_law_plus" 60 ["_law_one", "_law_two"]
  d__law_less : Df K mg "_law_less" 61 ["_law_one", "_law_two"]
  d__law_prod : Df K mg "_law_prod" 62 ["_law_one", "_law_two"]
  d__law_per : Df K mg "_law_per" 63 ["_law_one", "_law_two"]
  d__law_cmp : Df K mg "_law_cmp" 64 ["_law_one", "_law_two"]
  d__law_all : Df K mg "_law_all" 65 ["_law_some"]
  d__law_pow : Df K mg "_law_pow" 66 ["_law_one", "_law_times"]
  d__law_sum_of : Df K mg "_law_sum_of" 67 ["_law_some", "_law_weights2"]
  d__law_mild : Df K mg "_law_mild" 68 ["_law_store_here"]
  d__law_part : Df K mg "_law_part" 69 ["_law_store_here"]
  d__law_chances : Df K mg "_law_chances" 70 ["_law_store_here", "_law_count"]
  d__law_seen : Df K mg "_law_seen" 71 ["_law_chances_here", "_law_x"]
  d__law_view : Df K mg "_law_view" 72 ["_law_store_here", "_law_count", "_law_chances_here"]
  d__law_views : Df K mg "_law_views" 73 ["_law_store_here", "_law_count", "_law_most2"]
  d__law_is_kept : Df K mg "_law_is_kept" 74 ["_law_view_here", "_law_chances_here"]
  d__law_is_whole : Df K mg "_law_is_whole" 75 ["_law_each"]
  d__law_are_parts : Df K mg "_law_are_parts" 76 ["_law_some", "_law_count"]
  d__law_are_fit : Df K mg "_law_are_fit" 77 ["_law_some", "_law_count", "_law_views2"]
  d__law_pulls : Df K mg "_law_pulls" 78 ["_law_some", "_law_views2", "_law_x", "_law_count"]
  d__law_part_at : Df K mg "_law_part_at" 79 ["_law_chances_here", "_law_x", "_law_k"]
  d__law_right : Df K mg "_law_right" 80 ["_law_store_here"]
  d_law : Df K mg "law" 81 ["_law_script"]
  n_isinstance : mg "isinstance" = none
  n_len : mg "len" = none
  n_all : mg "all" = none
  n_tuple : mg "tuple" = none
  n_min : mg "min" = none
  n_enumerate : mg "enumerate" = none
  n_zip : mg "zip" = none
  n_range : mg "range" = none
  n_list : mg "list" = none
  n_int : mg "int" = none
  n_bool : mg "bool" = none
  n_sum : mg "sum" = none
  n_abs : mg "abs" = none
  n_divmod : mg "divmod" = none
  n_repr : mg "repr" = none
  m_gcd : mg "gcd" = some (.builtin "math.gcd")
  mMOST_LOOKS : ∃ t, mg "MOST_LOOKS" = some (.int 4 t)
  mMOST_OF_LOOKS : ∃ t, mg "MOST_OF_LOOKS" = some (.int 5 t)
  mZERO : mg "ZERO" = some (.ref (fAt mg "ZERO"))
  mONE : mg "ONE" = some (.ref (fAt mg "ONE"))
  tZERO : ∀ H, SqT K H (fAt mg "ZERO") [.int 0, .int 1]
  tONE : ∀ H, SqT K H (fAt mg "ONE") [.int 1, .int 1]
  k_range_shares : KBinds K (fdAt K mg "range_shares") ["seats", "looks", "strength"] ["seats", "looks", "strength"] allK allK
  k_range_weights : KBinds K (fdAt K mg "range_weights") ["seats", "looks", "strength"] ["seats", "looks", "strength"] allK allK
section
variable {X : Cx}
/-- a call of a def of the text -/
theorem pcall {nm : Str} {i k j : Nat} {ps : List Str} {sp : Sp} {e : Expr} {es : List Expr} {t : TA} {p pos : Pos} (G : FnOk X.prog X.w X.K X.mg X.base CX0 k (fAt X.mg nm) (fdAt X.K X.mg nm) ps sp) (D : Df X.K X.mg nm i ps) (hr : Room j X.A) (hkj : k ≤ j) (hg : Gl X nm)
    (ha : PA X (e :: es) t) (hdb : (nm == ("__debug__" : Str)) = false := by decide) (he : starEach (e :: es) X.env = (false, eval e X.env) :: starEach es X.env := by rfl) (hpl : (backTo pos (starEach es X.env)).any (·.1) = false := by rfl) :
    PE X (.Call (.Name nm p) (e :: es) [] pos) (tCall sp [] E0 t) :=
  pe_call G (hr.mono hkj) hg D.m D.F.kp D.b .nil pass0 ha hdb he hpl
/-- .. all of whose arguments are named -/
theorem kcall {nm : Str} {i k j : Nat} {ps ks : List Str} {sp : Sp} {kws : List Keyword} {tk : TA} {p pos : Pos} (G : FnOk X.prog X.w X.K X.mg X.base CX0 k (fAt X.mg nm) (fdAt X.K X.mg nm) ps sp) (D : Df X.K X.mg nm i ps) (hr : Room j X.A) (hkj : k ≤ j) (hg : Gl X nm)
    (hb : KBinds X.K (fdAt X.K X.mg nm) ps ks allK allK) (hkw : PK X kws tk) (hall : (backToKw pos (keywordEach kws X.env)).all (·.1.isSome) = true := by rfl) (hks : (backToKw pos (keywordEach kws X.env)).filterMap (·.1) = ks := by rfl)
    (hdb : (nm == ("__debug__" : Str)) = false := by decide) (hpl : ((backTo pos (starEach [] X.env)).any (·.1) || (backToKw pos (keywordEach kws X.env)).any (·.1.isNone)) = false := by rfl) :
    PE X (.Call (.Name nm p) [] kws pos) (tCallK sp (fun _ zs => zs) E0 tNil tk) := by
  refine ⟨fun pins s σ H Q I h => ?_⟩
  refine wpAny_Call_Name_kw (ld_glob I hg D.m ?_ hdb)
  refine PySem.W.callWith_KW0 (h₀ := X.base) I.ok.mod.kin D.F.kp hall ?_ hpl
  have h : tk σ H fun zs H2 => sp zs H2 Q E0 := h
  refine thn (hkw.run pos pins s σ H _ I h) fun ws s2 ⟨zs, H2, I2, rz, q2⟩ => ⟨I2.kIn, ?_⟩
  rw [hks]
  exact run_fnk (us := []) (vs := []) (G.mono hkj) hr hb pass0 I2 .nil rz q2
end

/-! ### what a fraction is on the heap -/
abbrev VP := V → Hp → Prop
theorem sqt_mono {K : PySem.W.Frag} {H H' : Hp} {a : Addr} {xs : List V} (e : Same H H') (h : SqT K H a xs) : SqT K H' a xs := Evl.ex_t e h
theorem sql_mono {K : PySem.W.Frag} {H H' : Hp} {a : Addr} {xs : List V} (e : Same H H') (h : SqL K H a xs) : SqL K H' a xs := Evl.ex_l e h
def Fr (K : PySem.W.Frag) (r : Rat) : VP := fun v H => ∃ a, v = .ref a ∧ SqT K H a [.int r.num, .int (r.den : Int)]
theorem Fr.mono {K : PySem.W.Frag} {r : Rat} {v : V} {H H' : Hp} (h : Fr K r v H) (e : Same H H') : Fr K r v H' := let ⟨a, h1, h2⟩ := h; ⟨a, h1, sqt_mono e h2⟩
/-- a list, a tuple of n things -/
def ArL (n : Nat) (P : Nat → VP) (a : Addr) (H : Hp) : Prop := ∃ vs : List V, H a = some (.lst vs) ∧ vs.length = n ∧ ∀ i, i < n → ∃ v, vs[i]? = some v ∧ P i v H
def ArT (K : PySem.W.Frag) (n : Nat) (P : Nat → VP) (a : Addr) (H : Hp) : Prop := ∃ vs : List V, SqT K H a vs ∧ vs.length = n ∧ ∀ i, i < n → ∃ v, vs[i]? = some v ∧ P i v H
/-- what stays where the heap grows -/
def Stay (P : VP) : Prop := ∀ v H H', Same H H' → P v H → P v H'
theorem fr_stay {K : PySem.W.Frag} {r : Rat} : Stay (Fr K r) := fun _ _ _ e h => h.mono e
theorem ArL.mono {n : Nat} {P : Nat → VP} {a : Addr} {H H' : Hp} (h : ArL n P a H) (e : Same H H') (st : ∀ i, i < n → Stay (P i)) : ArL n P a H' :=
  let ⟨vs, h1, h2, h3⟩ := h; ⟨vs, e _ _ h1, h2, fun i hi => let ⟨v, e1, e2⟩ := h3 i hi; ⟨v, e1, st i hi _ _ _ e e2⟩⟩
theorem ArT.mono {K : PySem.W.Frag} {n : Nat} {P : Nat → VP} {a : Addr} {H H' : Hp} (h : ArT K n P a H) (e : Same H H') (st : ∀ i, i < n → Stay (P i)) : ArT K n P a H' :=
  let ⟨vs, h1, h2, h3⟩ := h; ⟨vs, sqt_mono e h1, h2, fun i hi => let ⟨v, e1, e2⟩ := h3 i hi; ⟨v, e1, st i hi _ _ _ e e2⟩⟩
/-- what a call of a pure def gives: something new or old of which P holds, all that was tracked as it was -/
def Gives (P : VP) (H : Hp) (Q : VK) : Prop := ∀ v H', Same H H' → P v H' → Q v H'
theorem same_new {H : Hp} {p : Addr} {o : HO} (h : H p = none) : Same H (upd H p o) := Evl.Ex.new h
/-- a new object of ours may change -/
theorem same_mut {H H' : Hp} {p : Addr} {o : HO} (e : Same H H') (h : H p = none) : Same H (upd H' p o) := Evl.Ex.mut e h
theorem free_back {H H' : Hp} {p : Addr} (e : Same H H') (h : H' p = none) : H p = none := Evl.fresh_back e h
theorem at0 {α : Type} {a : α} {l : List α} : atI (a :: l) 0 = some a := atI_nat (j := 0) rfl
theorem at1 {α : Type} {a b : α} {l : List α} : atI (a :: b :: l) 1 = some b := atI_nat (j := 1) rfl
theorem at2 {α : Type} {a b c : α} {l : List α} : atI (a :: b :: c :: l) 2 = some c := atI_nat (j := 2) rfl
theorem line_of {n : Nat} (h : n ≤ 1000) : n ≤ sizeLine := Nat.le_trans h (by decide)
/-- a fraction below 2 ^ b -/
def Bd (b : Nat) (r : Rat) : Prop := r.num.natAbs < 2 ^ b ∧ r.den < 2 ^ b
/-- all but what stands at D stays -/
def Keep (D : Addr) (H H' : Hp) : Prop := ∀ b o, b ≠ D → H b = some o → H' b = some o
/-- what does not lean on the list at D -/
def StayD (D : Addr) (P : VP) : Prop := ∀ v H H' xs, H D = some (.lst xs) → Keep D H H' → P v H → P v H'
theorem keep_upd {H : Hp} {D : Addr} {o : HO} : Keep D H (upd H D o) := fun b u hb e => by rw [upd_ne hb]; exact e
theorem Same.keep {D : Addr} {H H' : Hp} (e : Same H H') : Keep D H H' := fun b o _ h => e b o h
theorem Keep.trans {D : Addr} {H H1 H2 : Hp} (a : Keep D H H1) (b : Keep D H1 H2) : Keep D H H2 := fun c o hc h => b c o hc (a c o hc h)
theorem sqt_keep {K : PySem.W.Frag} {H H' : Hp} {D a : Addr} {xs ys : List V} (hD : H D = some (.lst xs)) (e : Keep D H H') (h : SqT K H a ys) : SqT K H' a ys := by
  rcases h with (h | ⟨o, h⟩) | h
  · exact .inl (.inl (e _ _ (ne_of h hD (by intro z; cases z)) h))
  · exact .inl (.inr ⟨o, e _ _ (ne_of h hD (by intro z; cases z)) h⟩)
  · exact .inr h
theorem fr_stayD {K : PySem.W.Frag} {r : Rat} {D : Addr} : StayD D (Fr K r) := fun _ _ _ _ hD e ⟨a, h1, h2⟩ => ⟨a, h1, sqt_keep hD e h2⟩
/-- what the rule of a comprehension wants: that J's walk, item by item, fills the new list at D, and what holds then -/
abbrev Lists (J : It) (g : TG) (tt : TT) (te : TE) (vs : List Nat) (σ : L2.St) (H1 : Hp) (D : Addr) (Qd : Hp → Prop) : Prop :=
  ∃ B : Nat → Nat → Hp → Prop, (∃ m, B 0 m (upd H1 D (.lst []))) ∧ ∀ k m H0, B k m H0 →
    (J.stop k H0 ∧ Qd H0) ∨ (J.go k H0 ∧ ∃ N : Hp → Prop, (∀ H', N H' → ∃ m', m' < m ∧ B (k + 1) m' H') ∧
      ∀ v H', J.yld k H0 v H' → g v (wipe σ vs) H' fun τ H2 => wipe τ vs = wipe σ vs ∧
        tt τ H2 fun b H3 => if b = true then te τ H3 (fun y H4 => ∃ us, H4 D = some (.lst us) ∧ us.length < sizeLine ∧ N (upd H4 D (.lst (us ++ [y])))) else N H3)
/-- a comprehension without a test: an item a turn, what stood stands -/
theorem lc_all {J : It} {n : Nat} {G : Hp → Prop} {Y : Nat → Hp → V → Hp → Prop} (w : Walk J n G Y) (hn : n ≤ 1000) {g : TG} {te : TE} {vs : List Nat} {σ : L2.St} {H1 : Hp} {D : Addr} {Qd : Hp → Prop} (hD : H1 D = none) (P : Nat → VP) (st : ∀ i, i < n → Stay (P i)) (stD : ∀ i, i < n → StayD D (P i))
    (hG : ∀ H, Same H1 H → G H)
    (turn : ∀ i x H H' (R : VK), i < n → Same H1 H → (∃ acc, H D = some (.lst acc)) → Y i H x H' → (∀ y H3, Same H H3 → P i y H3 → R y H3) → g x (wipe σ vs) H' fun σ2 H2 => wipe σ2 vs = wipe σ vs ∧ te σ2 H2 R)
    (done : ∀ H, Same H1 H → ArL n P D H → Qd H) :
    Lists J g tYes te vs σ H1 D Qd := by
  refine lc_it w (fun i H => i ≤ n ∧ Same H1 H ∧ ArL i P D H) ⟨Nat.zero_le _, same_new hD, [], upd_same, rfl, fun i hi => by omega⟩ (fun i H _ p => hG H p.2.1) (fun i x H H' hi p hy => ?_) fun H p => done H p.2.1 p.2.2
  obtain ⟨p0, p1, acc, p2, p3, p4⟩ := p
  refine turn i x H H' _ hi p1 ⟨acc, p2⟩ hy fun y H4 s1 s2 => ⟨acc, s1 _ _ p2, by rw [p3]; exact Nat.lt_of_lt_of_le (by omega : i < 1000) (by decide), by omega, same_mut (p1.trans s1) hD, acc ++ [y], upd_same, by rw [List.length_append, p3]; rfl, fun j hj => ?_⟩
  by_cases e : j < i
  · obtain ⟨v, e1, e2⟩ := p4 j e
    exact ⟨v, by rw [List.getElem?_append_left (by omega)]; exact e1, stD j (by omega) v H4 _ acc (s1 _ _ p2) keep_upd (st j (by omega) v H H4 s1 e2)⟩
  · obtain rfl : j = i := by omega
    exact ⟨y, by rw [List.getElem?_append_right (by omega), p3, Nat.sub_self]; rfl, stD j hi y H4 _ acc (s1 _ _ p2) keep_upd s2⟩
end K86
set_option Elab.async false
set_option linter.all false
set_option maxRecDepth 100000
set_option maxHeartbeats 4000000
/-! The program's fractions. -/
namespace K86
open PySem PySem.Spec PyProof.Rows L2
/-! ### a reduced pair is a rational's -/
theorem num_den {n m : Int} (hm : 0 < m) : ((n : Rat) / (m : Rat)).num = n / ((Nat.gcd n.natAbs m.natAbs : Nat) : Int) ∧ ((((n : Rat) / (m : Rat)).den : Nat) : Int) = m / ((Nat.gcd n.natAbs m.natAbs : Nat) : Int) := by
  obtain ⟨k, rfl⟩ := Int.eq_ofNat_of_zero_le (Int.le_of_lt hm)
  have hk : k ≠ 0 := by omega
  rw [← Rat.divInt_eq_div, Rat.divInt_ofNat, ← Rat.normalize_eq_mkRat hk, Rat.normalize_eq hk]
  refine ⟨?_, ?_⟩
  · show n / _ = _
    rw [Int.natAbs_natCast]
  · show ((k / n.natAbs.gcd k : Nat) : Int) = _
    rw [Int.natAbs_natCast, Int.natCast_ediv]
theorem gcd_pos {n m : Int} (hm : m ≠ 0) : 0 < Nat.gcd n.natAbs m.natAbs := Nat.gcd_pos_of_pos_right _ (by omega)
theorem log2_lt {a b : Nat} (hb : 0 < b) (h : a < 2 ^ b) : a.log2 < b := PySem.Flt.log2_lt_of hb h
theorem gcd_div {n m : Int} (hm : m ≠ 0) (h : m.natAbs < 2 ^ 9000) (x : Int) : CDivW x ((Nat.gcd n.natAbs m.natAbs : Nat) : Int) := by
  have h0 := gcd_pos (n := n) hm
  refine ⟨by omega, ?_⟩
  rw [Int.natAbs_natCast]
  refine log2_lt (by decide) (Nat.lt_of_le_of_lt ?_ h)
  exact Nat.le_of_dvd (by omega) (Nat.gcd_dvd_right _ _)
section
variable {P : Program} {w : World} {K : PySem.W.Frag} {mg : Str → Option Value} {base : Heap}
abbrev s_divisor_of : Stmt := topS 11
abbrev n_divisor_of : List Str := ["numbers", "found", "number"]
theorem sc_divisor_of : FnScope n_divisor_of ["numbers"] (defScope s_divisor_of) := ⟨rfl, rfl, rfl, by decide +kernel, rfl, by decide +kernel, by decide +kernel⟩
abbrev s_lowest : Stmt := topS 12
abbrev n_lowest : List Str := ["numbers", "part", "number"]
theorem sc_lowest : FnScope n_lowest ["numbers"] (defScope s_lowest) := ⟨rfl, rfl, rfl, by decide +kernel, rfl, by decide +kernel, by decide +kernel⟩
abbrev s_ratio : Stmt := topS 18
abbrev n_ratio : List Str := ["top", "low"]
theorem sc_ratio : FnScope n_ratio ["top", "low"] (defScope s_ratio) := ⟨rfl, rfl, rfl, by decide +kernel, rfl, by decide +kernel, by decide +kernel⟩
def sp_divisor_of (K : PySem.W.Frag) : Sp := fun vs H Q _ => ∃ (a : Addr) (n m : Int), vs = [.ref a] ∧ SqT K H a [.int n, .int m] ∧ Q (.int ((Nat.gcd n.natAbs m.natAbs : Nat) : Int)) H
theorem ok_divisor_of (T : Tx K mg) : FnOk P w K mg base CX0 1 (fAt mg "divisor_of") (fdAt K mg "divisor_of") ["numbers"] (sp_divisor_of K) := by
  refine T.d_divisor_of.F.ok sc_divisor_of (fun vs H Q E h => ?_) (fun cdv A outer s H vs Q E hr h => ?_)
  · obtain ⟨a, n, m, rfl, _⟩ := h
    rfl
  · obtain ⟨a, n, m, rfl, hT, q⟩ := h
    refine ⟨_, (pss_cons (ps_set (i := 1) sc_divisor_of.nd rfl (Or.inl rfl) (pe_int))
  (pss_cons (ps_for PassesOwn.never rfl (pi_tup (pv 0)) (pg_name (i := 2) sc_divisor_of.nd rfl (Or.inl rfl)) (pss_one (ps_set (i := 1) sc_divisor_of.nd rfl (Or.inl rfl) (pe_callBfun cr_gcd (by rfl) T.m_gcd (pa_cons (pv 1) (pa_cons (pv 2) pa_nil))))))
  (pss_one (ps_ret (pv 1))))), ?_⟩
    refine ⟨.ref a, rfl, a, rfl, ⟨_, hT⟩, for_tup (K := K) (xs := [.int n, .int m]) (fun i σ H' => H' = H ∧ ∃ y, σ = [some (.ref a), some (.int (if i = 0 then 0 else if i = 1 then ((n.natAbs : Nat) : Int) else ((Nat.gcd n.natAbs m.natAbs : Nat) : Int))), y]) ⟨rfl, none, rfl⟩ ?_ ?_ ?_⟩
    · rintro i σ H' _ ⟨rfl, _⟩
      exact hT
    · rintro i x σ H' hx ⟨rfl, y, rfl⟩
      match i, hx with
      | 0, hx =>
        cases hx
        refine ⟨_, rfl, _, rfl, 0, n, rfl, rfl, some (.int n), ?_⟩
        simp
      | 1, hx =>
        cases hx
        refine ⟨_, rfl, _, rfl, ((n.natAbs : Nat) : Int), m, rfl, rfl, some (.int m), ?_⟩
        simp
      | _ + 2, hx => simp at hx
    · rintro σ H' ⟨rfl, y, rfl⟩
      exact ⟨_, rfl, q⟩
def sp_lowest (K : PySem.W.Frag) : Sp := fun vs H Q _ => ∃ (a : Addr) (n m : Int), vs = [.ref a] ∧ SqT K H a [.int n, .int m] ∧ 0 < m ∧ m.natAbs < 2 ^ 9000 ∧ Gives (Fr K ((n : Rat) / (m : Rat))) H Q
theorem ok_lowest (T : Tx K mg) : FnOk P w K mg base CX0 2 (fAt mg "lowest") (fdAt K mg "lowest") ["numbers"] (sp_lowest K) := by
  refine T.d_lowest.F.ok sc_lowest (fun vs H Q E h => ?_) (fun cdv A outer s H vs Q E hr h => ?_)
  · obtain ⟨a, n, m, rfl, _⟩ := h
    rfl
  · obtain ⟨a, n, m, rfl, hT, h0, hb, q⟩ := h
    refine ⟨_, (pss_cons (ps_set (i := 1) sc_lowest.nd rfl (Or.inr rfl) (pcall (ok_divisor_of T) T.d_divisor_of hr (by decide) (by rfl) (pa_cons (pv 0) pa_nil)))
  (pss_one (ps_ret (pe_ifExp (pt_cmpR op_eq (pv 1) (pe_int) (nomark _)) (pe_callTy call_tuple_of (by rfl) T.n_tuple (by decide +kernel) (pa_cons (pv 0) pa_nil)) (pe_callTy call_tuple_of (by rfl) T.n_tuple (by decide +kernel) (pa_cons (pe_lc (own := [("number", 2)]) rfl sc_lowest.nd (pi_tup (pv 0)) (blkOk_by (own := [("number", 2)]) (N := n_lowest) (sc := defScope s_lowest) (by decide +kernel)) (fun _ _ _ _ _ => pg_name (i := 2) sc_lowest.nd rfl (Or.inl rfl)) (fun _ _ _ _ _ => pts_nil) (fun _ _ _ _ _ => pe_op op_fdivW (pv 2) (pv 1))) pa_nil)))))), ?_⟩
    have hg := gcd_pos (n := n) (m := m) (by omega)
    refine ⟨.ref a, rfl, a, n, m, rfl, hT, ?_⟩
    refine ⟨_, rfl, rfl, _, rfl, ?_⟩
    rw [decide_eq_false (by intro z; have := V.int.inj z; omega)]
    refine ⟨.ref a, rfl, a, rfl, ⟨_, hT⟩, fun D hD => ?_⟩
    refine lc_all (walk_tup (K := K) (a := a) (xs := [.int n, .int m])) (by show 2 ≤ 1000; decide) hD (fun i v H' => v = .int ((if i = 0 then n else m) / ((Nat.gcd n.natAbs m.natAbs : Nat) : Int))) (fun _ _ _ _ _ _ h => h) (fun _ _ _ _ _ _ _ _ h => h) (fun H' e => sqt_mono e hT) ?_ ?_
    · rintro i x H1 H2 R hi e ⟨acc, hacc⟩ ⟨rfl, hx⟩ r
      have hx' : x = .int (if i = 0 then n else m) := by
        match i, hx with
        | 0, hx => cases hx; rfl
        | 1, hx => cases hx; rfl
        | _ + 2, hx => simp at hx
      subst hx'
      exact ⟨rfl, _, rfl, _, rfl, _, _, rfl, rfl, gcd_div (by omega) hb _, r _ _ (Same.refl _) rfl⟩
    · rintro H1 e ⟨vs, h1, h2, h3⟩
      obtain ⟨v0, e0, rfl⟩ := h3 0 (by show 0 < 2; decide)
      obtain ⟨v1, e1, rfl⟩ := h3 1 (by show 1 < 2; decide)
      match vs, h2, e0, e1 with
      | [x, y], _, e0, e1 =>
        cases e0
        cases e1
        refine ⟨D, _, rfl, .inl ⟨.inl (.inl h1), fun p hp => q _ _ (e.trans (same_new hp)) ⟨p, rfl, ?_⟩⟩⟩
        obtain ⟨n1, n2⟩ := num_den (n := n) h0
        rw [n1, n2]
        exact SqT.of upd_same
def sp_ratio (K : PySem.W.Frag) : Sp := fun vs H Q _ => ∃ (n m : Int), vs = [.int n, .int m] ∧ m ≠ 0 ∧ m.natAbs < 2 ^ 9000 ∧ Gives (Fr K ((n : Rat) / (m : Rat))) H Q
theorem ok_ratio (T : Tx K mg) : FnOk P w K mg base CX0 3 (fAt mg "ratio") (fdAt K mg "ratio") ["top", "low"] (sp_ratio K) := by
  refine T.d_ratio.F.ok sc_ratio (fun vs H Q E h => ?_) (fun cdv A outer s H vs Q E hr h => ?_)
  · obtain ⟨n, m, rfl, _⟩ := h
    rfl
  · obtain ⟨n, m, rfl, h0, hb, q⟩ := h
    refine ⟨_, (pss_one (ps_ret (pe_ifExp (pt_cmpR op_gt (pv 1) (pe_int) (nomark _)) (pcall (ok_lowest T) T.d_lowest hr (by decide) (by rfl) (pa_cons (pe_tup (pa_cons (pv 0) (pa_cons (pv 1) pa_nil))) pa_nil)) (pcall (ok_lowest T) T.d_lowest hr (by decide) (by rfl) (pa_cons (pe_tup (pa_cons (pe_un un_neg (pv 0)) (pa_cons (pe_un un_neg (pv 1)) pa_nil))) pa_nil))))), ?_⟩
    refine ⟨_, rfl, _, _, rfl, rfl, _, rfl, ite2 (fun c => ?_) fun c => ?_⟩
    · have c := of_decide_eq_true c
      refine ⟨_, rfl, _, rfl, by show 2 ≤ sizeLine; decide, fun p hp => ?_⟩
      exact ⟨p, n, m, rfl, SqT.of upd_same, c, hb, fun v H' e hv => q v H' ((same_new hp).trans e) hv⟩
    · have c : ¬ 0 < m := fun z => c (decide_eq_true z)
      refine ⟨_, rfl, _, rfl, _, rfl, _, rfl, by show 2 ≤ sizeLine; decide, fun p hp => ?_⟩
      refine ⟨p, -n, -m, rfl, SqT.of upd_same, by omega, by omega, fun v H' e hv => q v H' ((same_new hp).trans e) ?_⟩
      have : ((n : Rat) / (m : Rat)) = ((-n : Int) : Rat) / ((-m : Int) : Rat) := by
        rw [Rat.intCast_neg, Rat.intCast_neg]; grind
      rw [this]
      exact hv
end
end K86
set_option Elab.async false
set_option linter.all false
set_option maxRecDepth 100000
set_option maxHeartbeats 4000000
/-! Sums, differences, products and quotients of fractions. -/
namespace K86
open PySem PySem.Spec PyProof.Rows L2
theorem nd (r : Rat) : (r.num : Rat) = r * ((r.den : Int) : Rat) := by
  have h := Rat.num_divInt_den r
  rw [Rat.divInt_eq_div] at h
  have h0 : ((r.den : Int) : Rat) ≠ 0 := fun q => by
    have := Rat.intCast_eq_zero_iff.mp q
    have := r.den_pos
    omega
  grind
theorem den0 (r : Rat) : ((r.den : Int) : Rat) ≠ 0 := fun q => by
  have := Rat.intCast_eq_zero_iff.mp q
  have := r.den_pos
  omega
theorem den_ne (r : Rat) : (r.den : Int) ≠ 0 := by
  have := r.den_pos
  omega
theorem nd_plus (r s : Rat) : ((r.num * (s.den : Int) + s.num * (r.den : Int) : Int) : Rat) / (((r.den : Int) * (s.den : Int) : Int) : Rat) = r + s := by
  have := den0 r
  have := den0 s
  rw [Rat.intCast_add, Rat.intCast_mul, Rat.intCast_mul, Rat.intCast_mul, nd r, nd s]
  grind
theorem nd_minus (r s : Rat) : ((r.num * (s.den : Int) - s.num * (r.den : Int) : Int) : Rat) / (((r.den : Int) * (s.den : Int) : Int) : Rat) = r - s := by
  have := den0 r
  have := den0 s
  rw [Rat.intCast_sub, Rat.intCast_mul, Rat.intCast_mul, Rat.intCast_mul, nd r, nd s]
  grind
theorem nd_times (r s : Rat) : ((r.num * s.num : Int) : Rat) / (((r.den : Int) * (s.den : Int) : Int) : Rat) = r * s := by
  have := den0 r
  have := den0 s
  rw [Rat.intCast_mul, Rat.intCast_mul, nd r, nd s]
  grind
theorem nd_over (r s : Rat) (h : s ≠ 0) : ((r.num * (s.den : Int) : Int) : Rat) / (((r.den : Int) * s.num : Int) : Rat) = r / s := by
  have := den0 r
  have := den0 s
  rw [Rat.intCast_mul, Rat.intCast_mul, nd r, nd s]
  grind
theorem num_ne {s : Rat} (h : s ≠ 0) : s.num ≠ 0 := fun q => h (by rw [← Rat.num_eq_zero]; exact q)
theorem bd_mul {a b : Int} (ha : a.natAbs < 2 ^ 4000) (hb : b.natAbs < 2 ^ 4000) : CMulX a b ∧ (a * b).natAbs < 2 ^ 9000 := by
  refine ⟨mulx_ok ha hb (by decide), ?_⟩
  refine Nat.lt_of_lt_of_le (wide_lt ha hb) (Nat.pow_le_pow_right (by decide) (by decide))
theorem Bd.n {r : Rat} (h : Bd 4000 r) : r.num.natAbs < 2 ^ 4000 := h.1
theorem Bd.d {r : Rat} (h : Bd 4000 r) : (r.den : Int).natAbs < 2 ^ 4000 := by rw [Int.natAbs_natCast]; exact h.2
theorem mul_ne {a b : Int} (ha : a ≠ 0) (hb : b ≠ 0) : a * b ≠ 0 := Int.mul_ne_zero ha hb
def sp_r2 (K : PySem.W.Frag) (f : Rat → Rat → Rat) (ok : Rat → Rat → Prop) : Sp := fun vs H Q _ => ∃ x y r s, vs = [x, y] ∧ Fr K r x H ∧ Fr K s y H ∧ Bd 4000 r ∧ Bd 4000 s ∧ ok r s ∧ Gives (Fr K (f r s)) H Q
local macro_rules | `(tactic| walk_at "ix0") => `(tactic| refine ⟨_, rfl, _, _, 0, _, rfl, rfl, (by assumption), at0, ?_⟩)
local macro_rules | `(tactic| walk_at "ix1") => `(tactic| refine ⟨_, rfl, _, _, 1, _, rfl, rfl, (by assumption), at1, ?_⟩)
section
variable {P : Program} {w : World} {K : PySem.W.Frag} {mg : Str → Option Value} {base : Heap}

abbrev s_plus : Stmt := topS 19
abbrev n_plus : List Str := ["one", "two"]
theorem sc_plus : FnScope n_plus ["one", "two"] (defScope s_plus) := ⟨rfl, rfl, rfl, by decide +kernel, rfl, by decide +kernel, by decide +kernel⟩
theorem ok_plus (T : Tx K mg) : FnOk P w K mg base CX0 4 (fAt mg "plus") (fdAt K mg "plus") ["one", "two"] (sp_r2 K (fun r s => r + s) (fun _ _ => True)) := by
  refine T.d_plus.F.ok sc_plus (fun vs H Q E h => ?_) (fun cdv A outer s H vs Q E hr h => ?_)
  · obtain ⟨x, y, r, s, rfl, _⟩ := h
    rfl
  · obtain ⟨x, y, r, s, rfl, ⟨a, rfl, ha⟩, ⟨b, rfl, hb⟩, br, bs, c, q⟩ := h
    refine ⟨_, (pss_one (ps_ret (pcall (ok_ratio T) T.d_ratio hr (by decide) (by rfl) (pa_cons (pe_op op_add (pe_op op_mulX (pe_ix ix_tup (pv 0) (pe_int) (fun _ _ => rfl)) (pe_ix ix_tup (pv 1) (pe_int) (fun _ _ => rfl))) (pe_op op_mulX (pe_ix ix_tup (pv 1) (pe_int) (fun _ _ => rfl)) (pe_ix ix_tup (pv 0) (pe_int) (fun _ _ => rfl)))) (pa_cons (pe_op op_mulX (pe_ix ix_tup (pv 0) (pe_int) (fun _ _ => rfl)) (pe_ix ix_tup (pv 1) (pe_int) (fun _ _ => rfl))) pa_nil))))), ?_⟩
    walk_at "ix0"
    walk_at "ix1"
    refine ⟨_, _, rfl, rfl, (bd_mul (by first | exact br.n | exact br.d | exact bs.n | exact bs.d) (by first | exact br.n | exact br.d | exact bs.n | exact bs.d)).1, ?_⟩
    walk_at "ix0"
    walk_at "ix1"
    refine ⟨_, _, rfl, rfl, (bd_mul (by first | exact br.n | exact br.d | exact bs.n | exact bs.d) (by first | exact br.n | exact br.d | exact bs.n | exact bs.d)).1, ?_⟩
    refine ⟨_, _, rfl, rfl, ?_⟩
    walk_at "ix1"
    walk_at "ix1"
    refine ⟨_, _, rfl, rfl, (bd_mul (by first | exact br.n | exact br.d | exact bs.n | exact bs.d) (by first | exact br.n | exact br.d | exact bs.n | exact bs.d)).1, ?_⟩
    refine ⟨_, _, rfl, mul_ne (den_ne _) (den_ne _), (bd_mul br.d bs.d).2, ?_⟩
    have e := nd_plus r s
    rw [e]
    exact q
abbrev s_minus : Stmt := topS 20
abbrev n_minus : List Str := ["one", "two"]
theorem sc_minus : FnScope n_minus ["one", "two"] (defScope s_minus) := ⟨rfl, rfl, rfl, by decide +kernel, rfl, by decide +kernel, by decide +kernel⟩
theorem ok_minus (T : Tx K mg) : FnOk P w K mg base CX0 4 (fAt mg "minus") (fdAt K mg "minus") ["one", "two"] (sp_r2 K (fun r s => r - s) (fun _ _ => True)) := by
  refine T.d_minus.F.ok sc_minus (fun vs H Q E h => ?_) (fun cdv A outer s H vs Q E hr h => ?_)
  · obtain ⟨x, y, r, s, rfl, _⟩ := h
    rfl
  · obtain ⟨x, y, r, s, rfl, ⟨a, rfl, ha⟩, ⟨b, rfl, hb⟩, br, bs, c, q⟩ := h
    refine ⟨_, (pss_one (ps_ret (pcall (ok_ratio T) T.d_ratio hr (by decide) (by rfl) (pa_cons (pe_op op_sub (pe_op op_mulX (pe_ix ix_tup (pv 0) (pe_int) (fun _ _ => rfl)) (pe_ix ix_tup (pv 1) (pe_int) (fun _ _ => rfl))) (pe_op op_mulX (pe_ix ix_tup (pv 1) (pe_int) (fun _ _ => rfl)) (pe_ix ix_tup (pv 0) (pe_int) (fun _ _ => rfl)))) (pa_cons (pe_op op_mulX (pe_ix ix_tup (pv 0) (pe_int) (fun _ _ => rfl)) (pe_ix ix_tup (pv 1) (pe_int) (fun _ _ => rfl))) pa_nil))))), ?_⟩
    walk_at "ix0"
    walk_at "ix1"
    refine ⟨_, _, rfl, rfl, (bd_mul (by first | exact br.n | exact br.d | exact bs.n | exact bs.d) (by first | exact br.n | exact br.d | exact bs.n | exact bs.d)).1, ?_⟩
    walk_at "ix0"
    walk_at "ix1"
    refine ⟨_, _, rfl, rfl, (bd_mul (by first | exact br.n | exact br.d | exact bs.n | exact bs.d) (by first | exact br.n | exact br.d | exact bs.n | exact bs.d)).1, ?_⟩
    refine ⟨_, _, rfl, rfl, ?_⟩
    walk_at "ix1"
    walk_at "ix1"
    refine ⟨_, _, rfl, rfl, (bd_mul (by first | exact br.n | exact br.d | exact bs.n | exact bs.d) (by first | exact br.n | exact br.d | exact bs.n | exact bs.d)).1, ?_⟩
    refine ⟨_, _, rfl, mul_ne (den_ne _) (den_ne _), (bd_mul br.d bs.d).2, ?_⟩
    have e := nd_minus r s
    rw [e]
    exact q
abbrev s_times : Stmt := topS 21
abbrev n_times : List Str := ["one", "two"]
theorem sc_times : FnScope n_times ["one", "two"] (defScope s_times) := ⟨rfl, rfl, rfl, by decide +kernel, rfl, by decide +kernel, by decide +kernel⟩
theorem ok_times (T : Tx K mg) : FnOk P w K mg base CX0 4 (fAt mg "times") (fdAt K mg "times") ["one", "two"] (sp_r2 K (fun r s => r * s) (fun _ _ => True)) := by
  refine T.d_times.F.ok sc_times (fun vs H Q E h => ?_) (fun cdv A outer s H vs Q E hr h => ?_)
  · obtain ⟨x, y, r, s, rfl, _⟩ := h
    rfl
  · obtain ⟨x, y, r, s, rfl, ⟨a, rfl, ha⟩, ⟨b, rfl, hb⟩, br, bs, c, q⟩ := h
    refine ⟨_, (pss_one (ps_ret (pcall (ok_ratio T) T.d_ratio hr (by decide) (by rfl) (pa_cons (pe_op op_mulX (pe_ix ix_tup (pv 0) (pe_int) (fun _ _ => rfl)) (pe_ix ix_tup (pv 1) (pe_int) (fun _ _ => rfl))) (pa_cons (pe_op op_mulX (pe_ix ix_tup (pv 0) (pe_int) (fun _ _ => rfl)) (pe_ix ix_tup (pv 1) (pe_int) (fun _ _ => rfl))) pa_nil))))), ?_⟩
    walk_at "ix0"
    walk_at "ix0"
    refine ⟨_, _, rfl, rfl, (bd_mul (by first | exact br.n | exact br.d | exact bs.n | exact bs.d) (by first | exact br.n | exact br.d | exact bs.n | exact bs.d)).1, ?_⟩
    walk_at "ix1"
    walk_at "ix1"
    refine ⟨_, _, rfl, rfl, (bd_mul (by first | exact br.n | exact br.d | exact bs.n | exact bs.d) (by first | exact br.n | exact br.d | exact bs.n | exact bs.d)).1, ?_⟩
    refine ⟨_, _, rfl, mul_ne (den_ne _) (den_ne _), (bd_mul br.d bs.d).2, ?_⟩
    have e := nd_times r s
    rw [e]
    exact q
abbrev s_over : Stmt := topS 22
abbrev n_over : List Str := ["one", "two"]
theorem sc_over : FnScope n_over ["one", "two"] (defScope s_over) := ⟨rfl, rfl, rfl, by decide +kernel, rfl, by decide +kernel, by decide +kernel⟩
theorem ok_over (T : Tx K mg) : FnOk P w K mg base CX0 4 (fAt mg "over") (fdAt K mg "over") ["one", "two"] (sp_r2 K (fun r s => r / s) (fun _ s => s ≠ 0)) := by
  refine T.d_over.F.ok sc_over (fun vs H Q E h => ?_) (fun cdv A outer s H vs Q E hr h => ?_)
  · obtain ⟨x, y, r, s, rfl, _⟩ := h
    rfl
  · obtain ⟨x, y, r, s, rfl, ⟨a, rfl, ha⟩, ⟨b, rfl, hb⟩, br, bs, c, q⟩ := h
    refine ⟨_, (pss_one (ps_ret (pcall (ok_ratio T) T.d_ratio hr (by decide) (by rfl) (pa_cons (pe_op op_mulX (pe_ix ix_tup (pv 0) (pe_int) (fun _ _ => rfl)) (pe_ix ix_tup (pv 1) (pe_int) (fun _ _ => rfl))) (pa_cons (pe_op op_mulX (pe_ix ix_tup (pv 0) (pe_int) (fun _ _ => rfl)) (pe_ix ix_tup (pv 1) (pe_int) (fun _ _ => rfl))) pa_nil))))), ?_⟩
    walk_at "ix0"
    walk_at "ix1"
    refine ⟨_, _, rfl, rfl, (bd_mul (by first | exact br.n | exact br.d | exact bs.n | exact bs.d) (by first | exact br.n | exact br.d | exact bs.n | exact bs.d)).1, ?_⟩
    walk_at "ix1"
    walk_at "ix0"
    refine ⟨_, _, rfl, rfl, (bd_mul (by first | exact br.n | exact br.d | exact bs.n | exact bs.d) (by first | exact br.n | exact br.d | exact bs.n | exact bs.d)).1, ?_⟩
    refine ⟨_, _, rfl, mul_ne (den_ne _) (num_ne c), (bd_mul br.d bs.n).2, ?_⟩
    have e := nd_over r s c
    rw [e]
    exact q
def sp_below (K : PySem.W.Frag) : Sp := fun vs H Q _ => ∃ x y r s, vs = [x, y] ∧ Fr K r x H ∧ Fr K s y H ∧ Bd 4000 r ∧ Bd 4000 s ∧ Q (.bl (decide (r < s))) H
theorem lt_nd (r s : Rat) : r < s ↔ r.num * (s.den : Int) < s.num * (r.den : Int) := Rat.lt_iff r s
abbrev s_is_below : Stmt := topS 25
abbrev n_is_below : List Str := ["one", "two"]
theorem sc_is_below : FnScope n_is_below ["one", "two"] (defScope s_is_below) := ⟨rfl, rfl, rfl, by decide +kernel, rfl, by decide +kernel, by decide +kernel⟩
theorem ok_is_below (T : Tx K mg) : FnOk P w K mg base CX0 1 (fAt mg "is_below") (fdAt K mg "is_below") ["one", "two"] (sp_below K) := by
  refine T.d_is_below.F.ok sc_is_below (fun vs H Q E h => ?_) (fun cdv A outer s H vs Q E hr h => ?_)
  · obtain ⟨x, y, r, s, rfl, _⟩ := h
    rfl
  · obtain ⟨x, y, r, s, rfl, ⟨a, rfl, ha⟩, ⟨b, rfl, hb⟩, br, bs, q⟩ := h
    refine ⟨_, (pss_one (ps_ret (pe_cmpR op_lt (pe_op op_mulX (pe_ix ix_tup (pv 0) (pe_int) (fun _ _ => rfl)) (pe_ix ix_tup (pv 1) (pe_int) (fun _ _ => rfl))) (pe_op op_mulX (pe_ix ix_tup (pv 1) (pe_int) (fun _ _ => rfl)) (pe_ix ix_tup (pv 0) (pe_int) (fun _ _ => rfl))) (nomark _)))), ?_⟩
    walk_at "ix0"
    walk_at "ix1"
    refine ⟨_, _, rfl, rfl, (bd_mul br.n bs.d).1, ?_⟩
    walk_at "ix0"
    walk_at "ix1"
    refine ⟨_, _, rfl, rfl, (bd_mul bs.n br.d).1, ?_⟩
    refine ⟨_, _, rfl, rfl, ?_⟩
    rw [decide_eq_decide.mpr (lt_nd r s)] at q
    exact q
end
end K86
set_option Elab.async false
set_option linter.all false
set_option maxRecDepth 100000
set_option maxHeartbeats 4000000
set_option exponentiation.threshold 20000
/-! Powers, sums, signs. -/
namespace K86
open PySem PySem.Spec PyProof.Rows L2 KM
theorem Bd.mono {b c : Nat} {r : Rat} (h : Bd b r) (hc : b ≤ c) : Bd c r :=
  ⟨Nat.lt_of_lt_of_le h.1 (Nat.pow_le_pow_right (by decide) hc), Nat.lt_of_lt_of_le h.2 (Nat.pow_le_pow_right (by decide) hc)⟩
theorem pow_lt_pow {a b i : Nat} (h : a < 2 ^ b) (hb : 0 < b) : a ^ i < 2 ^ (b * i + 1) := by
  induction i with
  | zero =>
    show 1 < 2 ^ (0 + 1)
    decide
  | succ i ih =>
    rw [Nat.pow_succ]
    have : a ^ i * a ≤ a ^ i * 2 ^ b := Nat.mul_le_mul_left _ (Nat.le_of_lt h)
    have h2 : a ^ i * 2 ^ b < 2 ^ (b * i + 1) * 2 ^ b := Nat.mul_lt_mul_of_pos_right ih (Nat.pow_pos (by decide))
    rw [← Nat.pow_add] at h2
    rw [show b * (i + 1) + 1 = b * i + 1 + b by rw [Nat.mul_add]; omega]
    omega
theorem natAbs_pow (x : Int) (i : Nat) : (x ^ i).natAbs = x.natAbs ^ i := Int.natAbs_pow x i
local macro_rules | `(tactic| walk_at "ix0") => `(tactic| refine ⟨_, rfl, _, _, 0, _, rfl, rfl, (by assumption), at0, ?_⟩)
local macro_rules | `(tactic| walk_at "ix1") => `(tactic| refine ⟨_, rfl, _, _, 1, _, rfl, rfl, (by assumption), at1, ?_⟩)
section
variable {P : Program} {w : World} {K : PySem.W.Frag} {mg : Str → Option Value} {base : Heap}
abbrev s_power : Stmt := topS 23
abbrev n_power : List Str := ["one", "many", "top", "low", "_"]
theorem sc_power : FnScope n_power ["one", "many"] (defScope s_power) := ⟨rfl, rfl, rfl, by decide +kernel, rfl, by decide +kernel, by decide +kernel⟩
abbrev s_total_of : Stmt := topS 24
abbrev n_total_of : List Str := ["fractions", "found", "each"]
theorem sc_total_of : FnScope n_total_of ["fractions"] (defScope s_total_of) := ⟨rfl, rfl, rfl, by decide +kernel, rfl, by decide +kernel, by decide +kernel⟩
abbrev s_sign_of : Stmt := topS 13
abbrev n_sign_of : List Str := ["number"]
theorem sc_sign_of : FnScope n_sign_of ["number"] (defScope s_sign_of) := ⟨rfl, rfl, rfl, by decide +kernel, rfl, by decide +kernel, by decide +kernel⟩
abbrev s_opposite_of : Stmt := topS 30
abbrev n_opposite_of : List Str := ["number"]
theorem sc_opposite_of : FnScope n_opposite_of ["number"] (defScope s_opposite_of) := ⟨rfl, rfl, rfl, by decide +kernel, rfl, by decide +kernel, by decide +kernel⟩
def sp_power (K : PySem.W.Frag) : Sp := fun vs H Q _ => ∃ x r k, vs = [x, .int (k : Nat)] ∧ Fr K r x H ∧ Bd 64 r ∧ k ≤ 12 ∧ Gives (Fr K (r ^ k)) H Q
theorem pow_ok {x y : Int} {i : Nat} (hx : x.natAbs < 2 ^ 64) (hy : y.natAbs < 2 ^ 64) (hi : i < 12) : CMulX (x ^ i) y := by
  refine mulx_ok (a := 64 * i + 1) (b := 64) ?_ hy (by omega)
  rw [natAbs_pow]
  exact pow_lt_pow hx (by decide)
theorem ok_power (T : Tx K mg) : FnOk P w K mg base CX0 1 (fAt mg "power") (fdAt K mg "power") ["one", "many"] (sp_power K) := by
  refine T.d_power.F.ok sc_power (fun vs H Q E h => ?_) (fun cdv A outer s H vs Q E hr h => ?_)
  · obtain ⟨x, r, k, rfl, _⟩ := h
    rfl
  · obtain ⟨x, r, k, rfl, ⟨a, rfl, ha⟩, br, hk, q⟩ := h
    have bn : r.num.natAbs < 2 ^ 64 := br.1
    have bd : (r.den : Int).natAbs < 2 ^ 64 := by rw [Int.natAbs_natCast]; exact br.2
    refine ⟨_, (pss_cons (ps_asg (pe_tup (pa_cons (pe_int) (pa_cons (pe_int) pa_nil))) (pg_tup rfl (pgs_cons (pg_name (i := 2) sc_power.nd rfl (Or.inl rfl)) (pgs_cons (pg_name (i := 3) sc_power.nd rfl (Or.inl rfl)) pgs_nil))))
  (pss_cons (ps_for PassesOwn.never rfl (pi_range1 (by rfl) T.n_range (pa_cons (pv 1) pa_nil)) (pg_name (i := 4) sc_power.nd rfl (Or.inl rfl)) (pss_one (ps_par (i := 2) (j := 3) rfl sc_power.nd rfl rfl (by decide) rfl rfl (pa_cons (pe_op op_mulX (pv 2) (pe_ix ix_tup (pv 0) (pe_int) (fun _ _ => rfl))) (pa_cons (pe_op op_mulX (pv 3) (pe_ix ix_tup (pv 0) (pe_int) (fun _ _ => rfl))) pa_nil)) (by rfl))))
  (pss_one (ps_ret (pe_tup (pa_cons (pv 2) (pa_cons (pv 3) pa_nil))))))), ?_⟩
    refine ⟨by show 2 ≤ sizeLine; decide, fun p hp => ⟨p, _, rfl, SqT.of upd_same, rfl, _, _, rfl, _, _, rfl, rfl, ?_⟩⟩
    refine ⟨_, rfl, _, rfl, by omega, by omega, for_range (lo := 0) (n := (k : Int).toNat) (fun i σ H' => H' = upd H p (.tup [.int 1, .int 1]) ∧ ∃ y, σ = [some (.ref a), some (.int (k : Nat)), some (.int (r.num ^ i)), some (.int ((r.den : Int) ^ i)), y]) ⟨rfl, none, by rw [Int.pow_zero, Int.pow_zero]; rfl⟩ ?_ ?_⟩
    · rintro i σ H' hi ⟨rfl, y, rfl⟩
      have ha := sqt_mono (same_new (o := .tup [.int 1, .int 1]) hp) ha
      refine ⟨_, rfl, ?_⟩
      walk_at "ix0"
      refine ⟨_, _, rfl, rfl, pow_ok bn bn (by omega), ?_⟩
      refine ⟨_, rfl, ?_⟩
      walk_at "ix1"
      refine ⟨_, _, rfl, rfl, pow_ok bd bd (by omega), ?_⟩
      refine ⟨_, _, rfl, rfl, some (.int (0 + (i : Int))), ?_⟩
      rw [Int.pow_succ, Int.pow_succ]
      rfl
    · rintro σ H' ⟨rfl, y, rfl⟩
      refine ⟨_, rfl, _, rfl, by show 2 ≤ sizeLine; decide, fun p2 hp2 => q _ _ ((same_new hp).trans (same_new hp2)) ⟨p2, rfl, ?_⟩⟩
      have e1 : (r ^ k).num = r.num ^ (k : Int).toNat := by rw [Int.toNat_natCast]; exact Rat.num_pow r k
      have e2 : (((r ^ k).den : Nat) : Int) = (r.den : Int) ^ (k : Int).toNat := by rw [Int.toNat_natCast, Rat.den_pow, Int.natCast_pow]
      rw [e1, e2]
      exact SqT.of upd_same
def sp_total (K : PySem.W.Frag) : Sp := fun vs H Q _ => ∃ a n g, vs = [.ref a] ∧ ArL n (fun i => Fr K (g i)) a H ∧ n ≤ 1000 ∧ (∀ i, i < n → Bd 4000 (g i)) ∧ (∀ i, i ≤ n → Bd 4000 (sm i g)) ∧ Gives (Fr K (sm n g)) H Q
theorem ok_total_of (T : Tx K mg) : FnOk P w K mg base CX0 5 (fAt mg "total_of") (fdAt K mg "total_of") ["fractions"] (sp_total K) := by
  refine T.d_total_of.F.ok sc_total_of (fun vs H Q E h => ?_) (fun cdv A outer s H vs Q E hr h => ?_)
  · obtain ⟨a, n, g, rfl, _⟩ := h
    rfl
  · obtain ⟨a, n, g, rfl, hA, hn, bg, bs, q⟩ := h
    refine ⟨_, (pss_cons (ps_set (i := 1) sc_total_of.nd rfl (Or.inl rfl) (pe_glob (v := .ref (fAt mg "ZERO")) (by rfl) T.mZERO rfl))
  (pss_cons (ps_for PassesOwn.never rfl (pi_list (pv 0)) (pg_name (i := 2) sc_total_of.nd rfl (Or.inl rfl)) (pss_one (ps_set (i := 1) sc_total_of.nd rfl (Or.inl rfl) (pcall (ok_plus T) T.d_plus hr (by decide) (by rfl) (pa_cons (pv 1) (pa_cons (pv 2) pa_nil))))))
  (pss_one (ps_ret (pv 1))))), ?_⟩
    obtain ⟨xs, h1, h2, h3⟩ := hA
    refine ⟨.ref a, rfl, a, rfl, ⟨_, SqL.of h1⟩, for_list (K := K) (xs := xs) (fun i σ H' => Same H H' ∧ ∃ v y, σ = [some (.ref a), some v, y] ∧ Fr K (sm i g) v H') ⟨Same.refl _, _, none, rfl, _, rfl, T.tZERO H⟩ ?_ ?_ ?_⟩
    · rintro i σ H' _ ⟨e, _⟩
      exact SqL.of (e _ _ h1)
    · rintro i x σ H' hx ⟨e, v, y, rfl, hv⟩
      have hi : i < n := by
        have := (List.getElem?_eq_some_iff.mp hx).1
        omega
      obtain ⟨x', hx', fx⟩ := h3 i hi
      obtain rfl : x = x' := Option.some.inj (hx.symm.trans hx')
      refine ⟨_, rfl, _, rfl, v, x, _, _, rfl, hv, fx.mono e, bs i (by omega), bg i hi, trivial, fun u H2 e2 hu => ?_⟩
      exact ⟨e.trans e2, u, some x, rfl, hu⟩
    · rintro σ H' ⟨e, v, y, rfl, hv⟩
      refine ⟨_, rfl, q _ _ e ?_⟩
      rw [h2] at hv
      exact hv
def sgn (x : Int) : Int := (if 0 < x then 1 else 0) - (if x < 0 then 1 else 0)
def sp_sign (_ : PySem.W.Frag) : Sp := fun vs H Q _ => ∃ x : Int, vs = [.int x] ∧ Q (.int (sgn x)) H
theorem ok_sign_of (T : Tx K mg) : FnOk P w K mg base CX0 1 (fAt mg "sign_of") (fdAt K mg "sign_of") ["number"] (sp_sign K) := by
  refine T.d_sign_of.F.ok sc_sign_of (fun vs H Q E h => ?_) (fun cdv A outer s H vs Q E hr h => ?_)
  · obtain ⟨x, rfl, _⟩ := h
    rfl
  · obtain ⟨x, rfl, q⟩ := h
    refine ⟨_, (pss_one (ps_ret (pe_op op_subBB (pe_cmpR op_gt (pv 0) (pe_int) (nomark _)) (pe_cmpR op_lt (pv 0) (pe_int) (nomark _))))), ?_⟩
    refine ⟨_, rfl, _, _, rfl, rfl, _, rfl, _, _, rfl, rfl, _, _, rfl, rfl, ?_⟩
    have e : ((if decide ((0 : Int) < x) = true then (1 : Int) else 0) - (if decide (x < (0 : Int)) = true then 1 else 0)) = sgn x := by
      unfold sgn
      by_cases h1 : 0 < x <;> by_cases h2 : x < 0 <;> simp [h1, h2]
    show Q (.int ((if decide ((0 : Int) < x) = true then (1 : Int) else 0) - (if decide (x < (0 : Int)) = true then 1 else 0))) H
    rw [e]
    exact q
def sp_opp (K : PySem.W.Frag) : Sp := fun vs H Q _ => ∃ x r, vs = [x] ∧ Fr K r x H ∧ Gives (Fr K (-r)) H Q
theorem ok_opposite_of (T : Tx K mg) : FnOk P w K mg base CX0 1 (fAt mg "opposite_of") (fdAt K mg "opposite_of") ["number"] (sp_opp K) := by
  refine T.d_opposite_of.F.ok sc_opposite_of (fun vs H Q E h => ?_) (fun cdv A outer s H vs Q E hr h => ?_)
  · obtain ⟨x, r, rfl, _⟩ := h
    rfl
  · obtain ⟨x, r, rfl, ⟨a, rfl, ha⟩, q⟩ := h
    refine ⟨_, (pss_one (ps_ret (pe_tup (pa_cons (pe_un un_neg (pe_ix ix_tup (pv 0) (pe_int) (fun _ _ => rfl))) (pa_cons (pe_ix ix_tup (pv 0) (pe_int) (fun _ _ => rfl)) pa_nil))))), ?_⟩
    walk_at "ix0"
    refine ⟨_, rfl, ?_⟩
    walk_at "ix1"
    exact ⟨by show 2 ≤ sizeLine; decide, fun p hp => q _ _ (same_new hp) ⟨p, rfl, SqT.of upd_same⟩⟩
end
end K86
set_option Elab.async false
set_option linter.all false
set_option maxRecDepth 100000
set_option maxHeartbeats 4000000
set_option exponentiation.threshold 20000
/-! What the program asks of its arguments. -/
namespace K86
open PySem PySem.Spec PyProof.Rows L2 KM
structure LkOk (s : Nat) (l : Lk) : Prop where
  pos : 0 < l.x
  low : 0 ≤ l.lo
  le : l.lo ≤ l.hi
  top : l.hi ≤ (s : Rat)
  bx : Bd 4 l.x
  bl : Bd 45 l.lo
  bh : Bd 45 l.hi
def LkV (K : PySem.W.Frag) (l : Lk) : VP := fun v H => ∃ a v0 v1 v2, v = .ref a ∧ SqT K H a [v0, v1, v2] ∧ Fr K l.x v0 H ∧ Fr K l.lo v1 H ∧ Fr K l.hi v2 H
theorem lkv_stay {K : PySem.W.Frag} {l : Lk} : Stay (LkV K l) := fun _ _ _ e ⟨a, v0, v1, v2, h1, h2, h3, h4, h5⟩ => ⟨a, v0, v1, v2, h1, sqt_mono e h2, h3.mono e, h4.mono e, h5.mono e⟩
theorem lkv_stayD {K : PySem.W.Frag} {l : Lk} {D : Addr} : StayD D (LkV K l) := fun _ _ _ _ hD e ⟨a, v0, v1, v2, h1, h2, h3, h4, h5⟩ => ⟨a, v0, v1, v2, h1, sqt_keep hD e h2, fr_stayD _ _ _ _ hD e h3, fr_stayD _ _ _ _ hD e h4, fr_stayD _ _ _ _ hD e h5⟩
theorem ty_tup {K : PySem.W.Frag} {H : Hp} {a : Addr} {xs : List V} (h : SqT K H a xs) : TyX K H (.ref a) (.type "tuple") := by
  rcases h with (h | ⟨o, h⟩) | ⟨o, its, n, h, hc, _⟩
  · exact .base (.tup h)
  · exact .fTuple h
  · exact .kTuple h hc
theorem num_pos_of {r : Rat} (h : 0 < r) : 0 < r.num := by
  have h1 : r.num ≠ 0 := num_ne (by grind)
  have h2 : 0 ≤ r.num := Rat.num_nonneg.mpr (by grind)
  omega
theorem nat_fr (s : Nat) : ((s : Int) : Rat).num = (s : Int) ∧ (((s : Int) : Rat).den : Int) = 1 := ⟨rfl, rfl⟩
theorem bd_small {s : Nat} (h : s ≤ 1000) : Bd 4000 ((s : Int) : Rat) := by
  refine ⟨?_, ?_⟩
  · show ((s : Int)).natAbs < _
    rw [Int.natAbs_natCast]
    exact Nat.lt_of_lt_of_le (show s < 2 ^ 10 by omega) (Nat.pow_le_pow_right (by decide) (by decide))
  · show 1 < 2 ^ 4000
    exact Nat.lt_of_lt_of_le (show 1 < 2 ^ 1 by decide) (Nat.pow_le_pow_right (by decide) (by decide))
abbrev IsT : VP := fun v _ => v = .bl true
abbrev IsN : VP := fun v _ => v = .non
section
variable {P : Program} {w : World} {K : PySem.W.Frag} {mg : Str → Option Value} {base : Heap}
abbrev s_is_whole : Stmt := topS 8
abbrev n_is_whole : List Str := ["value"]
theorem sc_is_whole : FnScope n_is_whole ["value"] (defScope s_is_whole) := ⟨rfl, rfl, rfl, by decide +kernel, rfl, by decide +kernel, by decide +kernel⟩
abbrev s_is_between : Stmt := topS 9
abbrev n_is_between : List Str := ["value", "low", "high"]
theorem sc_is_between : FnScope n_is_between ["value", "low", "high"] (defScope s_is_between) := ⟨rfl, rfl, rfl, by decide +kernel, rfl, by decide +kernel, by decide +kernel⟩
abbrev s_are_wholes : Stmt := topS 10
abbrev n_are_wholes : List Str := ["value", "many", "each"]
theorem sc_are_wholes : FnScope n_are_wholes ["value", "many"] (defScope s_are_wholes) := ⟨rfl, rfl, rfl, by decide +kernel, rfl, by decide +kernel, by decide +kernel⟩
abbrev s_is_ratio : Stmt := topS 17
abbrev n_is_ratio : List Str := ["value"]
theorem sc_is_ratio : FnScope n_is_ratio ["value"] (defScope s_is_ratio) := ⟨rfl, rfl, rfl, by decide +kernel, rfl, by decide +kernel, by decide +kernel⟩
abbrev s_is_amount : Stmt := topS 27
abbrev n_is_amount : List Str := ["value"]
theorem sc_is_amount : FnScope n_is_amount ["value"] (defScope s_is_amount) := ⟨rfl, rfl, rfl, by decide +kernel, rfl, by decide +kernel, by decide +kernel⟩
abbrev s_check_strength : Stmt := topS 28
abbrev n_check_strength : List Str := ["value"]
theorem sc_check_strength : FnScope n_check_strength ["value"] (defScope s_check_strength) := ⟨rfl, rfl, rfl, by decide +kernel, rfl, by decide +kernel, by decide +kernel⟩
abbrev s_is_look_for : Stmt := topS 42
abbrev n_is_look_for : List Str := ["seats", "value"]
theorem sc_is_look_for : FnScope n_is_look_for ["seats", "value"] (defScope s_is_look_for) := ⟨rfl, rfl, rfl, by decide +kernel, rfl, by decide +kernel, by decide +kernel⟩
abbrev s_wrong_look : Stmt := topS 43
abbrev n_wrong_look : List Str := ["seats", "value", "index", "look"]
theorem sc_wrong_look : FnScope n_wrong_look ["seats", "value"] (defScope s_wrong_look) := ⟨rfl, rfl, rfl, by decide +kernel, rfl, by decide +kernel, by decide +kernel⟩
abbrev s_check_looks : Stmt := topS 44
abbrev n_check_looks : List Str := ["seats", "value", "wrong"]
theorem sc_check_looks : FnScope n_check_looks ["seats", "value"] (defScope s_check_looks) := ⟨rfl, rfl, rfl, by decide +kernel, rfl, by decide +kernel, by decide +kernel⟩
abbrev s_check_look_seats : Stmt := topS 41
abbrev n_check_look_seats : List Str := ["value"]
theorem sc_check_look_seats : FnScope n_check_look_seats ["value"] (defScope s_check_look_seats) := ⟨rfl, rfl, rfl, by decide +kernel, rfl, by decide +kernel, by decide +kernel⟩
def sp_whole (_ : PySem.W.Frag) : Sp := fun vs H Q _ => ∃ n : Int, vs = [.int n] ∧ Q (.bl true) H
theorem ok_is_whole (T : Tx K mg) : FnOk P w K mg base CX0 1 (fAt mg "is_whole") (fdAt K mg "is_whole") ["value"] (sp_whole K) := by
  refine T.d_is_whole.F.ok sc_is_whole (fun vs H Q E h => ?_) (fun cdv A outer s H vs Q E hr h => ?_)
  · obtain ⟨n, rfl, _⟩ := h
    rfl
  · obtain ⟨n, rfl, q⟩ := h
    refine ⟨_, (pss_one (ps_ret (pe_and (pe_callB call_isi (by rfl) T.n_isinstance (by decide +kernel) (pa_cons (pv 0) (pa_cons (pe_bltn (v := .ty "int") (by rfl) T.n_int (by decide +kernel) rfl) pa_nil))) (pe_one (pe_not (pe_callB call_isi (by rfl) T.n_isinstance (by decide +kernel) (pa_cons (pv 0) (pa_cons (pe_bltn (v := .ty "bool") (by rfl) T.n_bool (by decide +kernel) rfl) pa_nil)))))))), ?_⟩
    refine ⟨_, rfl, _, _, _, _, true, rfl, .ty "int", .base (.int n), kit_ty (by decide +kernel), true, rfl, ?_⟩
    exact ⟨_, rfl, _, _, _, _, false, rfl, .ty "bool", .base (.int n), kit_ty (by decide +kernel), false, rfl, q⟩
def sp_between (_ : PySem.W.Frag) : Sp := fun vs H Q _ => ∃ v lo hi : Int, vs = [.int v, .int lo, .int hi] ∧ lo ≤ v ∧ v ≤ hi ∧ Q (.bl true) H
theorem ok_is_between (T : Tx K mg) : FnOk P w K mg base CX0 2 (fAt mg "is_between") (fdAt K mg "is_between") ["value", "low", "high"] (sp_between K) := by
  refine T.d_is_between.F.ok sc_is_between (fun vs H Q E h => ?_) (fun cdv A outer s H vs Q E hr h => ?_)
  · obtain ⟨v, lo, hi, rfl, _⟩ := h
    rfl
  · obtain ⟨v, lo, hi, rfl, h1, h2, q⟩ := h
    refine ⟨_, (pss_one (ps_ret (pe_and (pcall (ok_is_whole T) T.d_is_whole hr (by decide) (by rfl) (pa_cons (pv 0) pa_nil)) (pe_and (pe_cmpR op_le (pv 1) (pv 0) (nomark _)) (pe_one (pe_cmpR op_le (pv 0) (pv 2) (nomark _))))))), ?_⟩
    refine ⟨_, rfl, v, rfl, true, rfl, ?_⟩
    refine ⟨_, rfl, _, rfl, _, _, rfl, rfl, _, rfl, ?_⟩
    rw [decide_eq_true h1]
    refine ⟨_, rfl, _, rfl, _, _, rfl, rfl, ?_⟩
    show Q (.bl (decide (v ≤ hi))) H
    rw [decide_eq_true h2]
    exact q
def sp_wholes (K : PySem.W.Frag) : Sp := fun vs H Q _ => ∃ a n m, vs = [.ref a, .int 2] ∧ SqT K H a [.int n, .int m] ∧ Gives IsT H Q
theorem ok_are_wholes (T : Tx K mg) : FnOk P w K mg base CX0 2 (fAt mg "are_wholes") (fdAt K mg "are_wholes") ["value", "many"] (sp_wholes K) := by
  refine T.d_are_wholes.F.ok sc_are_wholes (fun vs H Q E h => ?_) (fun cdv A outer s H vs Q E hr h => ?_)
  · obtain ⟨a, n, m, rfl, _⟩ := h
    rfl
  · obtain ⟨a, n, m, rfl, hT, q⟩ := h
    refine ⟨_, (pss_one (ps_ret (pe_and (pe_callB call_isi (by rfl) T.n_isinstance (by decide +kernel) (pa_cons (pv 0) (pa_cons (pe_bltn (v := .ty "tuple") (by rfl) T.n_tuple (by decide +kernel) rfl) pa_nil))) (pe_and (pe_cmpR op_eq (pe_callB call_len_seq (by rfl) T.n_len (by decide +kernel) (pa_cons (pv 0) pa_nil)) (pv 1) (nomark _)) (pe_one (pe_callB (cr_all rfl) (by rfl) T.n_all (by decide +kernel) (pa_cons (pe_lc (own := [("each", 2)]) rfl sc_are_wholes.nd (pi_tup (pv 0)) (blkOk_by (own := [("each", 2)]) (N := n_are_wholes) (sc := defScope s_are_wholes) (by decide +kernel)) (fun _ _ _ _ _ => pg_name (i := 2) sc_are_wholes.nd rfl (Or.inl rfl)) (fun _ _ _ _ _ => pts_nil) (fun _ _ _ _ _ => pcall (ok_is_whole T) T.d_is_whole hr (by decide) (by rfl) (pa_cons (pv 2) pa_nil))) pa_nil))))))), ?_⟩
    refine ⟨_, rfl, _, _, _, _, true, rfl, .ty "tuple", ty_tup hT, kit_ty (by decide +kernel), true, rfl, ?_⟩
    refine ⟨_, rfl, a, _, rfl, .inr hT, _, rfl, rfl, true, ?_, ?_⟩
    · rfl
    · refine ⟨_, rfl, a, rfl, ⟨_, hT⟩, fun D hD => ?_⟩
      refine lc_all (walk_tup (K := K) (a := a) (xs := [.int n, .int m])) (by show 2 ≤ 1000; decide) hD (fun i v H' => v = .bl true) (fun _ _ _ _ _ _ h => h) (fun _ _ _ _ _ _ _ _ h => h) (fun H' e => sqt_mono e hT) ?_ ?_
      · rintro i x H1 H2 R hi e ⟨acc, hacc⟩ ⟨rfl, hx⟩ r
        have hx' : ∃ k, x = .int k := by
          match i, hx with
          | 0, hx => cases hx; exact ⟨_, rfl⟩
          | 1, hx => cases hx; exact ⟨_, rfl⟩
          | _ + 2, hx => simp at hx
        obtain ⟨k, rfl⟩ := hx'
        exact ⟨rfl, _, rfl, k, rfl, r _ _ (Same.refl _) rfl⟩
      · rintro H1 e ⟨vs, h1, h2, h3⟩
        obtain ⟨v0, e0, rfl⟩ := h3 0 (by show 0 < 2; decide)
        obtain ⟨v1, e1, rfl⟩ := h3 1 (by show 1 < 2; decide)
        match vs, h2, e0, e1 with
        | [x, y], _, e0, e1 =>
          cases e0
          cases e1
          exact ⟨D, [true, true], rfl, SqL.of h1, q _ _ e rfl⟩
def sp_isratio (K : PySem.W.Frag) : Sp := fun vs H Q _ => ∃ v r, vs = [v] ∧ Fr K r v H ∧ Gives IsT H Q
theorem ok_is_ratio (T : Tx K mg) : FnOk P w K mg base CX0 3 (fAt mg "is_ratio") (fdAt K mg "is_ratio") ["value"] (sp_isratio K) := by
  refine T.d_is_ratio.F.ok sc_is_ratio (fun vs H Q E h => ?_) (fun cdv A outer s H vs Q E hr h => ?_)
  · obtain ⟨v, r, rfl, _⟩ := h
    rfl
  · obtain ⟨v, r, rfl, ⟨a, rfl, hT⟩, q⟩ := h
    refine ⟨_, (pss_one (ps_ret (pe_and (pcall (ok_are_wholes T) T.d_are_wholes hr (by decide) (by rfl) (pa_cons (pv 0) (pa_cons (pe_int) pa_nil))) (pe_and (pe_cmpR op_gt (pe_ix ix_tup (pv 0) (pe_int) (fun _ _ => rfl)) (pe_int) (nomark _)) (pe_one (pe_cmpR op_eq (pcall (ok_divisor_of T) T.d_divisor_of hr (by decide) (by rfl) (pa_cons (pv 0) pa_nil)) (pe_int) (nomark _))))))), ?_⟩
    refine ⟨_, rfl, a, _, _, rfl, hT, fun v H1 e hv => ?_⟩
    subst hv
    have hT1 := sqt_mono e hT
    refine ⟨true, rfl, _, rfl, _, _, 1, _, rfl, rfl, hT1, at1, _, _, rfl, rfl, _, rfl, ?_⟩
    rw [decide_eq_true (show (0 : Int) < (r.den : Int) by have := r.den_pos; omega)]
    refine ⟨_, rfl, a, _, _, rfl, hT1, rfl, ?_⟩
    have hg : r.num.natAbs.gcd (r.den : Int).natAbs = 1 := by rw [Int.natAbs_natCast]; exact r.reduced
    rw [hg]
    exact q _ _ e rfl
def sp_isamount (K : PySem.W.Frag) : Sp := fun vs H Q _ => ∃ v r, vs = [v] ∧ Fr K r v H ∧ 0 < r ∧ Gives IsT H Q
theorem ok_is_amount (T : Tx K mg) : FnOk P w K mg base CX0 4 (fAt mg "is_amount") (fdAt K mg "is_amount") ["value"] (sp_isamount K) := by
  refine T.d_is_amount.F.ok sc_is_amount (fun vs H Q E h => ?_) (fun cdv A outer s H vs Q E hr h => ?_)
  · obtain ⟨v, r, rfl, _⟩ := h
    rfl
  · obtain ⟨v, r, rfl, hv, hp, q⟩ := h
    refine ⟨_, (pss_one (ps_ret (pe_and (pcall (ok_is_ratio T) T.d_is_ratio hr (by decide) (by rfl) (pa_cons (pv 0) pa_nil)) (pe_one (pe_cmpR op_gt (pe_ix ix_tup (pv 0) (pe_int) (fun _ _ => rfl)) (pe_int) (nomark _)))))), ?_⟩
    refine ⟨_, rfl, v, r, rfl, hv, fun x H1 e hx => ?_⟩
    subst hx
    obtain ⟨a, rfl, hT⟩ := hv.mono e
    refine ⟨true, rfl, _, rfl, _, _, 0, _, rfl, rfl, hT, at0, _, _, rfl, rfl, ?_⟩
    show Q (.bl (decide (0 < r.num))) H1
    rw [decide_eq_true (num_pos_of hp)]
    exact q _ _ e rfl
def sp_checkstr (K : PySem.W.Frag) : Sp := fun vs H Q _ => ∃ v r, vs = [v] ∧ Fr K r v H ∧ 0 < r ∧ Gives IsN H Q
theorem ok_check_strength (T : Tx K mg) : FnOk P w K mg base CX0 5 (fAt mg "check_strength") (fdAt K mg "check_strength") ["value"] (sp_checkstr K) := by
  refine T.d_check_strength.F.ok sc_check_strength (fun vs H Q E h => ?_) (fun cdv A outer s H vs Q E hr h => ?_)
  · obtain ⟨v, r, rfl, _⟩ := h
    rfl
  · obtain ⟨v, r, rfl, hv, hp, q⟩ := h
    refine ⟨_, (pss_one (ps_if (pt_not (pt_val (pcall (ok_is_amount T) T.d_is_amount hr (by decide) (by rfl) (pa_cons (pv 0) pa_nil)))) (pss_one (ps_never)) pss_nil)), ?_⟩
    refine ⟨_, rfl, v, r, rfl, hv, hp, fun x H1 e hx => ?_⟩
    subst hx
    exact ⟨true, rfl, q _ _ e rfl⟩
def sp_looks (K : PySem.W.Frag) : Sp := fun vs H Q _ => ∃ (s : Nat) (v : V) (l : Lk), vs = [.int (s : Nat), v] ∧ s ≤ 5 ∧ LkV K l v H ∧ LkOk s l ∧ Gives IsT H Q
theorem ok_is_look_for (T : Tx K mg) : FnOk P w K mg base CX0 5 (fAt mg "is_look_for") (fdAt K mg "is_look_for") ["seats", "value"] (sp_looks K) := by
  refine T.d_is_look_for.F.ok sc_is_look_for (fun vs H Q E h => ?_) (fun cdv A outer s H vs Q E hr h => ?_)
  · obtain ⟨s, v, l, rfl, _⟩ := h
    rfl
  · obtain ⟨s, v, l, rfl, hs, ⟨a, v0, v1, v2, rfl, hT, f0, f1, f2⟩, lk, q⟩ := h
    have b1 : Bd 4000 l.lo := lk.bl.mono (by decide)
    have b2 : Bd 4000 l.hi := lk.bh.mono (by decide)
    refine ⟨_, (pss_cons (ps_if (PW.pt (pw_or (pt_not (pt_val (pe_callB call_isi (by rfl) T.n_isinstance (by decide +kernel) (pa_cons (pv 1) (pa_cons (pe_bltn (v := .ty "tuple") (by rfl) T.n_tuple (by decide +kernel) rfl) pa_nil))))) (pw_or (pt_cmpR op_ne (pe_callB call_len_seq (by rfl) T.n_len (by decide +kernel) (pa_cons (pv 1) pa_nil)) (pe_int) (nomark _)) (pw_or1 (pt_not (pt_val (pcall (ok_is_amount T) T.d_is_amount hr (by decide) (by rfl) (pa_cons (pe_ix ix_tup (pv 1) (pe_int) (fun _ _ => rfl)) pa_nil)))))))) (pss_one (ps_ret (pe_bl))) pss_nil)
  (pss_cons (ps_if (PW.pt (pw_or (pt_not (pt_val (pcall (ok_is_ratio T) T.d_is_ratio hr (by decide) (by rfl) (pa_cons (pe_ix ix_tup (pv 1) (pe_int) (fun _ _ => rfl)) pa_nil)))) (pw_or (pt_not (pt_val (pcall (ok_is_ratio T) T.d_is_ratio hr (by decide) (by rfl) (pa_cons (pe_ix ix_tup (pv 1) (pe_int) (fun _ _ => rfl)) pa_nil)))) (pw_or1 (pt_cmpR op_lt (pe_ix ix_tup (pe_ix ix_tup (pv 1) (pe_int) (fun _ _ => rfl)) (pe_int) (fun _ _ => rfl)) (pe_int) (nomark _)))))) (pss_one (ps_ret (pe_bl))) pss_nil)
  (pss_one (ps_ret (pe_and (pe_not (pcall (ok_is_below T) T.d_is_below hr (by decide) (by rfl) (pa_cons (pe_ix ix_tup (pv 1) (pe_int) (fun _ _ => rfl)) (pa_cons (pe_ix ix_tup (pv 1) (pe_int) (fun _ _ => rfl)) pa_nil)))) (pe_one (pe_not (pcall (ok_is_below T) T.d_is_below hr (by decide) (by rfl) (pa_cons (pe_tup (pa_cons (pv 0) (pa_cons (pe_int) pa_nil))) (pa_cons (pe_ix ix_tup (pv 1) (pe_int) (fun _ _ => rfl)) pa_nil)))))))))), ?_⟩
    -- the first if
    refine ⟨_, rfl, _, _, _, _, true, rfl, .ty "tuple", ty_tup hT, kit_ty (by decide +kernel), true, rfl, ?_⟩
    refine ⟨_, rfl, a, _, rfl, .inr hT, rfl, _, rfl, ?_⟩
    refine ⟨_, rfl, _, _, 0, _, rfl, rfl, hT, at0, v0, l.x, rfl, f0, lk.pos, fun x H1 e1 hx => ?_⟩
    subst hx
    refine ⟨true, rfl, ?_⟩
    -- the second if
    refine ⟨_, rfl, _, _, 1, _, rfl, rfl, sqt_mono e1 hT, at1, v1, l.lo, rfl, f1.mono e1, fun x H2 e2 hx => ?_⟩
    subst hx
    have e12 := e1.trans e2
    refine ⟨true, rfl, ?_⟩
    refine ⟨_, rfl, _, _, 2, _, rfl, rfl, sqt_mono e12 hT, at2, v2, l.hi, rfl, f2.mono e12, fun x H3 e3 hx => ?_⟩
    subst hx
    have e13 := e12.trans e3
    refine ⟨true, rfl, ?_⟩
    obtain ⟨p1, rfl, g1⟩ := f1.mono e13
    refine ⟨_, rfl, _, _, 1, _, rfl, rfl, sqt_mono e13 hT, at1, _, _, 0, _, rfl, rfl, g1, at0, _, _, rfl, rfl, _, rfl, ?_⟩
    rw [decide_eq_false (show ¬ l.lo.num < 0 by have := Rat.num_nonneg.mpr lk.low; omega)]
    -- the answer
    have hT3 := sqt_mono e13 hT
    refine ⟨_, rfl, _, _, 2, _, rfl, rfl, hT3, at2, _, rfl, _, _, 1, _, rfl, rfl, hT3, at1, v2, _, l.hi, l.lo, rfl, f2.mono e13, ⟨p1, rfl, g1⟩, b2, b1, ?_⟩
    rw [decide_eq_false (show ¬ l.hi < l.lo by have := lk.le; grind)]
    refine ⟨false, rfl, true, rfl, ?_⟩
    refine ⟨_, rfl, by show 2 ≤ sizeLine; decide, fun p hp => ?_⟩
    have e4 := same_new (o := .tup [.int (s : Nat), .int 1]) hp
    refine ⟨_, rfl, _, _, 2, _, rfl, rfl, sqt_mono (e13.trans e4) hT, at2, .ref p, v2, ((s : Int) : Rat), l.hi, rfl, ⟨p, rfl, SqT.of upd_same⟩, f2.mono (e13.trans e4), bd_small (by omega), b2, ?_⟩
    rw [decide_eq_false (show ¬ ((s : Int) : Rat) < l.hi by
      have := lk.top
      have e : ((s : Nat) : Rat) = ((s : Int) : Rat) := rfl
      grind)]
    exact ⟨false, rfl, q _ _ (e13.trans e4) rfl⟩
/-- looks for so many seats -/
def LksV (K : PySem.W.Frag) (n : Nat) (L : Nat → Lk) : VP := fun v H => ∃ a, v = .ref a ∧ ArT K n (fun i => LkV K (L i)) a H
theorem lksv_mono {K : PySem.W.Frag} {n : Nat} {L : Nat → Lk} {v : V} {H H' : Hp} (h : LksV K n L v H) (e : Same H H') : LksV K n L v H' := let ⟨a, h1, h2⟩ := h; ⟨a, h1, h2.mono e fun _ _ => lkv_stay⟩
structure LksOk (s n : Nat) (L : Nat → Lk) : Prop where
  s1 : 1 ≤ s
  s5 : s ≤ 5
  n1 : 1 ≤ n
  n4 : n ≤ 4
  ok : ∀ i, i < n → LkOk s (L i)
def sp_wrong_look (K : PySem.W.Frag) : Sp := fun vs H Q _ => ∃ (s n : Nat) (v : V) (L : Nat → Lk), vs = [.int (s : Nat), v] ∧ LksV K n L v H ∧ LksOk s n L ∧ Gives IsN H Q
theorem ok_wrong_look (T : Tx K mg) : FnOk P w K mg base CX0 6 (fAt mg "wrong_look") (fdAt K mg "wrong_look") ["seats", "value"] (sp_wrong_look K) := by
  refine T.d_wrong_look.F.ok sc_wrong_look (fun vs H Q E h => ?_) (fun cdv A outer s H vs Q E hr h => ?_)
  · obtain ⟨s, n, v, L, rfl, _⟩ := h
    rfl
  · obtain ⟨s, n, v, L, rfl, ⟨a, rfl, xs, hT, hn, hL⟩, ok, q⟩ := h
    have n1 := ok.n1
    have n4 := ok.n4
    refine ⟨_, (pss_cons (ps_if (PW.pt (pw_or (pt_not (pt_val (pe_callB call_isi (by rfl) T.n_isinstance (by decide +kernel) (pa_cons (pv 1) (pa_cons (pe_bltn (v := .ty "tuple") (by rfl) T.n_tuple (by decide +kernel) rfl) pa_nil))))) (pw_or1 (pt_cmpR op_eq (pe_callB call_len_seq (by rfl) T.n_len (by decide +kernel) (pa_cons (pv 1) pa_nil)) (pe_int) (nomark _))))) (pss_one (ps_ret (pe_tup (pa_cons (pe_non) pa_nil)))) pss_nil)
  (pss_cons (ps_for PassesOwn.never rfl (pi_enumT (by rfl) T.n_enumerate (pa_cons (pv 1) pa_nil)) (pg_tup rfl (pgs_cons (pg_name (i := 2) sc_wrong_look.nd rfl (Or.inl rfl)) (pgs_cons (pg_name (i := 3) sc_wrong_look.nd rfl (Or.inl rfl)) pgs_nil))) (pss_one (ps_if (PW.pt (pw_or (pt_cmpR op_ge (pv 2) (pe_glob (v := .int 4) (by rfl) T.mMOST_LOOKS.choose_spec ⟨_, rfl⟩) (nomark _)) (pw_or1 (pt_not (pt_val (pcall (ok_is_look_for T) T.d_is_look_for hr (by decide) (by rfl) (pa_cons (pv 0) (pa_cons (pv 3) pa_nil)))))))) (pss_one (ps_ret (pe_tup (pa_cons (pv 2) pa_nil)))) pss_nil)))
  (pss_one (ps_ret (pe_non))))), ?_⟩
    refine ⟨_, rfl, _, _, _, _, true, rfl, .ty "tuple", ty_tup hT, kit_ty (by decide +kernel), true, rfl, ?_⟩
    refine ⟨_, rfl, a, _, rfl, .inr hT, rfl, _, rfl, ?_⟩
    rw [decide_eq_false (show ¬ V.int (xs.length : Int) = V.int 0 by intro z; have := V.int.inj z; omega)]
    refine ⟨_, rfl, a, xs, rfl, hT, for_it (walk_enumT (K := K) (a := a) (xs := xs)) (fun i σ H' => Same H H' ∧ ∃ y z, σ = [some (.int (s : Nat)), some (.ref a), y, z]) ⟨Same.refl _, none, none, rfl⟩ (fun i σ H' _ p => sqt_mono p.1 hT) ?_ ?_⟩
    · rintro i x σ H1 H2 hi ⟨e, y, z, rfl⟩ ⟨t, u, x', rfl, ht, rfl, hu, hx⟩
      cases hu
      have e2 := e.trans (same_new (o := .tup [.int (i : Nat), x']) ht)
      obtain ⟨v', hv', lv⟩ := hL i (by omega)
      obtain rfl : x' = v' := Option.some.inj (hx.symm.trans hv')
      refine ⟨t, _, rfl, SqT.of upd_same, rfl, _, _, rfl, _, _, rfl, rfl, ?_⟩
      refine ⟨_, rfl, _, _, rfl, rfl, _, rfl, ?_⟩
      rw [decide_eq_false (show ¬ (4 : Int) ≤ (i : Int) by omega)]
      refine ⟨_, rfl, _, rfl, s, x', L i, rfl, ok.s5, lkv_stay _ _ _ e2 lv, ok.ok i (by omega), fun b H3 e3 hb => ?_⟩
      subst hb
      exact ⟨true, rfl, e2.trans e3, some (.int (i : Nat)), some x', rfl⟩
    · rintro σ H' ⟨e, y, z, rfl⟩
      exact q _ _ e rfl
def sp_seats (_ : PySem.W.Frag) : Sp := fun vs H Q _ => ∃ (s : Nat), vs = [.int (s : Nat)] ∧ 1 ≤ s ∧ s ≤ 5 ∧ Q .non H
theorem ok_check_look_seats (T : Tx K mg) : FnOk P w K mg base CX0 3 (fAt mg "check_look_seats") (fdAt K mg "check_look_seats") ["value"] (sp_seats K) := by
  refine T.d_check_look_seats.F.ok sc_check_look_seats (fun vs H Q E h => ?_) (fun cdv A outer s H vs Q E hr h => ?_)
  · obtain ⟨s, rfl, _⟩ := h
    rfl
  · obtain ⟨s, rfl, h1, h5, q⟩ := h
    refine ⟨_, (pss_one (ps_if (pt_not (pt_val (pcall (ok_is_between T) T.d_is_between hr (by decide) (by rfl) (pa_cons (pv 0) (pa_cons (pe_int) (pa_cons (pe_glob (v := .int 5) (by rfl) T.mMOST_OF_LOOKS.choose_spec ⟨_, rfl⟩) pa_nil)))))) (pss_one (ps_never)) pss_nil)), ?_⟩
    exact ⟨_, rfl, _, _, _, rfl, by omega, by omega, true, rfl, q⟩
theorem ok_check_looks (T : Tx K mg) : FnOk P w K mg base CX0 7 (fAt mg "check_looks") (fdAt K mg "check_looks") ["seats", "value"] (sp_wrong_look K) := by
  refine T.d_check_looks.F.ok sc_check_looks (fun vs H Q E h => ?_) (fun cdv A outer s H vs Q E hr h => ?_)
  · obtain ⟨s, n, v, L, rfl, _⟩ := h
    rfl
  · obtain ⟨s, n, v, L, rfl, hL, ok, q⟩ := h
    refine ⟨_, (pss_cons (ps_expr (pcall (ok_check_look_seats T) T.d_check_look_seats hr (by decide) (by rfl) (pa_cons (pv 0) pa_nil)))
  (pss_cons (ps_set (i := 2) sc_check_looks.nd rfl (Or.inl rfl) (pcall (ok_wrong_look T) T.d_wrong_look hr (by decide) (by rfl) (pa_cons (pv 0) (pa_cons (pv 1) pa_nil))))
  (pss_one (ps_if (pt_cmpR op_notN (pv 2) (pe_non) (nomark _)) (pss_one (ps_never)) pss_nil)))), ?_⟩
    refine ⟨_, rfl, s, rfl, ok.s1, ok.s5, ?_⟩
    refine ⟨_, rfl, _, rfl, s, n, v, L, rfl, hL, ok, fun x H1 e hx => ?_⟩
    subst hx
    exact ⟨_, rfl, rfl, _, rfl, q _ _ e rfl⟩
end
end K86
set_option Elab.async false
set_option linter.all false
set_option maxRecDepth 100000
set_option maxHeartbeats 4000000
set_option exponentiation.threshold 20000
/-! One exchange. -/
namespace K86
open PySem PySem.Spec PyProof.Rows L2 KM
/-- a comprehension with a test, over a Walk: what passes the test is listed -/
theorem lc_fil {J : It} {n : Nat} {G : Hp → Prop} {Y : Nat → Hp → V → Hp → Prop} (w : Walk J n G Y) (hn : n ≤ 1000) {g : TG} {tt : TT} {te : TE} {vs : List Nat} {σ : L2.St} {H1 : Hp} {D : Addr} {Qd : Hp → Prop} (hD : H1 D = none) (c : Nat → Prop) (P : Nat → VP) (st : ∀ i, i < n → Stay (P i)) (stD : ∀ i, i < n → StayD D (P i))
    (hG : ∀ H, Same H1 H → G H)
    (turn : ∀ i x H H' (Ry : VK) (Rn : Hp → Prop), i < n → Same H1 H → Y i H x H' → (c i → ∀ y H3, Same H H3 → P i y H3 → Ry y H3) → (¬ c i → ∀ H3, Same H H3 → Rn H3) → g x (wipe σ vs) H' fun σ2 H2 => wipe σ2 vs = wipe σ vs ∧ tt σ2 H2 fun b H3 => if b = true then te σ2 H3 Ry else Rn H3)
    (done : ∀ H us, Same H1 H → H D = some (.lst us) → us.length ≤ n → (∀ u, u ∈ us → ∃ i, i < n ∧ c i ∧ P i u H) → (∀ i, i < n → c i → ∃ u, u ∈ us ∧ P i u H) → Qd H) :
    Lists J g tt te vs σ H1 D Qd := by
  refine lc_it w (fun i H => i ≤ n ∧ Same H1 H ∧ ∃ us, H D = some (.lst us) ∧ us.length ≤ i ∧ (∀ u, u ∈ us → ∃ k, k < i ∧ c k ∧ P k u H) ∧ (∀ k, k < i → c k → ∃ u, u ∈ us ∧ P k u H)) ⟨Nat.zero_le _, same_new hD, [], upd_same, Nat.le_refl _, (fun u hu => absurd hu List.not_mem_nil), (fun k hk => by omega)⟩ (fun i H _ p => hG H p.2.1) (fun i x H H' hi p hy => ?_) fun H p => ?_
  · obtain ⟨p0, p1, acc, p2, p3, p4, p5⟩ := p
    refine turn i x H H' _ _ hi p1 hy (fun hc y H4 s1 s2 => ⟨acc, s1 _ _ p2, Nat.lt_of_lt_of_le (by omega : acc.length < 1000) (by decide), by omega, same_mut (p1.trans s1) hD, acc ++ [y], upd_same, by rw [List.length_append]; show acc.length + 1 ≤ i + 1; omega, fun u hu => ?_, fun k hk hck => ?_⟩) (fun hc H4 s1 => ⟨by omega, p1.trans s1, acc, s1 _ _ p2, by omega, fun u hu => ?_, fun k hk hck => ?_⟩)
    · rcases List.mem_append.mp hu with h | h
      · obtain ⟨k, h1, h2, h3⟩ := p4 u h
        exact ⟨k, by omega, h2, stD k (by omega) u H4 _ acc (s1 _ _ p2) keep_upd (st k (by omega) u H H4 s1 h3)⟩
      · cases List.mem_singleton.mp h
        exact ⟨i, by omega, hc, stD i hi y H4 _ acc (s1 _ _ p2) keep_upd s2⟩
    · by_cases e : k < i
      · obtain ⟨u, h1, h2⟩ := p5 k e hck
        exact ⟨u, List.mem_append.mpr (.inl h1), stD k (by omega) u H4 _ acc (s1 _ _ p2) keep_upd (st k (by omega) u H H4 s1 h2)⟩
      · obtain rfl : k = i := by omega
        exact ⟨y, List.mem_append.mpr (.inr (List.mem_singleton.mpr rfl)), stD k hi y H4 _ acc (s1 _ _ p2) keep_upd s2⟩
    · obtain ⟨k, h1, h2, h3⟩ := p4 u hu
      exact ⟨k, by omega, h2, st k (by omega) u H H4 s1 h3⟩
    · by_cases e : k < i
      · obtain ⟨u, h1, h2⟩ := p5 k e hck
        exact ⟨u, h1, st k (by omega) u H H4 s1 h2⟩
      · obtain rfl : k = i := by omega
        exact absurd hck hc
  · obtain ⟨p0, p1, acc, p2, p3, p4, p5⟩ := p
    exact done H acc p1 p2 p3 p4 p5
/-- a row that is not the list at R -/
def RowN (K : PySem.W.Frag) (R : Addr) (w : Nat) (f : Nat → Rat) : VP := fun v H => ∃ a, v = .ref a ∧ a ≠ R ∧ ArL w (fun j => Fr K (f j)) a H
def Rows (K : PySem.W.Frag) (R : Addr) (m w : Nat) (t : Nat → Nat → Rat) (H : Hp) : Prop := ArL m (fun i => RowN K R w (t i)) R H
theorem arl_keep {K : PySem.W.Frag} {n : Nat} {g : Nat → Rat} {a D : Addr} {H H' : Hp} {xs : List V} (h : ArL n (fun j => Fr K (g j)) a H) (hD : H D = some (.lst xs)) (ha : a ≠ D) (e : Keep D H H') : ArL n (fun j => Fr K (g j)) a H' :=
  let ⟨vs, h1, h2, h3⟩ := h; ⟨vs, e _ _ ha h1, h2, fun i hi => let ⟨v, e1, e2⟩ := h3 i hi; ⟨v, e1, fr_stayD _ _ _ _ hD e e2⟩⟩
theorem row_stay {K : PySem.W.Frag} {R : Addr} {w : Nat} {f : Nat → Rat} : Stay (RowN K R w f) := fun _ _ _ e ⟨a, h1, h2, h3⟩ => ⟨a, h1, h2, h3.mono e fun _ _ => fr_stay⟩
theorem row_stayR {K : PySem.W.Frag} {R : Addr} {w : Nat} {f : Nat → Rat} : StayD R (RowN K R w f) := fun _ _ _ _ hD e ⟨a, h1, h2, h3⟩ => ⟨a, h1, h2, arl_keep h3 hD h2 e⟩
theorem Rows.mono {K : PySem.W.Frag} {R : Addr} {m w : Nat} {t : Nat → Nat → Rat} {H H' : Hp} (h : Rows K R m w t H) (e : Same H H') : Rows K R m w t H' := ArL.mono h e fun _ _ => row_stay
/-- a row takes another's place -/
theorem arl_set {n : Nat} {P P' : Nat → VP} {a : Addr} {H H' : Hp} {vs : List V} {i : Nat} {v : V} (h1 : H a = some (.lst vs)) (h2 : vs.length = n) (h3 : ∀ k, k < n → ∃ v, vs[k]? = some v ∧ P k v H) (hi : i < n) (h1' : H' a = some (.lst (vs.set i v))) (hv : P' i v H') (st : ∀ k, k < n → k ≠ i → ∀ u, P k u H → P' k u H') : ArL n P' a H' := by
  refine ⟨vs.set i v, h1', by rw [List.length_set]; exact h2, fun k hk => ?_⟩
  by_cases e : k = i
  · subst e
    exact ⟨v, by rw [List.getElem?_set_self (by omega)], hv⟩
  · obtain ⟨u, e1, e2⟩ := h3 k hk
    exact ⟨u, by rw [List.getElem?_set_ne (fun z => e z.symm)]; exact e1, st k hk e u e2⟩
theorem kx_tup {X : Cx} {K : PySem.W.Frag} (h : X.K = K) : IxR X (rIxT K) := h ▸ ix_tup
theorem kx_list {X : Cx} {K : PySem.W.Frag} (h : X.K = K) : IxR X (rIxL K) := h ▸ ix_list
theorem bd_neg {b : Nat} {r : Rat} (h : Bd b r) : Bd b (-r) := ⟨by show (-r.num).natAbs < _; rw [Int.natAbs_neg]; exact h.1, h.2⟩
theorem Sz.bd {b : Nat} {r : Rat} (h : Sz b r) : Bd b r := by
  obtain ⟨N, D, h1, h2, h3, h4⟩ := h
  have hD : ((D : Int) : Rat) ≠ 0 := fun q => by have := Rat.intCast_eq_zero_iff.mp q; omega
  have e : r = (N : Rat) / (D : Rat) := by grind
  obtain ⟨e1, e2⟩ := num_den (n := N) (m := D) h1
  have g0 := gcd_pos (n := N) (m := D) (by omega)
  rw [← e] at e1 e2
  refine ⟨?_, ?_⟩
  · rw [e1]
    have : (N / ((Nat.gcd N.natAbs D.natAbs : Nat) : Int)).natAbs ≤ N.natAbs := Int.natAbs_ediv_le_natAbs _ _
    omega
  · have : (D / ((Nat.gcd N.natAbs D.natAbs : Nat) : Int)).natAbs ≤ D.natAbs := Int.natAbs_ediv_le_natAbs _ _
    have e3 : r.den = (D / ((Nat.gcd N.natAbs D.natAbs : Nat) : Int)).natAbs := by rw [← e2, Int.natAbs_natCast]
    omega
theorem Bd.sz {b : Nat} {r : Rat} (h : Bd b r) : Sz b r := ⟨r.num, r.den, by have := r.den_pos; omega, by rw [Int.natAbs_natCast]; exact h.2, h.1, (nd r).symm⟩
theorem pow_two_mul {x y a b : Nat} (hx : x < 2 ^ a) (hy : y < 2 ^ b) : x * y < 2 ^ (a + b) := by
  rw [Nat.pow_add]
  exact Nat.mul_lt_mul'' hx hy
theorem Sz.add {a b : Nat} {r s : Rat} (h : Sz a r) (k : Sz b s) : Sz (a + b + 1) (r + s) := by
  obtain ⟨N, D, h1, h2, h3, h4⟩ := h
  obtain ⟨M, E, k1, k2, k3, k4⟩ := k
  have p1 := pow_two_mul h3 k2
  have p2 := pow_two_mul h2 k3
  have p3 := pow_two_mul h2 k2
  have pp : 2 ^ (a + b + 1) = 2 ^ (a + b) + 2 ^ (a + b) := by rw [Nat.pow_succ]; omega
  rw [← Int.natAbs_mul] at p1 p2 p3
  refine ⟨N * E + D * M, D * E, Int.mul_pos h1 k1, by omega, by omega, ?_⟩
  rw [Rat.intCast_mul, Rat.intCast_add, Rat.intCast_mul, Rat.intCast_mul, ← h4, ← k4]; grind
theorem Bd.mul {a b : Nat} {r s : Rat} (h : Bd a r) (k : Bd b s) : Bd (a + b) (r * s) := Sz.bd (Sz.mul h.sz k.sz)
theorem Bd.add {a b : Nat} {r s : Rat} (h : Bd a r) (k : Bd b s) : Bd (a + b + 1) (r + s) := Sz.bd (Sz.add h.sz k.sz)
theorem Bd.sub {a b : Nat} {r s : Rat} (h : Bd a r) (k : Bd b s) : Bd (a + b + 1) (r - s) := by
  rw [show r - s = r + -s by grind]
  exact h.add (bd_neg k)
theorem Bd.inv {a : Nat} {r : Rat} (h : Bd a r) (h0 : r ≠ 0) : Bd a (1 / r) := Sz.bd (Sz.inv h.sz h0)
theorem Bd.div {a b : Nat} {r s : Rat} (h : Bd a r) (k : Bd b s) (h0 : s ≠ 0) : Bd (a + b) (r / s) := by
  rw [show r / s = r * (1 / s) by grind]
  exact h.mul (k.inv h0)
theorem bd_one {b : Nat} (h : 0 < b) : Bd b 1 := by
  refine ⟨?_, ?_⟩ <;> exact Nat.lt_of_lt_of_le (show 1 < 2 ^ 1 by decide) (Nat.pow_le_pow_right (by decide) h)
theorem bd_zero {b : Nat} (h : 0 < b) : Bd b 0 := by
  refine ⟨Nat.pow_pos (by decide), ?_⟩
  exact Nat.lt_of_lt_of_le (show 1 < 2 ^ 1 by decide) (Nat.pow_le_pow_right (by decide) h)
theorem fr_zero {mg : Str → Option Value} {K : PySem.W.Frag} (T : Tx K mg) {H : Hp} : Fr K 0 (.ref (fAt mg "ZERO")) H := ⟨_, rfl, T.tZERO H⟩
theorem fr_one {mg : Str → Option Value} {K : PySem.W.Frag} (T : Tx K mg) {H : Hp} : Fr K 1 (.ref (fAt mg "ONE")) H := ⟨_, rfl, T.tONE H⟩
theorem xch_rc (d : Dic) (r c : Nat) : (xch d r c).t r c = 1 / d.t r c := xch_pivot d r c
theorem xch_rj (d : Dic) {r c j : Nat} (h : j ≠ c) : (xch d r c).t r j = -(d.t r j / d.t r c) := by
  show (if r = r then (if j = c then _ else _) else _) = _
  rw [if_pos rfl, if_neg h]
theorem xch_ic (d : Dic) {r c i : Nat} (h : i ≠ r) : (xch d r c).t i c = d.t i c * (1 / d.t r c) := by
  show (if i = r then _ else (if c = c then _ else _)) = _
  rw [if_neg h, if_pos rfl]
theorem xch_ij (d : Dic) {r c i j : Nat} (h : i ≠ r) (h2 : j ≠ c) : (xch d r c).t i j = d.t i j + d.t i c * (-(d.t r j / d.t r c)) := by
  show (if i = r then _ else (if j = c then _ else _)) = _
  rw [if_neg h, if_neg h2]
theorem ixn {n j : Nat} (h : j < n) : ixN n ((j : Nat) : Int) = some j := by
  have h1 : ¬ ((j : Nat) : Int) < 0 := by omega
  have h2 : ((j : Nat) : Int) < (n : Int) := by omega
  simp [ixN, h1, h2]
  try omega
section
variable {P : Program} {w : World} {K : PySem.W.Frag} {mg : Str → Option Value} {base : Heap}
abbrev s_exchange : Stmt := topS 31
abbrev n_exchange : List Str := ["rows", "place", "column", "here", "own", "solved", "at", "factor", "moved", "each", "new"]
theorem sc_exchange : FnScope n_exchange ["rows", "place", "column"] (defScope s_exchange) := ⟨rfl, rfl, rfl, by decide +kernel, rfl, by decide +kernel, by decide +kernel⟩
def sp_exchange (K : PySem.W.Frag) : Sp := fun vs H Q _ => ∃ (R : Addr) (m n r c : Nat) (d : Dic), vs = [.ref R, .int (r : Nat), .int (c : Nat)] ∧ Rows K R m n d.t H ∧ m ≤ 1000 ∧ n ≤ 1000 ∧ r < m ∧ c < n ∧ d.t r c ≠ 0 ∧ (∀ i j, i < m → j < n → Bd 1000 (d.t i j)) ∧ ∀ H', Keep R H H' → Rows K R m n (xch d r c).t H' → Q .non H'
theorem ok_exchange (T : Tx K mg) : FnOk P w K mg base CX0 5 (fAt mg "exchange") (fdAt K mg "exchange") ["rows", "place", "column"] (sp_exchange K) := by
  refine T.d_exchange.F.ok sc_exchange (fun vs H Q E h => ?_) (fun cdv A outer s H vs Q E hr h => ?_)
  · obtain ⟨R, m, n, r, c, d, rfl, _⟩ := h
    rfl
  · obtain ⟨R, m, n, r, c, d, rfl, hR, hm, hn, hrm, hcn, h0, bd, q⟩ := h
    refine ⟨_, (pss_cons (ps_set (i := 3) sc_exchange.nd rfl (Or.inl rfl) (pe_ix ix_list (pv 0) (pv 1) (fun _ _ => rfl)))
  (pss_cons (ps_set (i := 4) sc_exchange.nd rfl (Or.inr rfl) (pe_ix ix_list (pv 3) (pv 2) (fun _ _ => rfl)))
  (pss_cons (ps_setLc (i := 5) (own := [("each", 9)]) rfl sc_exchange.nd rfl rfl (sw_true rfl rfl rfl (by decide +kernel)) (pi_list (pv 3)) (blkOk_by (own := [("each", 9)]) (N := n_exchange) (sc := defScope s_exchange) (by decide +kernel)) (fun _ _ _ _ _ => pg_name (i := 9) sc_exchange.nd rfl (Or.inl rfl)) (fun _ _ _ _ _ => pts_nil) (fun _ _ _ _ _ => pcall (ok_opposite_of T) T.d_opposite_of hr (by decide) (by rfl) (pa_cons (pcall (ok_over T) T.d_over hr (by decide) (by rfl) (pa_cons (pv 9) (pa_cons (pv 4) pa_nil))) pa_nil)))
  (pss_cons (ps_asg (pcall (ok_over T) T.d_over hr (by decide) (by rfl) (pa_cons (pe_glob (v := .ref (fAt mg "ONE")) (by rfl) T.mONE rfl) (pa_cons (pv 4) pa_nil))) (pg_sub (pv 5) (pv 2) set_list))
  (pss_cons (ps_for PassesOwn.never rfl (pi_range1 (by rfl) T.n_range (pa_cons (pe_callB call_len_seq (by rfl) T.n_len (by decide +kernel) (pa_cons (pv 0) pa_nil)) pa_nil)) (pg_name (i := 6) sc_exchange.nd rfl (Or.inl rfl)) (pss_one (ps_if (pt_cmpR op_ne (pv 6) (pv 1) (nomark _)) (pss_cons (ps_set (i := 7) sc_exchange.nd rfl (Or.inr rfl) (pe_ix ix_list (pe_ix ix_list (pv 0) (pv 6) (fun _ _ => rfl)) (pv 2) (fun _ _ => rfl)))
  (pss_cons (ps_setLc (i := 8) (own := [("each", 9), ("new", 10)]) (g := gTup K 2 (gCons (gName 9) (gCons (gName 10) (gNil)))) rfl sc_exchange.nd rfl rfl (sw_true rfl rfl rfl (by decide +kernel)) (pi_zip (by rfl) T.n_zip (pa_cons (pe_ix ix_list (pv 0) (pv 6) (fun _ _ => rfl)) (pa_cons (pv 5) pa_nil))) (blkOk_by (own := [("each", 9), ("new", 10)]) (N := n_exchange) (sc := defScope s_exchange) (by decide +kernel)) (fun _ _ _ _ _ => pg_tup rfl (pgs_cons (pg_name (i := 9) sc_exchange.nd rfl (Or.inl rfl)) (pgs_cons (pg_name (i := 10) sc_exchange.nd rfl (Or.inl rfl)) pgs_nil))) (fun _ _ _ _ _ => pts_nil) (fun _ _ _ _ _ => pcall (ok_plus T) T.d_plus hr (by decide) (by rfl) (pa_cons (pv 9) (pa_cons (pcall (ok_times T) T.d_times hr (by decide) (by rfl) (pa_cons (pv 7) (pa_cons (pv 10) pa_nil))) pa_nil))))
  (pss_cons (ps_asg (pcall (ok_times T) T.d_times hr (by decide) (by rfl) (pa_cons (pv 7) (pa_cons (pe_ix ix_list (pv 5) (pv 2) (fun _ _ => rfl)) pa_nil))) (pg_sub (pv 8) (pv 2) set_list))
  (pss_one (ps_asg (pv 8) (pg_sub (pv 0) (pv 6) set_list)))))) pss_nil)))
  (pss_one (ps_asg (pv 5) (pg_sub (pv 0) (pv 1) set_list)))))))), ?_⟩
    obtain ⟨vs, r1, r2, r3⟩ := hR
    obtain ⟨vr, er, ar, rfl, nr, hrow⟩ := r3 r hrm
    obtain ⟨us, u1, u2, u3⟩ := hrow
    obtain ⟨vo, eo, fo⟩ := u3 c hcn
    refine ⟨_, rfl, _, rfl, _, _, r, _, rfl, rfl, SqL.of r1, atI_nat er, ?_⟩
    refine ⟨_, rfl, _, rfl, _, _, c, _, rfl, rfl, SqL.of u1, atI_nat eo, ?_⟩
    -- the pivot row solved
    refine ⟨_, rfl, ar, rfl, ⟨us, SqL.of u1⟩, fun S hS => lc_all (walk_list (K := K) (a := ar) (xs := us)) (by omega) hS (fun j => Fr K (-(d.t r j / d.t r c))) (fun _ _ => fr_stay) (fun _ _ => fr_stayD) (fun H' e => SqL.of (e _ _ u1)) ?_ ?_⟩
    · rintro j x H1 H2 Rk hj e ⟨acc, hacc⟩ ⟨rfl, hx⟩ rk
      obtain ⟨x', ex, fx⟩ := u3 j (by omega)
      obtain rfl : x = x' := Option.some.inj (hx.symm.trans ex)
      refine ⟨rfl, x, rfl, vo, rfl, x, vo, _, _, rfl, fx.mono e, fo.mono e, (bd r j hrm (by omega)).mono (by decide), (bd r c hrm hcn).mono (by decide), h0, fun y H3 e3 hy => ?_⟩
      exact ⟨y, _, rfl, hy, fun z H4 e4 hz => rk _ _ (e3.trans e4) hz⟩
    · rintro H1 e1 ⟨ss, s1, s2, s3⟩
      refine ⟨vo, rfl, .ref (fAt mg "ONE"), vo, 1, d.t r c, rfl, fr_one T, fo.mono e1, bd_one (by decide), (bd r c hrm hcn).mono (by decide), h0, fun y H2 e2 hy => ?_⟩
      have s1' := e2 _ _ s1
      refine ⟨_, rfl, _, rfl, S, ss, c, c, rfl, rfl, s1', ixn (by omega), ?_⟩
      have A2 : ArL n (fun j => Fr K ((xch d r c).t r j)) S (upd H2 S (.lst (ss.set c y))) := by
        refine arl_set (P := fun j => Fr K (-(d.t r j / d.t r c))) s1' (by omega) (fun k hk => ?_) hcn upd_same ?_ fun k hk hne u hu => ?_
        · obtain ⟨v, h1, h2⟩ := s3 k (by omega)
          exact ⟨v, h1, h2.mono e2⟩
        · show Fr K ((xch d r c).t r c) y _
          rw [xch_rc]
          exact fr_stayD _ _ _ _ s1' keep_upd hy
        · show Fr K ((xch d r c).t r k) u _
          rw [xch_rj d hne]
          exact fr_stayD _ _ _ _ s1' keep_upd hu
      have e3 : Same H (upd H2 S (.lst (ss.set c y))) := same_mut (e1.trans e2) hS
      generalize upd H2 S (.lst (ss.set c y)) = H3 at A2 e3
      have nSR : S ≠ R := fun z => by rw [z, r1] at hS; cases hS
      have R3 : Rows K R m n d.t H3 := Rows.mono ⟨vs, r1, r2, r3⟩ e3
      clear hy s1' s1 s2 s3 e1 e2
      -- the loop
      refine ⟨_, rfl, R, vs, rfl, .inl (SqL.of (e3 _ _ r1)), _, rfl, by omega, by omega, for_range (lo := 0) (n := ((vs.length : Nat) : Int).toNat) (fun i σ H' => Keep R H H' ∧ Rows K R m n (fun k j => if k < i ∧ k ≠ r then (xch d r c).t k j else d.t k j) H' ∧ ArL n (fun j => Fr K ((xch d r c).t r j)) S H' ∧ ∃ y6 y7 y8, σ = [some (.ref R), some (.int (r : Nat)), some (.int (c : Nat)), some (.ref ar), some vo, some (.ref S), y6, y7, y8, none, none]) ⟨Same.keep e3, ?_, A2, _, _, _, rfl⟩ ?_ ?_⟩
      · have : (fun k j => if k < 0 ∧ k ≠ r then (xch d r c).t k j else d.t k j) = d.t := by
          funext k j
          rw [if_neg (by omega)]
        rw [this]
        exact R3
      · rintro i σ H' hi ⟨ke, ⟨ws, w1, w2, w3⟩, hS', y6, y7, y8, rfl⟩
        have hi' : i < m := by omega
        rw [Int.zero_add]
        refine ⟨_, rfl, _, rfl, rfl, _, rfl, ?_⟩
        by_cases e : i = r
        · rw [decide_eq_true (show V.int ((i : Nat) : Int) = V.int (r : Nat) by rw [e])]
          have : (fun k j => if k < i + 1 ∧ k ≠ r then (xch d r c).t k j else d.t k j) = (fun k j => if k < i ∧ k ≠ r then (xch d r c).t k j else d.t k j) := by
            funext k j
            by_cases h : k < i ∧ k ≠ r
            · rw [if_pos h, if_pos (by omega)]
            · rw [if_neg h, if_neg (by omega)]
          refine ⟨ke, ?_, hS', _, _, _, rfl⟩
          rw [this]
          exact ⟨ws, w1, w2, w3⟩
        · rw [decide_eq_false (show ¬ V.int ((i : Nat) : Int) = V.int (r : Nat) by intro z; have := V.int.inj z; omega)]
          obtain ⟨vi, ei, ai, rfl, ni, us', u1', u2', u3'⟩ := w3 i hi'
          have cur : ∀ j, (if i < i ∧ i ≠ r then (xch d r c).t i j else d.t i j) = d.t i j := fun j => by rw [if_neg (by omega)]
          obtain ⟨vf, ef, ff⟩ := u3' c hcn
          have ff : Fr K (d.t i c) vf H' := by rw [← cur c]; exact ff
          obtain ⟨ss, s1, s2, s3⟩ := hS'
          refine ⟨_, rfl, _, rfl, _, _, i, _, rfl, rfl, SqL.of w1, atI_nat ei, ?_⟩
          refine ⟨_, rfl, _, _, c, _, rfl, rfl, SqL.of u1', atI_nat ef, ?_⟩
          refine ⟨_, rfl, _, rfl, _, _, i, _, rfl, rfl, SqL.of w1, atI_nat ei, _, rfl, ai, S, us', ss, rfl, SqL.of u1', SqL.of s1, fun D hD => lc_all (n := n) (walk_zip (K := K) (by omega)) hn hD (fun j => Fr K (d.t i j + d.t i c * (xch d r c).t r j)) (fun _ _ => fr_stay) (fun _ _ => fr_stayD) (fun H2 e2 => ⟨SqL.of (e2 _ _ u1'), SqL.of (e2 _ _ s1)⟩) ?_ ?_⟩
          · rintro j x H1 H2 Rk hj e1 ⟨acc, hacc⟩ ⟨t, x1, x2, rfl, ht, rfl, hx1, hx2⟩ rk
            obtain ⟨z1, q1, f1⟩ := u3' j hj
            obtain rfl : x1 = z1 := Option.some.inj (hx1.symm.trans q1)
            obtain ⟨z2, q2, f2⟩ := s3 j hj
            obtain rfl : x2 = z2 := Option.some.inj (hx2.symm.trans q2)
            have f1 : Fr K (d.t i j) x1 H' := by rw [← cur j]; exact f1
            have e2 := e1.trans (same_new (o := .tup [x1, x2]) ht)
            have bx : Bd 2000 ((xch d r c).t r j) := by
              by_cases hjc : j = c
              · rw [hjc, xch_rc]
                exact ((bd r c hrm hcn).inv h0).mono (by decide)
              · rw [xch_rj d hjc]
                exact bd_neg ((bd r j hrm hj).div (bd r c hrm hcn) h0)
            refine ⟨t, _, rfl, SqT.of upd_same, rfl, _, _, rfl, _, _, rfl, rfl, rfl, ?_⟩
            refine ⟨_, rfl, _, rfl, _, rfl, vf, x2, d.t i c, _, rfl, ff.mono e2, f2.mono e2, (bd i c hi' hcn).mono (by decide), bx.mono (by decide), trivial, fun y H3 e3 hy => ?_⟩
            exact ⟨x1, y, _, _, rfl, (f1.mono e2).mono e3, hy, (bd i j hi' hj).mono (by decide), ((bd i c hi' hcn).mul bx).mono (by decide), trivial, fun u H4 e4 hu => rk _ _ ((same_new ht).trans (e3.trans e4)) hu⟩
          · rintro H1 e1 ⟨ns, n1, n2, n3⟩
            obtain ⟨vc, ec, fc⟩ := s3 c hcn
            have bc : Bd 2000 ((xch d r c).t r c) := by
              rw [xch_rc]
              exact ((bd r c hrm hcn).inv h0).mono (by decide)
            refine ⟨_, rfl, _, rfl, _, rfl, _, _, c, _, rfl, rfl, SqL.of (e1 _ _ s1), atI_nat ec, vf, vc, d.t i c, _, rfl, ff.mono e1, fc.mono e1, (bd i c hi' hcn).mono (by decide), bc.mono (by decide), trivial, fun y H2 e2 hy => ?_⟩
            have n1' := e2 _ _ n1
            refine ⟨_, rfl, _, rfl, D, ns, c, c, rfl, rfl, n1', ixn (by omega), ?_⟩
            have A2 : ArL n (fun j => Fr K ((xch d r c).t i j)) D (upd H2 D (.lst (ns.set c y))) := by
              refine arl_set (P := fun j => Fr K (d.t i j + d.t i c * (xch d r c).t r j)) n1' (by omega) (fun k hk => ?_) hcn upd_same ?_ fun k hk hne u hu => ?_
              · obtain ⟨v, h1, h2⟩ := n3 k (by omega)
                exact ⟨v, h1, h2.mono e2⟩
              · show Fr K ((xch d r c).t i c) y _
                rw [xch_ic d e, ← xch_rc]
                exact fr_stayD _ _ _ _ n1' keep_upd hy
              · show Fr K ((xch d r c).t i k) u _
                rw [xch_ij d e hne, ← xch_rj d hne]
                exact fr_stayD _ _ _ _ n1' keep_upd hu
            have e3 : Same H' (upd H2 D (.lst (ns.set c y))) := same_mut (e1.trans e2) hD
            generalize upd H2 D (.lst (ns.set c y)) = H3 at A2 e3
            have nDR : D ≠ R := fun z => by rw [z, w1] at hD; cases hD
            have w1' := e3 _ _ w1
            refine ⟨_, rfl, _, rfl, _, rfl, R, ws, i, i, rfl, rfl, w1', ixn (by omega), ?_⟩
            refine ⟨(ke.trans (Same.keep e3)).trans keep_upd, ?_, ?_, _, _, _, rfl⟩
            · refine arl_set (P := fun k => RowN K R n ((fun k j => if k < i ∧ k ≠ r then (xch d r c).t k j else d.t k j) k)) w1' w2 (fun k hk => ?_) hi' upd_same ⟨D, rfl, nDR, ?_⟩ fun k hk hne u hu => ?_
              · obtain ⟨v, h1, h2⟩ := w3 k hk
                exact ⟨v, h1, row_stay _ _ _ e3 h2⟩
              · have : (fun j => if i < i + 1 ∧ i ≠ r then (xch d r c).t i j else d.t i j) = (xch d r c).t i := by
                  funext j
                  rw [if_pos (by omega)]
                show ArL n (fun j => Fr K ((fun j => if i < i + 1 ∧ i ≠ r then (xch d r c).t i j else d.t i j) j)) D _
                rw [this]
                exact arl_keep A2 w1' nDR keep_upd
              · have : (fun j => if k < i + 1 ∧ k ≠ r then (xch d r c).t k j else d.t k j) = (fun j => if k < i ∧ k ≠ r then (xch d r c).t k j else d.t k j) := by
                  funext j
                  by_cases h : k < i ∧ k ≠ r
                  · rw [if_pos h, if_pos (by omega)]
                  · rw [if_neg h, if_neg (by omega)]
                dsimp only
                rw [this]
                exact row_stayR _ _ _ _ w1' keep_upd hu
            · exact arl_keep (ArL.mono ⟨ss, s1, s2, s3⟩ e3 fun _ _ => fr_stay) w1' nSR keep_upd
      · rintro σ H' ⟨ke, ⟨ws, w1, w2, w3⟩, hS', y6, y7, y8, rfl⟩
        refine ⟨_, rfl, _, rfl, _, rfl, R, ws, r, r, rfl, rfl, w1, ixn (by omega), ?_⟩
        refine q _ (ke.trans keep_upd) ?_
        refine arl_set (P := fun k => RowN K R n ((fun k j => if k < ((vs.length : Nat) : Int).toNat ∧ k ≠ r then (xch d r c).t k j else d.t k j) k)) w1 w2 w3 hrm upd_same ⟨S, rfl, nSR, arl_keep hS' w1 nSR keep_upd⟩ fun k hk hne u hu => ?_
        have : (fun j => if k < ((vs.length : Nat) : Int).toNat ∧ k ≠ r then (xch d r c).t k j else d.t k j) = (xch d r c).t k := by
          funext j
          rw [if_pos (by omega)]
        rw [← this]
        exact row_stayR _ _ _ _ w1 keep_upd hu
end
end K86
set_option Elab.async false
set_option linter.all false
set_option maxRecDepth 100000
set_option maxHeartbeats 4000000
set_option exponentiation.threshold 20000
/-! The names picked. -/
namespace K86
open PySem PySem.Spec PyProof.Rows L2 KM
/-- a list of whole numbers -/
def Ints (n : Nat) (f : Nat → Nat) (a : Addr) (H : Hp) : Prop := H a = some (.lst ((List.range n).map fun i => .int ((f i : Nat) : Int)))
theorem Ints.mono {n : Nat} {f : Nat → Nat} {a : Addr} {H H' : Hp} (h : Ints n f a H) (e : Same H H') : Ints n f a H' := e _ _ h
theorem ints_at {n : Nat} {f : Nat → Nat} {i : Nat} (hi : i < n) : ((List.range n).map fun i => V.int ((f i : Nat) : Int))[i]? = some (.int ((f i : Nat) : Int)) := by
  rw [List.getElem?_map, List.getElem?_range hi]
  rfl
theorem ints_len {n : Nat} {f : Nat → Nat} : ((List.range n).map fun i => V.int ((f i : Nat) : Int)).length = n := by rw [List.length_map, List.length_range]
theorem ints_lt {n : Nat} {f : Nat → Nat} {i : Nat} {v : V} (h : ((List.range n).map fun i => V.int ((f i : Nat) : Int))[i]? = some v) : i < n ∧ v = .int ((f i : Nat) : Int) := by
  have hi := (List.getElem?_eq_some_iff.mp h).1
  rw [ints_len] at hi
  rw [ints_at hi] at h
  exact ⟨hi, (Option.some.inj h).symm⟩
/-- what the rule finds -/
structure Least (m n : Nat) (d : Dic) (q : Nat) : Prop where
  is : (∃ i, i < m ∧ d.t i 0 < 0 ∧ q = d.B i) ∨ (∃ j, 1 ≤ j ∧ j ≤ n ∧ 0 < d.t m j ∧ q = d.N j)
  low : ∀ i, i < m → d.t i 0 < 0 → q ≤ d.B i
  high : ∀ j, 1 ≤ j → j ≤ n → 0 < d.t m j → q ≤ d.N j
theorem num_neg {r : Rat} : r.num < 0 ↔ r < 0 := by
  constructor
  · intro h
    refine Classical.byContradiction fun z => ?_
    have := Rat.num_nonneg.mpr (show 0 ≤ r by grind)
    omega
  · intro h
    refine Classical.byContradiction fun z => ?_
    have := Rat.num_nonneg.mp (show 0 ≤ r.num by omega)
    grind
theorem num_pos {r : Rat} : 0 < r.num ↔ 0 < r := by
  constructor
  · intro h
    refine Classical.byContradiction fun z => ?_
    by_cases e : r = 0
    · subst e; exact absurd h (by decide)
    · have := num_neg.mpr (show r < 0 by grind)
      omega
  · exact num_pos_of
theorem all_ints {us : List V} {S : Nat → Prop} {f : Nat → Nat} (h : ∀ u, u ∈ us → ∃ i, S i ∧ u = .int ((f i : Nat) : Int)) : ∃ ns : List Int, us = ns.map V.int ∧ ∀ x, x ∈ ns → ∃ i, S i ∧ x = ((f i : Nat) : Int) := by
  induction us with
  | nil => exact ⟨[], rfl, fun x hx => absurd hx List.not_mem_nil⟩
  | cons u us ih =>
    obtain ⟨ns, e1, e2⟩ := ih fun u hu => h u (List.mem_cons_of_mem _ hu)
    obtain ⟨i, h1, h2⟩ := h u (List.mem_cons_self ..)
    refine ⟨((f i : Nat) : Int) :: ns, by rw [h2, e1]; rfl, fun x hx => ?_⟩
    rcases List.mem_cons.mp hx with rfl | hx
    · exact ⟨i, h1, rfl⟩
    · exact e2 x hx
theorem ints_lay (ns : List Int) : SeqAt.shaped (.list (ns.map .int)) = true := by
  have h1 : (PyData.list (ns.map .int)).canLay0 = true := by
    unfold PyData.canLay0
    induction ns with
    | nil => rfl
    | cons n ns ih =>
      rw [List.map_cons]
      unfold PyData.canLayAll0
      rw [ih]
      rfl
  have h2 : (PyData.list (ns.map .int)).depth ≤ 64 := by
    clear h1
    unfold PyData.depth
    have : PyData.depthAll (ns.map .int) ≤ 2 := by
      induction ns with
      | nil => exact Nat.zero_le _
      | cons n ns ih =>
        rw [List.map_cons]
        unfold PyData.depthAll
        have : (PyData.int n).depth ≤ 2 := by unfold PyData.depth; omega
        omega
    omega
  unfold SeqAt.shaped
  rw [h1]
  simp [h2]
theorem ints_dp {K : PySem.W.Frag} {H : Hp} {a : Addr} {ns : List Int} (h : H a = some (.lst (ns.map V.int))) : Dp K H (.ref a) (.list (ns.map .int)) := by
  refine .lst (SqL.of h) ?_
  clear h
  induction ns with
  | nil => exact .nil
  | cons n ns ih => exact .cons (.int n) ih
theorem ints_ne (ns : List Int) : PyData.eqv (.list (ns.map .int)) (.list []) = ns.isEmpty := by
  cases ns <;> rfl
theorem maps_app (ns ms : List Int) : ns.map V.int ++ ms.map V.int = (ns ++ ms).map V.int := (List.map_append).symm
theorem cut1 (xs : List V) (h : 1 ≤ xs.length) : cutV xs (some 1) none = xs.drop 1 := by
  show List.take (xs.length - (if (1 : Int) < 0 then ((1 : Int) + (xs.length : Nat)).toNat else min (1 : Int).toNat xs.length)) (List.drop (if (1 : Int) < 0 then ((1 : Int) + (xs.length : Nat)).toNat else min (1 : Int).toNat xs.length) xs) = _
  rw [if_neg (by omega), show min (1 : Int).toNat xs.length = 1 by omega]
  exact List.take_of_length_le (by rw [List.length_drop]; omega)
theorem at_end {xs : List V} {m : Nat} {v : V} (h : xs.length = m + 1) (e : xs[m]? = some v) : atI xs (-1) = some v := by
  show (ixN xs.length (-1)).bind _ = _
  have : ixN xs.length (-1) = some m := by
    unfold ixN
    rw [if_neg (by omega), if_pos (by omega)]
    congr 1
    omega
  rw [this]
  exact e
/-- .. with the list of the turns that passed -/
theorem lc_fil2 {J : It} {n : Nat} {G : Hp → Prop} {Y : Nat → Hp → V → Hp → Prop} (w : Walk J n G Y) (hn : n ≤ 1000) {g : TG} {tt : TT} {te : TE} {vs : List Nat} {σ : L2.St} {H1 : Hp} {D : Addr} {Qd : Hp → Prop} (hD : H1 D = none) (c : Nat → Prop) (P : Nat → VP) (st : ∀ i, i < n → Stay (P i)) (stD : ∀ i, i < n → StayD D (P i))
    (hG : ∀ H, Same H1 H → G H)
    (turn : ∀ i x H H' (Ry : VK) (Rn : Hp → Prop), i < n → Same H1 H → Y i H x H' → (c i → ∀ y H3, Same H H3 → P i y H3 → Ry y H3) → (¬ c i → ∀ H3, Same H H3 → Rn H3) → g x (wipe σ vs) H' fun σ2 H2 => wipe σ2 vs = wipe σ vs ∧ tt σ2 H2 fun b H3 => if b = true then te σ2 H3 Ry else Rn H3)
    (done : ∀ H us (is : List Nat), Same H1 H → H D = some (.lst us) → us.length = is.length → is.length ≤ n → (∀ k, k ∈ is ↔ k < n ∧ c k) → (∀ (k j : Nat), is[k]? = some j → ∃ u, us[k]? = some u ∧ P j u H) → Qd H) :
    Lists J g tt te vs σ H1 D Qd := by
  refine lc_it w (fun i H => i ≤ n ∧ Same H1 H ∧ ∃ (us : List V) (is : List Nat), H D = some (.lst us) ∧ us.length = is.length ∧ is.length ≤ i ∧ (∀ k, k ∈ is ↔ k < i ∧ c k) ∧ (∀ (k j : Nat), is[k]? = some j → ∃ u, us[k]? = some u ∧ P j u H)) ⟨Nat.zero_le _, same_new hD, [], [], upd_same, rfl, Nat.le_refl _, (fun k => ⟨fun z => absurd z List.not_mem_nil, fun z => by omega⟩), (fun k j z => by simp at z)⟩ (fun i H _ p => hG H p.2.1) (fun i x H H' hi p hy => ?_) fun H p => ?_
  · obtain ⟨p0, p1, acc, is, p2, p3, p3', p4, p5⟩ := p
    have keep : ∀ {H4 : Hp} {y : V}, Same H H4 → ∀ k j, is[k]? = some j → ∃ u, acc[k]? = some u ∧ P j u (upd H4 D (.lst (acc ++ [y]))) := fun {H4 y} s1 k j hk => by
      obtain ⟨u, h1, h2⟩ := p5 k j hk
      have hj := ((p4 j).mp (List.mem_of_getElem? hk)).1
      exact ⟨u, h1, stD j (by omega) u H4 _ acc (s1 _ _ p2) keep_upd (st j (by omega) u H H4 s1 h2)⟩
    refine turn i x H H' _ _ hi p1 hy (fun hc y H4 s1 s2 => ⟨acc, s1 _ _ p2, Nat.lt_of_lt_of_le (by omega : acc.length < 1000) (by decide), by omega, same_mut (p1.trans s1) hD, acc ++ [y], is ++ [i], upd_same, by rw [List.length_append, List.length_append, p3]; rfl, by rw [List.length_append]; show is.length + 1 ≤ i + 1; omega, fun k => ?_, fun k j hk => ?_⟩) (fun hc H4 s1 => ⟨by omega, p1.trans s1, acc, is, s1 _ _ p2, p3, by omega, fun k => ?_, fun k j hk => ?_⟩)
    · rw [List.mem_append, List.mem_singleton, p4 k]
      constructor
      · rintro (⟨h1, h2⟩ | rfl)
        · exact ⟨by omega, h2⟩
        · exact ⟨by omega, hc⟩
      · rintro ⟨h1, h2⟩
        by_cases e : k = i
        · exact .inr e
        · exact .inl ⟨by omega, h2⟩
    · by_cases e : k < is.length
      · rw [List.getElem?_append_left e] at hk
        obtain ⟨u, h1, h2⟩ := keep (y := y) s1 k j hk
        exact ⟨u, by rw [List.getElem?_append_left (by omega)]; exact h1, h2⟩
      · rw [List.getElem?_append_right (by omega)] at hk
        have : k - is.length = 0 := by
          have := (List.getElem?_eq_some_iff.mp hk).1
          simp at this
          omega
        rw [this] at hk
        obtain rfl : i = j := Option.some.inj hk
        exact ⟨y, by rw [List.getElem?_append_right (by omega), show k - acc.length = 0 by omega]; rfl, stD i hi y H4 _ acc (s1 _ _ p2) keep_upd s2⟩
    · rw [p4 k]
      constructor
      · rintro ⟨h1, h2⟩
        exact ⟨by omega, h2⟩
      · rintro ⟨h1, h2⟩
        by_cases e : k = i
        · exact absurd (e ▸ h2) hc
        · exact ⟨by omega, h2⟩
    · obtain ⟨u, h1, h2⟩ := p5 k j hk
      have hj := ((p4 j).mp (List.mem_of_getElem? hk)).1
      exact ⟨u, h1, st j (by omega) u H H4 s1 h2⟩
  · obtain ⟨p0, p1, acc, is, p2, p3, p3', p4, p5⟩ := p
    exact done H acc is p1 p2 p3 p3' p4 p5
theorem pairs_dp {K : PySem.W.Frag} {H : Hp} {f : Nat → Nat} : ∀ (is : List Nat) (us : List V), us.length = is.length → (∀ (k j : Nat), is[k]? = some j → ∃ u : V, us[k]? = some u ∧ ∃ p, u = .ref p ∧ SqT K H p [.int ((f j : Nat) : Int), .int ((j : Nat) : Int)]) → DpAll K H us ((is.map fun j => (((f j : Nat) : Int), ((j : Nat) : Int))).map pairD)
  | [], us, h, _ => by
    obtain rfl : us = [] := List.length_eq_zero_iff.mp h
    exact .nil
  | i :: is, u :: us, h, hp => by
    obtain ⟨u', h1, p, rfl, h2⟩ := hp 0 i rfl
    obtain rfl : u = .ref p := Option.some.inj h1
    refine .cons (.tup h2 (.cons (.int _) (.cons (.int _) .nil))) (pairs_dp is us (by simpa using h) fun k j hk => hp (k + 1) j hk)
  | _ :: _, [], h, _ => by simp at h
theorem pairs_lay (ps : List (Int × Int)) : SeqAt.shaped (.list (ps.map pairD)) = true := by
  have h2 : (PyData.list (ps.map pairD)).depth ≤ 64 := by
    unfold PyData.depth
    have := depth_pairs ps
    omega
  have h1 : (PyData.list (ps.map pairD)).canLay0 = true := by
    unfold PyData.canLay0
    clear h2
    induction ps with
    | nil => rfl
    | cons n ns ih =>
      rw [List.map_cons]
      unfold PyData.canLayAll0
      rw [ih]
      rfl
  unfold SeqAt.shaped
  rw [h1]
  simp [h2]
theorem pairs_ne (ps : List (Int × Int)) : PyData.eqv (.list (ps.map pairD)) (.list []) = ps.isEmpty := by
  cases ps <;> rfl
theorem dp_pair {K : PySem.W.Frag} {H : Hp} {v : V} {r : Int × Int} (h : Dp K H v (pairD r)) : ∃ p, v = .ref p ∧ SqT K H p [.int r.1, .int r.2] := by
  unfold pairD at h
  cases h with
  | tup h1 h2 =>
    cases h2 with
    | cons a h2 =>
      cases h2 with
      | cons b h2 =>
        cases a
        cases b
        cases h2
        exact ⟨_, rfl, h1⟩
section
variable {P : Program} {w : World} {K : PySem.W.Frag} {mg : Str → Option Value} {base : Heap}
abbrev s_wrong_name : Stmt := topS 32
abbrev n_wrong_name : List Str := ["rows", "names", "others", "low", "high", "name", "row", "each"]
theorem sc_wrong_name : FnScope n_wrong_name ["rows", "names", "others"] (defScope s_wrong_name) := ⟨rfl, rfl, rfl, by decide +kernel, rfl, by decide +kernel, by decide +kernel⟩
abbrev s_least_with : Stmt := topS 33
abbrev n_least_with : List Str := ["names", "numbers", "sign", "found", "at", "name", "number"]
theorem sc_least_with : FnScope n_least_with ["names", "numbers", "sign"] (defScope s_least_with) := ⟨rfl, rfl, rfl, by decide +kernel, rfl, by decide +kernel, by decide +kernel⟩
def sp_wrong_name (K : PySem.W.Frag) : Sp := fun vs H Q _ => ∃ (R NA OT : Addr) (m n : Nat) (d : Dic), vs = [.ref R, .ref NA, .ref OT] ∧ Rows K R (m + 1) (n + 1) d.t H ∧ Ints m d.B NA H ∧ Ints n (fun j => d.N (j + 1)) OT H ∧ m ≤ 400 ∧ n ≤ 400 ∧
  Gives (fun v _ => (v = .non ∧ Done m n d) ∨ ∃ q : Nat, v = .int (q : Nat) ∧ Least m n d q) H Q
theorem ok_wrong_name (T : Tx K mg) : FnOk P w K mg base CX0 1 (fAt mg "wrong_name") (fdAt K mg "wrong_name") ["rows", "names", "others"] (sp_wrong_name K) := by
  refine T.d_wrong_name.F.ok sc_wrong_name (fun vs H Q E h => ?_) (fun cdv A outer s H vs Q E hr h => ?_)
  · obtain ⟨R, NA, OT, m, n, d, rfl, _⟩ := h
    rfl
  · obtain ⟨R, NA, OT, m, n, d, rfl, hR, hN, hO, hm, hn, q⟩ := h
    refine ⟨_, (pss_cons (ps_setLc (i := 3) (own := [("name", 5), ("row", 6)]) (g := gTup K 2 (gCons (gName 5) (gCons (gName 6) (gNil)))) rfl sc_wrong_name.nd rfl rfl (sw_true rfl rfl rfl (by decide +kernel)) (pi_zip (by rfl) T.n_zip (pa_cons (pv 1) (pa_cons (pv 0) pa_nil))) (blkOk_by (own := [("name", 5), ("row", 6)]) (N := n_wrong_name) (sc := defScope s_wrong_name) (by decide +kernel)) (fun _ _ _ _ _ => pg_tup rfl (pgs_cons (pg_name (i := 5) sc_wrong_name.nd rfl (Or.inl rfl)) (pgs_cons (pg_name (i := 6) sc_wrong_name.nd rfl (Or.inl rfl)) pgs_nil))) (fun _ _ _ _ _ => pts_one (pt_cmpR op_lt (pe_ix (kx_tup (K := K) rfl) (pe_ix (kx_list (K := K) rfl) (pv 6) (pe_int) (fun _ _ => rfl)) (pe_int) (fun _ _ => rfl)) (pe_int) (nomark _))) (fun _ _ _ _ _ => pv 5))
  (pss_cons (ps_setLc (i := 4) (own := [("name", 5), ("each", 7)]) (g := gTup K 2 (gCons (gName 5) (gCons (gName 7) (gNil)))) rfl sc_wrong_name.nd rfl rfl (sw_true rfl rfl rfl (by decide +kernel)) (pi_zip (by rfl) T.n_zip (pa_cons (pv 2) (pa_cons (pe_slice sl_list (pe_ix ix_list (pv 0) (pe_un un_neg (pe_int)) (fun _ _ => rfl)) (po_some (pe_int)) po_none) pa_nil))) (blkOk_by (own := [("name", 5), ("each", 7)]) (N := n_wrong_name) (sc := defScope s_wrong_name) (by decide +kernel)) (fun _ _ _ _ _ => pg_tup rfl (pgs_cons (pg_name (i := 5) sc_wrong_name.nd rfl (Or.inl rfl)) (pgs_cons (pg_name (i := 7) sc_wrong_name.nd rfl (Or.inl rfl)) pgs_nil))) (fun _ _ _ _ _ => pts_one (pt_cmpR op_gt (pe_ix (kx_tup (K := K) rfl) (pv 7) (pe_int) (fun _ _ => rfl)) (pe_int) (nomark _))) (fun _ _ _ _ _ => pv 5))
  (pss_one (ps_ret (pe_ifExp (pt_cmpR (op_neD hr.units) (pe_op op_cat (pv 3) (pv 4)) (pe_lst pa_nil) (nomark _)) (pe_callB (cr_min rfl) (by rfl) T.n_min (by decide +kernel) (pa_cons (pe_op op_cat (pv 3) (pv 4)) pa_nil)) (pe_non)))))), ?_⟩
    obtain ⟨vs, r1, r2, r3⟩ := hR
    have hNl := hN
    -- the rows below 0
    refine ⟨_, rfl, _, rfl, NA, R, _, _, rfl, SqL.of hN, SqL.of r1, fun D hD => lc_fil (n := m) (walk_zip (K := K) (by rw [ints_len]; omega)) (by omega) hD (fun i => d.t i 0 < 0) (fun i v _ => v = .int ((d.B i : Nat) : Int)) (fun _ _ _ _ _ _ h => h) (fun _ _ _ _ _ _ _ _ h => h) (fun H2 e2 => ⟨SqL.of (e2 _ _ hN), SqL.of (e2 _ _ r1)⟩) ?_ ?_⟩
    · rintro i x H1 H2 Ry Rn hi e1 ⟨t, x1, x2, rfl, ht, rfl, hx1, hx2⟩ yes no
      obtain ⟨_, rfl⟩ := ints_lt hx1
      obtain ⟨z2, q2, ai, rfl, ni, us, u1, u2, u3⟩ := r3 i (by omega)
      obtain rfl : x2 = .ref ai := Option.some.inj (hx2.symm.trans q2)
      obtain ⟨v0, e0, a0, rfl, f0⟩ := u3 0 (by omega)
      have en := same_new (o := .tup [.int ((d.B i : Nat) : Int), .ref ai]) ht
      have e2 := e1.trans en
      refine ⟨t, _, rfl, SqT.of upd_same, rfl, _, _, rfl, _, _, rfl, rfl, rfl, ?_⟩
      refine ⟨_, rfl, _, _, 0, _, rfl, rfl, SqL.of (e2 _ _ u1), atI_nat e0, _, _, 0, _, rfl, rfl, sqt_mono e2 f0, at0, _, _, rfl, rfl, _, rfl, ?_⟩
      by_cases c : d.t i 0 < 0
      · rw [decide_eq_true (num_neg.mpr c)]
        exact ⟨_, rfl, yes c _ _ en rfl⟩
      · rw [decide_eq_false (fun z => c (num_neg.mp z))]
        exact no c _ en
    · intro H1 us e1 d1 dl d2 d3
      obtain ⟨ns, rfl, dn⟩ := all_ints (S := fun i => i < m ∧ d.t i 0 < 0) (f := d.B) fun u hu => by
        obtain ⟨i, h1, h2, h3⟩ := d2 u hu
        exact ⟨i, ⟨h1, h2⟩, h3⟩
      obtain ⟨vm, em, am, rfl, nm, um, m1, m2, m3⟩ := r3 m (by omega)
      have hlast : atI vs (-1) = some (.ref am) := at_end r2 em
      refine ⟨_, rfl, _, rfl, _, rfl, _, _, -1, _, rfl, rfl, SqL.of (e1 _ _ r1), hlast, _, rfl, am, um, rfl, SqL.of (e1 _ _ m1), fun p hp => ?_⟩
      rw [cut1 um (by omega)]
      have ep := same_new (o := .lst (um.drop 1)) hp
      have e1p := e1.trans ep
      refine ⟨OT, p, _, _, rfl, SqL.of (e1p _ _ hO), SqL.of upd_same, fun D2 hD2 => lc_fil (n := n) (walk_zip (K := K) (by rw [ints_len, List.length_drop]; omega)) (by omega) hD2 (fun j => 0 < d.t m (j + 1)) (fun j v _ => v = .int ((d.N (j + 1) : Nat) : Int)) (fun _ _ _ _ _ _ h => h) (fun _ _ _ _ _ _ _ _ h => h) (fun H2 e2 => ⟨SqL.of ((e1p.trans e2) _ _ hO), SqL.of (e2 _ _ upd_same)⟩) ?_ ?_⟩
      · rintro j x H2 H3 Ry Rn hj e2 ⟨t, x1, x2, rfl, ht, rfl, hx1, hx2⟩ yes no
        obtain ⟨_, rfl⟩ := ints_lt hx1
        have hx2 : (um.drop 1)[j]? = some x2 := hx2
        rw [List.getElem?_drop, Nat.add_comm] at hx2
        obtain ⟨z2, q2, a2, rfl, f2⟩ := m3 (j + 1) (by omega)
        obtain rfl : x2 = .ref a2 := Option.some.inj (hx2.symm.trans q2)
        have en := same_new (o := .tup [.int ((d.N (j + 1) : Nat) : Int), .ref a2]) ht
        have e3 := (e1p.trans e2).trans en
        refine ⟨t, _, rfl, SqT.of upd_same, rfl, _, _, rfl, _, _, rfl, rfl, rfl, ?_⟩
        refine ⟨_, rfl, _, _, 0, _, rfl, rfl, sqt_mono e3 f2, at0, _, _, rfl, rfl, _, rfl, ?_⟩
        by_cases c : 0 < d.t m (j + 1)
        · rw [decide_eq_true (num_pos.mpr c)]
          exact ⟨_, rfl, yes c _ _ en rfl⟩
        · rw [decide_eq_false (fun z => c (num_pos.mp z))]
          exact no c _ en
      · intro H2 us2 e2 g1 gl g2 g3
        obtain ⟨ms, rfl, dm⟩ := all_ints (S := fun j => j < n ∧ 0 < d.t m (j + 1)) (f := fun j => d.N (j + 1)) fun u hu => by
          obtain ⟨i, h1, h2, h3⟩ := g2 u hu
          exact ⟨i, ⟨h1, h2⟩, h3⟩
        have d1' := (ep.trans e2) _ _ d1
        have e12 := e1p.trans e2
        have sz : (ns.map V.int).length + (ms.map V.int).length ≤ sizeLine := Nat.le_trans (show _ ≤ 1000 by omega) (by decide)
        have low : ∀ i, i < m → d.t i 0 < 0 → ((d.B i : Nat) : Int) ∈ ns ++ ms := fun i hi c => by
          obtain ⟨u, h1, h2⟩ := d3 i hi c
          rw [h2] at h1
          obtain ⟨x, h3, h4⟩ := List.mem_map.mp h1
          cases h4
          exact List.mem_append.mpr (.inl h3)
        have high : ∀ j, 1 ≤ j → j ≤ n → 0 < d.t m j → ((d.N j : Nat) : Int) ∈ ns ++ ms := fun j h1 h2 c => by
          obtain ⟨u, h1, h2⟩ := g3 (j - 1) (by omega) (by rw [show j - 1 + 1 = j by omega]; exact c)
          rw [h2, show j - 1 + 1 = j by omega] at h1
          obtain ⟨x, h3, h4⟩ := List.mem_map.mp h1
          cases h4
          exact List.mem_append.mpr (.inr h3)
        refine ⟨_, rfl, _, rfl, _, _, _, _, rfl, rfl, d1', g1, sz, fun c1 hc1 => ?_⟩
        rw [maps_app]
        have ec1 := same_new (o := .lst ((ns ++ ms).map V.int)) hc1
        refine ⟨by show 0 ≤ sizeLine; decide, fun c2 hc2 => ?_⟩
        have ec2 := same_new (o := .lst []) hc2
        refine ⟨_, _, ints_dp (ec2 _ _ upd_same), ints_dp (ns := []) upd_same, ints_lay _, ints_lay [], _, rfl, ?_⟩
        have e13 := e12.trans (ec1.trans ec2)
        have ev : PyData.eqv (.list ((ns ++ ms).map .int)) (.list (([] : List Int).map .int)) = (ns ++ ms).isEmpty := ints_ne _
        rw [ev]
        by_cases emp : ns ++ ms = []
        · rw [show (ns ++ ms).isEmpty = true by rw [emp]; rfl]
          rw [emp] at low high
          refine q _ _ e13 (.inl ⟨rfl, ⟨fun i hi => ?_, fun j h1 h2 => ?_⟩⟩)
          · refine Classical.byContradiction fun c => List.not_mem_nil (low i hi (by grind))
          · refine Classical.byContradiction fun c => List.not_mem_nil (high j h1 h2 (by grind))
        · have : (ns ++ ms).isEmpty = false := by
            cases h : ns ++ ms with
            | nil => exact absurd h emp
            | cons _ _ => rfl
          rw [this]
          have len : 0 < (ns ++ ms).length := by
            cases h : ns ++ ms with
            | nil => exact absurd h emp
            | cons _ _ => exact Nat.succ_pos _
          refine ⟨_, rfl, _, rfl, _, _, _, _, rfl, rfl, (ec1.trans ec2) _ _ d1', (ec1.trans ec2) _ _ g1, sz, fun c3 hc3 => ?_⟩
          rw [maps_app]
          refine ⟨c3, ns ++ ms, rfl, SqL.of upd_same, len, fun x hx hle => ?_⟩
          have all : ∃ k : Nat, x = ((k : Nat) : Int) ∧ ((∃ i, i < m ∧ d.t i 0 < 0 ∧ k = d.B i) ∨ (∃ j, 1 ≤ j ∧ j ≤ n ∧ 0 < d.t m j ∧ k = d.N j)) := by
            rcases List.mem_append.mp hx with h | h
            · obtain ⟨i, ⟨h1, h2⟩, rfl⟩ := dn x h
              exact ⟨_, rfl, .inl ⟨i, h1, h2, rfl⟩⟩
            · obtain ⟨j, ⟨h1, h2⟩, rfl⟩ := dm x h
              exact ⟨_, rfl, .inr ⟨j + 1, by omega, by omega, h2, rfl⟩⟩
          obtain ⟨k, rfl, hk⟩ := all
          refine q _ _ (e13.trans (same_new hc3)) (.inr ⟨k, rfl, hk, fun i hi c => ?_, fun j h1 h2 c => ?_⟩)
          · have := hle _ (low i hi c)
            omega
          · have := hle _ (high j h1 h2 c)
            omega
/-- the place of the least name whose number has the sign -/
def sp_least (K : PySem.W.Frag) : Sp := fun vs H Q _ => ∃ (a b : Addr) (n : Nat) (f : Nat → Nat) (g : Nat → Rat) (sg : Int), vs = [.ref a, .ref b, .int sg] ∧ Ints n f a H ∧ ArL n (fun i => Fr K (g i)) b H ∧ n ≤ 400 ∧
  Gives (fun v _ => (v = .non ∧ ∀ i, i < n → sgn (g i).num ≠ sg) ∨ ∃ c : Nat, c < n ∧ v = .int (c : Nat) ∧ sgn (g c).num = sg ∧ ∀ i, i < n → sgn (g i).num = sg → f c ≤ f i) H Q
theorem ok_least_with (T : Tx K mg) : FnOk P w K mg base CX0 2 (fAt mg "least_with") (fdAt K mg "least_with") ["names", "numbers", "sign"] (sp_least K) := by
  refine T.d_least_with.F.ok sc_least_with (fun vs H Q E h => ?_) (fun cdv A outer s H vs Q E hr h => ?_)
  · obtain ⟨a, b, n, f, g, sg, rfl, _⟩ := h
    rfl
  · obtain ⟨a, b, n, f, g, sg, rfl, hA, hB, hn, q⟩ := h
    refine ⟨_, (pss_cons (ps_setLc (i := 3) (own := [("at", 4), ("name", 5), ("number", 6)]) (g := gTup K 2 (gCons (gName 4) (gCons (gTup K 2 (gCons (gName 5) (gCons (gName 6) (gNil)))) (gNil)))) rfl sc_least_with.nd rfl rfl (sw_true rfl rfl rfl (by decide +kernel)) (pi_enumZip (by rfl) T.n_enumerate (by rfl) T.n_zip (pa_cons (pv 0) (pa_cons (pv 1) pa_nil))) (blkOk_by (own := [("at", 4), ("name", 5), ("number", 6)]) (N := n_least_with) (sc := defScope s_least_with) (by decide +kernel)) (fun _ _ _ _ _ => pg_tup rfl (pgs_cons (pg_name (i := 4) sc_least_with.nd rfl (Or.inl rfl)) (pgs_cons (pg_tup rfl (pgs_cons (pg_name (i := 5) sc_least_with.nd rfl (Or.inl rfl)) (pgs_cons (pg_name (i := 6) sc_least_with.nd rfl (Or.inl rfl)) pgs_nil))) pgs_nil))) (fun _ _ _ _ _ => pts_one (pt_cmpR op_eq (pcall (ok_sign_of T) T.d_sign_of hr (by decide) (by rfl) (pa_cons (pe_ix (kx_tup (K := K) rfl) (pv 6) (pe_int) (fun _ _ => rfl)) pa_nil)) (pv 2) (nomark _))) (fun _ _ _ _ _ => pe_tup (pa_cons (pv 5) (pa_cons (pv 4) pa_nil))))
  (pss_one (ps_ret (pe_ifExp (pt_cmpR (op_neD hr.units) (pv 3) (pe_lst pa_nil) (nomark _)) (pe_ix ix_tup (pe_callB (cr_minT rfl hr.units) (by rfl) T.n_min (by decide +kernel) (pa_cons (pv 3) pa_nil)) (pe_int) (fun _ _ => rfl)) (pe_non))))), ?_⟩
    obtain ⟨us, u1, u2, u3⟩ := hB
    refine ⟨_, rfl, _, rfl, a, b, _, _, rfl, SqL.of hA, SqL.of u1, fun D hD => lc_fil2 (n := n) (walk_enumZip (K := K) (by rw [ints_len]; omega)) (by omega) hD (fun i => sgn (g i).num = sg) (fun i v H => ∃ p, v = .ref p ∧ SqT K H p [.int ((f i : Nat) : Int), .int ((i : Nat) : Int)]) (fun _ _ _ _ _ e ⟨p, h1, h2⟩ => ⟨p, h1, sqt_mono e h2⟩) (fun _ _ _ _ _ _ hD e ⟨p, h1, h2⟩ => ⟨p, h1, sqt_keep hD e h2⟩) (fun H2 e2 => ⟨SqL.of (e2 _ _ hA), SqL.of (e2 _ _ u1)⟩) ?_ ?_⟩
    · rintro i x H1 H2 Ry Rn hi e1 ⟨t, u, x1, x2, rfl, ht, hu, hne, rfl, hx1, hx2⟩ yes no
      obtain ⟨_, rfl⟩ := ints_lt hx1
      obtain ⟨z2, q2, a2, rfl, f2⟩ := u3 i hi
      obtain rfl : x2 = .ref a2 := Option.some.inj (hx2.symm.trans q2)
      have en1 := same_new (o := .tup [.int ((f i : Nat) : Int), .ref a2]) ht
      have en2 : Same (upd H1 t (.tup [.int ((f i : Nat) : Int), .ref a2])) (upd (upd H1 t (.tup [.int ((f i : Nat) : Int), .ref a2])) u (.tup [.int ((i : Nat) : Int), .ref t])) := same_new (by rw [upd_ne hne]; exact hu)
      have en := en1.trans en2
      have e2 := e1.trans en
      refine ⟨u, _, rfl, SqT.of upd_same, rfl, _, _, rfl, _, _, rfl, t, _, rfl, SqT.of (en2 _ _ upd_same), rfl, _, _, rfl, _, _, rfl, rfl, rfl, rfl, ?_⟩
      refine ⟨_, rfl, _, _, 0, _, rfl, rfl, sqt_mono e2 f2, at0, _, rfl, _, rfl, rfl, _, rfl, ?_⟩
      by_cases c : sgn (g i).num = sg
      · rw [decide_eq_true (show V.int (sgn (g i).num) = V.int sg by rw [c])]
        refine ⟨_, rfl, _, rfl, by show 2 ≤ sizeLine; decide, fun p hp => yes c _ _ (en.trans (same_new hp)) ⟨p, rfl, SqT.of upd_same⟩⟩
      · rw [decide_eq_false (fun z => c (V.int.inj z))]
        exact no c _ en
    · intro H1 us is e1 d1 dl dn d2 d3
      refine ⟨_, rfl, by show 0 ≤ sizeLine; decide, fun c2 hc2 => ?_⟩
      have ec2 := same_new (o := .lst []) hc2
      have dp := pairs_dp (K := K) (H := upd H1 c2 (.lst [])) (f := f) is us dl fun k j hk => by
        obtain ⟨u, h1, p, h2, h3⟩ := d3 k j hk
        exact ⟨u, h1, p, h2, sqt_mono ec2 h3⟩
      refine ⟨_, _, .lst (SqL.of (ec2 _ _ d1)) dp, ints_dp (ns := []) upd_same, pairs_lay _, ints_lay [], _, rfl, ?_⟩
      have ev : PyData.eqv (.list ((is.map fun j => (((f j : Nat) : Int), ((j : Nat) : Int))).map pairD)) (.list (([] : List Int).map .int)) = is.isEmpty := by
        have := pairs_ne (is.map fun j => (((f j : Nat) : Int), ((j : Nat) : Int)))
        rw [show is.isEmpty = (is.map fun j => (((f j : Nat) : Int), ((j : Nat) : Int))).isEmpty by cases is <;> rfl]
        exact this
      rw [ev]
      have e12 := e1.trans ec2
      cases hz : is with
      | nil =>
        refine q _ _ e12 (.inl ⟨rfl, fun i hi c => ?_⟩)
        have := (d2 i).mpr ⟨hi, c⟩
        rw [hz] at this
        exact List.not_mem_nil this
      | cons i0 is0 =>
        refine ⟨_, rfl, D, us, _, rfl, SqL.of (ec2 _ _ d1), dp, by rw [List.length_map, hz]; exact Nat.succ_pos _, fun v r hr hle hv => ?_⟩
        obtain ⟨j, hj, rfl⟩ := List.mem_map.mp hr
        obtain ⟨p, rfl, hp⟩ := dp_pair hv
        obtain ⟨j1, j2⟩ := (d2 j).mp hj
        refine ⟨_, _, 1, _, rfl, rfl, hp, at1, q _ _ e12 (.inr ⟨j, j1, rfl, j2, fun i hi c => ?_⟩)⟩
        have := hle _ (List.mem_map.mpr ⟨i, (d2 i).mpr ⟨hi, c⟩, rfl⟩)
        have this : ((f j : Nat) : Int) ≤ ((f i : Nat) : Int) := this
        omega
end
end K86
set_option Elab.async false
set_option linter.all false
set_option maxRecDepth 100000
set_option maxHeartbeats 4000000
set_option exponentiation.threshold 20000
/-! The exchanges until nothing is wrong. -/
namespace K86
open PySem PySem.Spec PyProof.Rows L2 KM
/-- all but what stands at three places stays -/
def Keep3 (a b c : Addr) (H H' : Hp) : Prop := ∀ x o, x ≠ a → x ≠ b → x ≠ c → H x = some o → H' x = some o
theorem Keep3.trans {a b c : Addr} {H H1 H2 : Hp} (h : Keep3 a b c H H1) (k : Keep3 a b c H1 H2) : Keep3 a b c H H2 := fun x o h1 h2 h3 e => k x o h1 h2 h3 (h x o h1 h2 h3 e)
/-- the solver's problem, its sizes -/
structure Prob (n many : Nat) (A : Nat → Nat → Rat) (rew : Nat → Rat) : Prop where
  n1 : 1 ≤ n
  n9 : n ≤ 20
  m9 : many ≤ 20
  fits : ∃ p, Fits n many A p
  size : ∀ d, GoodL n many A rew d → ∀ i j, i ≤ many + 1 → j ≤ n → Bd 1000 (d.t i j)
def Tab (K : PySem.W.Frag) (n many : Nat) (R NA OT : Addr) (d : Dic) (H : Hp) : Prop := Rows K R (many + 2) (n + 1) d.t H ∧ Ints (many + 1) d.B NA H ∧ Ints n (fun j => d.N (j + 1)) OT H
theorem sgn_pos {x : Int} : sgn x = 1 ↔ 0 < x := by
  unfold sgn
  constructor <;> intro h
  · split at h <;> split at h <;> omega
  · rw [if_pos h, if_neg (by omega)]; rfl
theorem sgn_neg {x : Int} : sgn x = -1 ↔ x < 0 := by
  unfold sgn
  constructor <;> intro h
  · split at h <;> split at h <;> omega
  · rw [if_pos h, if_neg (by omega)]; rfl
theorem ints_set {n : Nat} {f : Nat → Nat} {r x : Nat} : ((List.range n).map fun i => V.int ((f i : Nat) : Int)).set r (.int ((x : Nat) : Int)) = (List.range n).map fun i => V.int (((if i = r then x else f i) : Nat) : Int) := by
  refine List.ext_getElem? fun i => ?_
  by_cases hi : i < n
  · rw [ints_at (f := fun i => if i = r then x else f i) hi]
    by_cases e : i = r
    · subst e
      rw [List.getElem?_set_self (by rw [ints_len]; exact hi), if_pos rfl]
    · rw [List.getElem?_set_ne (fun z => e z.symm), ints_at hi, if_neg e]
  · rw [List.getElem?_eq_none (by rw [List.length_set, ints_len]; omega), List.getElem?_eq_none (by rw [ints_len]; omega)]
theorem ints_flat {n : Nat} {f : Nat → Nat} : ((List.range n).map fun i => V.int ((f i : Nat) : Int)).all flatV = true := by
  rw [List.all_eq_true]
  intro x hx
  obtain ⟨i, _, rfl⟩ := List.mem_map.mp hx
  rfl
theorem ints_in {n : Nat} {f : Nat → Nat} {q : Nat} : inV (.int ((q : Nat) : Int)) ((List.range n).map fun i => V.int ((f i : Nat) : Int)) = true ↔ ∃ i, i < n ∧ f i = q := by
  unfold inV
  rw [List.any_eq_true]
  constructor
  · rintro ⟨v, hv, e⟩
    obtain ⟨i, hi, rfl⟩ := List.mem_map.mp hv
    have e : (((f i : Nat) : Int) == ((q : Nat) : Int)) = true := e
    have := eq_of_beq e
    exact ⟨i, List.mem_range.mp hi, by omega⟩
  · rintro ⟨i, hi, rfl⟩
    exact ⟨_, List.mem_map.mpr ⟨i, List.mem_range.mpr hi, rfl⟩, beq_self_eq_true (((f i : Nat) : Int))⟩
theorem cutm (xs : List V) {m : Nat} (h : xs.length = m + 1) : cutV xs none (some (-1)) = xs.take m := by
  show List.take ((if (-1 : Int) < 0 then ((-1 : Int) + (xs.length : Nat)).toNat else min (-1 : Int).toNat xs.length) - 0) (List.drop 0 xs) = _
  rw [if_pos (by omega), List.drop_zero]
  congr 1
  omega
theorem ints_keep {n : Nat} {f : Nat → Nat} {a : Addr} {H H' : Hp} {D : Addr} (h : Ints n f a H) (e : Keep D H H') (ha : a ≠ D) : Ints n f a H' := e _ _ ha h
/-- rows with a first entry are no list of whole numbers -/
theorem rows_ints {K : PySem.W.Frag} {R a : Addr} {m w n : Nat} {t : Nat → Nat → Rat} {H H' : Hp} {f : Nat → Nat} (h : Rows K R m w t H) (hw : 0 < w) (ha : Ints n f a H) (hR : a ≠ R) (e : Keep a H H') : Rows K R m w t H' := by
  obtain ⟨vs, r1, r2, r3⟩ := h
  refine ⟨vs, e _ _ (fun z => hR z.symm) r1, r2, fun i hi => ?_⟩
  obtain ⟨v, e1, b, rfl, nb, hb⟩ := r3 i hi
  refine ⟨_, e1, b, rfl, nb, arl_keep hb ha (fun z => ?_) e⟩
  subst z
  obtain ⟨us, u1, u2, u3⟩ := hb
  have u1 : some (HO.lst ((List.range n).map fun i => V.int ((f i : Nat) : Int))) = some (HO.lst us) := ha.symm.trans u1
  obtain ⟨v, h0, p, rfl, _⟩ := u3 0 hw
  cases u1
  have := (ints_lt h0).2
  cases this
section
variable {P : Program} {w : World} {K : PySem.W.Frag} {mg : Str → Option Value} {base : Heap}
abbrev s_crossed : Stmt := topS 34
abbrev n_crossed : List Str := ["rows", "names", "others", "name", "place", "column", "row"]
theorem sc_crossed : FnScope n_crossed ["rows", "names", "others"] (defScope s_crossed) := ⟨rfl, rfl, rfl, by decide +kernel, rfl, by decide +kernel, by decide +kernel⟩
def sp_crossed (K : PySem.W.Frag) : Sp := fun vs H Q _ => ∃ (R NA OT : Addr) (n many : Nat) (A : Nat → Nat → Rat) (rew : Nat → Rat), vs = [.ref R, .ref NA, .ref OT] ∧ Prob n many A rew ∧ NA ≠ R ∧ OT ≠ R ∧ OT ≠ NA ∧ Tab K n many R NA OT (dic0 n many A rew) H ∧
  ∀ d H', Last n many A rew d → Keep3 R NA OT H H' → Tab K n many R NA OT d H' → Q .non H'
theorem ok_crossed (T : Tx K mg) : FnOk P w K mg base CX0 6 (fAt mg "crossed") (fdAt K mg "crossed") ["rows", "names", "others"] (sp_crossed K) := by
  refine T.d_crossed.F.ok sc_crossed (fun vs H Q E h => ?_) (fun cdv A outer s H vs Q E hr h => ?_)
  · obtain ⟨R, NA, OT, n, many, A, rew, rfl, _⟩ := h
    rfl
  · obtain ⟨R, NA, OT, n, many, A, rew, rfl, pr, d1, d2, d3, hT, q⟩ := h
    refine ⟨_, (pss_one (ps_while PassesOwn.never (pt_val (pe_bl)) (pss_cons (ps_set (i := 3) sc_crossed.nd rfl (Or.inl rfl) (pcall (ok_wrong_name T) T.d_wrong_name hr (by decide) (by rfl) (pa_cons (pv 0) (pa_cons (pv 1) (pa_cons (pv 2) pa_nil)))))
  (pss_cons (ps_if (pt_cmpR op_isN (pv 3) (pe_non) (nomark _)) (pss_one (ps_ret (pe_non))) pss_nil)
  (pss_cons (ps_if (pt_cmpR op_in_seq (pv 3) (pv 1) (by rfl)) (pss_cons (ps_set (i := 4) sc_crossed.nd rfl (Or.inl rfl) (pe_bm PySem.F.plainAttrs_list PySem.F.slot_list_index PySem.F.type_list_index mt_index (pv 1) (pa_cons (pv 3) pa_nil)))
  (pss_cons (ps_set (i := 5) sc_crossed.nd rfl (Or.inr rfl) (pcall (ok_least_with T) T.d_least_with hr (by decide) (by rfl) (pa_cons (pv 2) (pa_cons (pe_slice sl_list (pe_ix ix_list (pv 0) (pv 4) (fun _ _ => rfl)) (po_some (pe_int)) po_none) (pa_cons (pe_int) pa_nil)))))
  (pss_one (ps_if (pt_cmpR op_isN (pv 5) (pe_non) (nomark _)) (pss_one (ps_ret (pv 4))) pss_nil)))) (pss_cons (ps_set (i := 5) sc_crossed.nd rfl (Or.inr rfl) (pe_bm PySem.F.plainAttrs_list PySem.F.slot_list_index PySem.F.type_list_index mt_index (pv 2) (pa_cons (pv 3) pa_nil)))
  (pss_one (ps_set (i := 4) sc_crossed.nd rfl (Or.inl rfl) (pcall (ok_least_with T) T.d_least_with hr (by decide) (by rfl) (pa_cons (pv 1) (pa_cons (pe_lc (own := [("row", 6)]) rfl sc_crossed.nd (pi_list (pe_slice sl_list (pv 0) po_none (po_some (pe_un un_neg (pe_int))))) (blkOk_by (own := [("row", 6)]) (N := n_crossed) (sc := defScope s_crossed) (by decide +kernel)) (fun _ _ _ _ _ => pg_name (i := 6) sc_crossed.nd rfl (Or.inl rfl)) (fun _ _ _ _ _ => pts_nil) (fun _ _ _ _ _ => pe_ix (kx_list (K := K) rfl) (pv 6) (pe_op op_add (pv 5) (pe_int)) (fun _ _ => rfl))) (pa_cons (pe_un un_neg (pe_int)) pa_nil))))))))
  (pss_cons (ps_expr (pcall (ok_exchange T) T.d_exchange hr (by decide) (by rfl) (pa_cons (pv 0) (pa_cons (pv 4) (pa_cons (pe_op op_add (pv 5) (pe_int)) pa_nil)))))
  (pss_one (ps_asg (pe_tup (pa_cons (pe_ix ix_list (pv 2) (pv 5) (fun _ _ => rfl)) (pa_cons (pe_ix ix_list (pv 1) (pv 4) (fun _ _ => rfl)) pa_nil))) (pg_tup rfl (pgs_cons (pg_sub (pv 1) (pv 4) set_list) (pgs_cons (pg_sub (pv 2) (pv 5) set_list) pgs_nil))))))))))), ?_⟩
    refine ⟨fun m σ H' => ∃ k d, m = 2 ^ (n + many + 1) - k ∧ Reach (many + 1) n (dic0 n many A rew) k d ∧ Tab K n many R NA OT d H' ∧ Keep3 R NA OT H H' ∧ ∃ y3 y4 y5, σ = [some (.ref R), some (.ref NA), some (.ref OT), y3, y4, y5, none], ⟨_, 0, _, rfl, Reach.start dic0_dis, hT, fun x o _ _ _ e => e, _, _, _, rfl⟩, ?_⟩
    rintro m0 σ H1 ⟨k, d, rfl, rch, ⟨tR, tN, tO⟩, ke, y3, y4, y5, rfl⟩
    obtain ⟨g, hk⟩ := rch.good dic0_B dic0_N
    have g : GoodL n many A rew d := g
    refine ⟨true, rfl, _, fun _ _ h => h, ?_⟩
    have n1 := pr.n1
    have n9 := pr.n9
    have m9 := pr.m9
    obtain ⟨p, hp⟩ := pr.fits
    -- what is wrong
    refine ⟨_, rfl, _, rfl, _, rfl, R, NA, OT, many + 1, n, d, rfl, tR, tN, tO, by omega, by omega, fun v H2 e2 hv => ?_⟩
    rcases hv with ⟨rfl, hd⟩ | ⟨qn, rfl, le⟩
    · refine ⟨_, rfl, rfl, _, rfl, ?_⟩
      exact q d H2 ⟨g, hd, k, rch⟩ (ke.trans fun x o _ _ _ h => e2 _ _ h) ⟨tR.mono e2, tN.mono e2, tO.mono e2⟩
    · refine ⟨_, rfl, rfl, _, rfl, ?_⟩
      rw [decide_eq_false (by intro z; cases z)]
      refine ⟨_, rfl, _, rfl, NA, _, rfl, .inl (SqL.of (tN.mono e2)), rfl, ints_flat, _, rfl, ?_⟩
      by_cases hin : ∃ i, i < many + 1 ∧ d.B i = qn
      · rw [show (if false = true then !inV (.int ((qn : Nat) : Int)) ((List.range (many + 1)).map fun i => V.int ((d.B i : Nat) : Int)) else inV (.int ((qn : Nat) : Int)) ((List.range (many + 1)).map fun i => V.int ((d.B i : Nat) : Int))) = true from ints_in.mpr hin]
        obtain ⟨r, hrm, hq⟩ := hin
        have neg : d.t r 0 < 0 := by
          rcases le.is with ⟨i, h1, h2, h3⟩ | ⟨j, h1, h2, h3, h4⟩
          · rw [g.dis.bb r i (by omega) (by omega) (by omega)]; exact h2
          · exact absurd (hq.trans h4) (g.dis.bn r j (by omega) h2)
        obtain ⟨vs, r1, r2, r3⟩ := tR.mono e2
        obtain ⟨vr, er, ar, rfl, nr, us, u1, u2, u3⟩ := r3 r (by omega)
        refine ⟨_, rfl, .inl ⟨rfl, _, SqL.of (tN.mono e2)⟩, _, rfl, NA, _, _, r, _, rfl, rfl, SqL.of (tN.mono e2), rfl, ints_flat, ints_at hrm, by rw [hq]; exact beq_self_eq_true ((qn : Nat) : Int), fun k' z hk' hz => ?_, ?_⟩
        · obtain ⟨h1, rfl⟩ := ints_lt hz
          refine beq_false_of_ne fun z2 => ?_
          have := g.dis.bb k' r (by omega) (by omega) (by omega)
          omega
        refine ⟨_, rfl, _, rfl, _, rfl, _, _, r, _, rfl, rfl, SqL.of r1, atI_nat er, _, rfl, ar, us, rfl, SqL.of u1, fun a5 ha5 => ?_⟩
        rw [cut1 us (by omega)]
        have e3 := same_new (o := .lst (us.drop 1)) ha5
        have e23 := e2.trans e3
        refine ⟨OT, a5, n, fun j => d.N (j + 1), fun j => d.t r (j + 1), 1, rfl, tO.mono e23, ⟨us.drop 1, upd_same, by rw [List.length_drop]; omega, fun j hj => ?_⟩, by omega, fun v H4 e4 hv => ?_⟩
        · obtain ⟨v, h1, h2⟩ := u3 (j + 1) (by omega)
          exact ⟨v, by rw [List.getElem?_drop, Nat.add_comm]; exact h1, h2.mono e3⟩
        rcases hv with ⟨rfl, hno⟩ | ⟨c, hcn, rfl, hc, hle⟩
        · exact absurd (no_row g hp hrm neg fun j h1 h2 => by
            obtain ⟨j, rfl⟩ : ∃ j', j = j' + 1 := ⟨j - 1, by omega⟩
            have := fun z => hno j (by omega) (sgn_pos.mpr (num_pos.mpr z))
            grind) id
        have rule : Rule (many + 1) n d r (c + 1) := ⟨⟨hrm, by omega, by omega⟩, .inl ⟨neg, fun i hi h => by rw [hq]; exact le.low i hi h, fun j h1 h2 h => by rw [hq]; exact le.high j h1 h2 h, num_pos.mp (sgn_pos.mp hc), fun j h1 h2 h => by
          obtain ⟨j, rfl⟩ : ∃ j', j = j' + 1 := ⟨j - 1, by omega⟩
          exact hle j (by omega) (sgn_pos.mpr (num_pos.mpr h))⟩⟩
        have eT := e23.trans e4
        refine ⟨_, rfl, rfl, _, rfl, ?_⟩
        rw [decide_eq_false (by intro z; cases z)]
        -- the exchange
        have rp := rule.pivot
        refine ⟨_, rfl, _, rfl, _, rfl, _, _, rfl, rfl, R, many + 2, n + 1, r, c + 1, d, rfl, tR.mono eT, by omega, by omega, by omega, by omega, rp, fun i j hi hj => pr.size d g i j (by omega) (by omega), fun H3 k3 R3 => ?_⟩
        have tN3 := ints_keep (tN.mono eT) k3 d1
        have tO3 := ints_keep (tO.mono eT) k3 d2
        refine ⟨_, rfl, _, rfl, _, _, c, _, rfl, rfl, SqL.of tO3, atI_nat (ints_at (f := fun j => d.N (j + 1)) hcn), _, rfl, _, rfl, _, _, r, _, rfl, rfl, SqL.of tN3, atI_nat (ints_at hrm), by show 2 ≤ sizeLine; decide, fun t ht => ?_⟩
        have e4 := same_new (o := .tup [.int ((d.N (c + 1) : Nat) : Int), .int ((d.B r : Nat) : Int)]) ht
        have tN4 := tN3.mono e4
        refine ⟨t, _, rfl, SqT.of upd_same, rfl, _, _, rfl, _, rfl, _, rfl, NA, _, r, r, rfl, rfl, tN4, ixn (by rw [ints_len]; exact hrm), ?_⟩
        have k5 : Keep NA (upd H3 t (.tup [.int ((d.N (c + 1) : Nat) : Int), .int ((d.B r : Nat) : Int)])) _ := keep_upd (D := NA) (o := .lst (((List.range (many + 1)).map fun i => V.int ((d.B i : Nat) : Int)).set r (.int ((d.N (c + 1) : Nat) : Int))))
        have tO5 := ints_keep (tO3.mono e4) k5 d3
        have R5 := rows_ints (R3.mono e4) (by omega) tN4 d1 k5
        refine ⟨_, _, rfl, _, rfl, _, rfl, OT, _, c, c, rfl, rfl, tO5, ixn (by rw [ints_len]; exact hcn), ?_⟩
        have k6 : Keep OT (upd (upd H3 t (.tup [.int ((d.N (c + 1) : Nat) : Int), .int ((d.B r : Nat) : Int)])) NA (.lst (((List.range (many + 1)).map fun i => V.int ((d.B i : Nat) : Int)).set r (.int ((d.N (c + 1) : Nat) : Int))))) _ := keep_upd (D := OT) (o := .lst (((List.range n).map fun i => V.int ((d.N (i + 1) : Nat) : Int)).set c (.int ((d.B r : Nat) : Int))))
        have R6 := rows_ints R5 (by omega) tO5 d2 k6
        refine ⟨rfl, 2 ^ (n + many + 1) - (k + 1), by omega, k + 1, xch d r (c + 1), rfl, rch.step rule, ⟨R6, ?_, ?_⟩, ?_, _, _, _, rfl⟩
        · show _ = some _
          rw [upd_ne (fun z => d3 z.symm), upd_same, ints_set]
          rfl
        · show _ = some _
          rw [upd_same, ints_set (f := fun i => d.N (i + 1))]
          congr 3
          funext i
          show V.int (((if i = c then d.B r else d.N (i + 1)) : Nat) : Int) = V.int (((if i + 1 = c + 1 then d.B r else d.N (i + 1)) : Nat) : Int)
          by_cases z : i = c
          · rw [if_pos z, if_pos (by omega)]
          · rw [if_neg z, if_neg (by omega)]
        · refine ke.trans fun x o h1 h2 h3 hx => ?_
          exact k6 _ _ h3 (k5 _ _ h2 (e4 _ _ (k3 _ _ h1 (eT _ _ hx))))
      · rw [show (if false = true then !inV (.int ((qn : Nat) : Int)) ((List.range (many + 1)).map fun i => V.int ((d.B i : Nat) : Int)) else inV (.int ((qn : Nat) : Int)) ((List.range (many + 1)).map fun i => V.int ((d.B i : Nat) : Int))) = false from by
          rw [if_neg (by decide)]
          exact Bool.eq_false_iff.mpr fun z => hin (ints_in.mp z)]
        obtain ⟨c, hcn, pos, hq⟩ : ∃ c, c < n ∧ 0 < d.t (many + 1) (c + 1) ∧ qn = d.N (c + 1) := by
          rcases le.is with ⟨i, h1, h2, h3⟩ | ⟨j, h1, h2, h3, h4⟩
          · exact absurd ⟨i, h1, h3.symm⟩ hin
          · obtain ⟨j, rfl⟩ : ∃ j', j = j' + 1 := ⟨j - 1, by omega⟩
            exact ⟨j, by omega, h3, h4⟩
        refine ⟨_, rfl, .inl ⟨rfl, _, SqL.of (tO.mono e2)⟩, _, rfl, OT, _, _, c, _, rfl, rfl, SqL.of (tO.mono e2), rfl, ints_flat (f := fun j => d.N (j + 1)), ints_at (f := fun j => d.N (j + 1)) hcn, by rw [hq]; exact beq_self_eq_true ((d.N (c + 1) : Nat) : Int), fun k' z hk' hz => ?_, ?_⟩
        · obtain ⟨h1, rfl⟩ := ints_lt (f := fun j => d.N (j + 1)) hz
          refine beq_false_of_ne fun z2 => ?_
          have := g.dis.nn (k' + 1) (c + 1) (by omega) (by omega) (by omega)
          omega
        obtain ⟨vs, r1, r2, r3⟩ := tR.mono e2
        refine ⟨_, rfl, _, rfl, _, rfl, _, rfl, R, vs, rfl, SqL.of r1, fun a5 ha5 => ?_⟩
        rw [cutm vs (m := many + 1) (by omega)]
        have e3 := same_new (o := .lst (vs.take (many + 1))) ha5
        have e23 := e2.trans e3
        refine ⟨a5, rfl, ⟨vs.take (many + 1), SqL.of upd_same⟩, fun D hD => lc_all (walk_list (K := K) (a := a5) (xs := vs.take (many + 1))) (by rw [List.length_take]; omega) hD (fun i => Fr K (d.t i (c + 1))) (fun _ _ => fr_stay) (fun _ _ => fr_stayD) (fun H' e => SqL.of (e _ _ upd_same)) ?_ ?_⟩
        · rintro i x H3 H4 Rk hi e4 ⟨acc, hacc⟩ ⟨rfl, hx⟩ rk
          rw [List.length_take] at hi
          rw [List.getElem?_take_of_lt (by omega)] at hx
          obtain ⟨v', h1, ar, rfl, nr, us, u1, u2, u3⟩ := r3 i (by omega)
          obtain rfl : x = .ref ar := Option.some.inj (hx.symm.trans h1)
          obtain ⟨v2, h2, f2⟩ := u3 (c + 1) (by omega)
          have e34 := e3.trans e4
          refine ⟨rfl, _, rfl, _, rfl, _, _, rfl, rfl, _, _, ((c + 1 : Nat) : Int), _, rfl, rfl, SqL.of (e34 _ _ u1), atI_nat h2, rk _ _ (Same.refl _) (f2.mono e34)⟩
        · rintro H3 e4 hA
          have e24 := e23.trans e4
          refine ⟨_, rfl, NA, D, many + 1, d.B, fun i => d.t i (c + 1), -1, rfl, tN.mono e24, by rw [List.length_take, show min (many + 1) vs.length = many + 1 by omega] at hA; exact hA, by omega, fun v H4 e5 hv => ?_⟩
          rcases hv with ⟨rfl, hno⟩ | ⟨r, hrm, rfl, hc, hle⟩
          · exact absurd (no_col (rew := rew) g (c := c + 1) (by omega) (by omega) fun i hi => by
              have := fun z => hno i hi (sgn_neg.mpr (num_neg.mpr z))
              grind) id
          have rule : Rule (many + 1) n d r (c + 1) := ⟨⟨hrm, by omega, by omega⟩, .inr ⟨pos, fun i hi h => by rw [← hq]; exact le.low i hi h, fun j h1 h2 h => by rw [← hq]; exact le.high j h1 h2 h, num_neg.mp (sgn_neg.mp hc), fun i hi h => hle i hi (sgn_neg.mpr (num_neg.mpr h))⟩⟩
          have eT := e24.trans e5
          -- the exchange
          have rp := rule.pivot
          refine ⟨_, rfl, _, rfl, _, rfl, _, _, rfl, rfl, R, many + 2, n + 1, r, c + 1, d, rfl, tR.mono eT, by omega, by omega, by omega, by omega, rp, fun i j hi hj => pr.size d g i j (by omega) (by omega), fun H3 k3 R3 => ?_⟩
          have tN3 := ints_keep (tN.mono eT) k3 d1
          have tO3 := ints_keep (tO.mono eT) k3 d2
          refine ⟨_, rfl, _, rfl, _, _, c, _, rfl, rfl, SqL.of tO3, atI_nat (ints_at (f := fun j => d.N (j + 1)) hcn), _, rfl, _, rfl, _, _, r, _, rfl, rfl, SqL.of tN3, atI_nat (ints_at hrm), by show 2 ≤ sizeLine; decide, fun t ht => ?_⟩
          have e4 := same_new (o := .tup [.int ((d.N (c + 1) : Nat) : Int), .int ((d.B r : Nat) : Int)]) ht
          have tN4 := tN3.mono e4
          refine ⟨t, _, rfl, SqT.of upd_same, rfl, _, _, rfl, _, rfl, _, rfl, NA, _, r, r, rfl, rfl, tN4, ixn (by rw [ints_len]; exact hrm), ?_⟩
          have k5 : Keep NA (upd H3 t (.tup [.int ((d.N (c + 1) : Nat) : Int), .int ((d.B r : Nat) : Int)])) _ := keep_upd (D := NA) (o := .lst (((List.range (many + 1)).map fun i => V.int ((d.B i : Nat) : Int)).set r (.int ((d.N (c + 1) : Nat) : Int))))
          have tO5 := ints_keep (tO3.mono e4) k5 d3
          have R5 := rows_ints (R3.mono e4) (by omega) tN4 d1 k5
          refine ⟨_, _, rfl, _, rfl, _, rfl, OT, _, c, c, rfl, rfl, tO5, ixn (by rw [ints_len]; exact hcn), ?_⟩
          have k6 : Keep OT (upd (upd H3 t (.tup [.int ((d.N (c + 1) : Nat) : Int), .int ((d.B r : Nat) : Int)])) NA (.lst (((List.range (many + 1)).map fun i => V.int ((d.B i : Nat) : Int)).set r (.int ((d.N (c + 1) : Nat) : Int))))) _ := keep_upd (D := OT) (o := .lst (((List.range n).map fun i => V.int ((d.N (i + 1) : Nat) : Int)).set c (.int ((d.B r : Nat) : Int))))
          have R6 := rows_ints R5 (by omega) tO5 d2 k6
          refine ⟨rfl, 2 ^ (n + many + 1) - (k + 1), by omega, k + 1, xch d r (c + 1), rfl, rch.step rule, ⟨R6, ?_, ?_⟩, ?_, _, _, _, rfl⟩
          · show _ = some _
            rw [upd_ne (fun z => d3 z.symm), upd_same, ints_set]
            rfl
          · show _ = some _
            rw [upd_same, ints_set (f := fun i => d.N (i + 1))]
            congr 3
            funext i
            show V.int (((if i = c then d.B r else d.N (i + 1)) : Nat) : Int) = V.int (((if i + 1 = c + 1 then d.B r else d.N (i + 1)) : Nat) : Int)
            by_cases z : i = c
            · rw [if_pos z, if_pos (by omega)]
            · rw [if_neg z, if_neg (by omega)]
          · refine ke.trans fun x o h1 h2 h3 hx => ?_
            exact k6 _ _ h3 (k5 _ _ h2 (e4 _ _ (k3 _ _ h1 (eT _ _ hx))))

end
end K86
set_option Elab.async false
set_option linter.all false
set_option maxRecDepth 100000
set_option maxHeartbeats 4000000
set_option exponentiation.threshold 20000
/-! The best shares. -/
namespace K86
open PySem PySem.Spec PyProof.Rows L2 KM
def Row (K : PySem.W.Frag) (w : Nat) (f : Nat → Rat) : VP := fun v H => ∃ a, v = .ref a ∧ ArL w (fun j => Fr K (f j)) a H
theorem row_stay' {K : PySem.W.Frag} {w : Nat} {f : Nat → Rat} : Stay (Row K w f) := fun _ _ _ e ⟨a, h1, h2⟩ => ⟨a, h1, h2.mono e fun _ _ => fr_stay⟩
theorem row_stayD' {K : PySem.W.Frag} {w : Nat} {f : Nat → Rat} {D : Addr} {H0 : Hp} (h0 : H0 D = none) : ∀ v H H' xs, (∃ a, v = V.ref a ∧ H0 a ≠ none) → H D = some (.lst xs) → Keep D H H' → Row K w f v H → Row K w f v H' := fun _ _ _ _ ⟨b, hb, nb⟩ hD e ⟨a, h1, h2⟩ => ⟨a, h1, arl_keep h2 hD (fun z => by cases h1; cases hb; subst z; exact nb h0) e⟩
def fstr (g : Nat → Rat) (i : Nat) : Rat := if i = 0 then g 0 else g i - g 0
/-- by names: the numbers -/
def byn (n : Nat) (f : Nat → Nat) (g : Nat → Rat) (u : Nat) : Rat := match plc n f u with
  | some i => g i
  | none => 0
theorem byn_succ {i u : Nat} {f : Nat → Nat} {g : Nat → Rat} : byn (i + 1) f g u = if f i = u then g i else byn i f g u := by
  unfold byn
  show (match (if f i = u then some i else plc i f u) with | some i => g i | none => 0) = _
  by_cases h : f i = u
  · rw [if_pos h, if_pos h]
  · rw [if_neg h, if_neg h]
theorem rep_flat {m : Nat} {v : V} : (List.replicate m [v]).flatten = List.replicate m v := by
  induction m with
  | zero => rfl
  | succ m ih => rw [List.replicate_succ, List.flatten_cons, List.replicate_succ, ih]; rfl
theorem ints_rg {lo : Nat} {m : Nat} {hi : Int} (h : (hi - ((lo : Nat) : Int)).toNat = m) : rgV ((lo : Nat) : Int) hi = (List.range m).map fun i => V.int (((lo + i : Nat)) : Int) := by
  unfold rgV
  rw [h]
  rfl
theorem ints_cons {m : Nat} {f : Nat → Nat} {x : Nat} : [V.int ((x : Nat) : Int)] ++ (List.range m).map (fun i => V.int ((f i : Nat) : Int)) = (List.range (m + 1)).map fun i => V.int (((if i = 0 then x else f (i - 1)) : Nat) : Int) := by
  refine List.ext_getElem? fun i => ?_
  cases i with
  | zero => rw [ints_at (f := fun i => if i = 0 then x else f (i - 1)) (Nat.succ_pos m)]; rfl
  | succ i =>
    rw [List.getElem?_append_right (by show 1 ≤ _; omega)]
    show ((List.range m).map fun i => V.int ((f i : Nat) : Int))[i]? = _
    by_cases h : i < m
    · rw [ints_at h, ints_at (f := fun i => if i = 0 then x else f (i - 1)) (show i + 1 < m + 1 by omega), if_neg (by omega)]
      rfl
    · rw [List.getElem?_eq_none (by rw [ints_len]; omega), List.getElem?_eq_none (by rw [ints_len]; omega)]
theorem ints_congr {m : Nat} {f g : Nat → Nat} (h : ∀ i, i < m → f i = g i) : (List.range m).map (fun i => V.int ((f i : Nat) : Int)) = (List.range m).map fun i => V.int ((g i : Nat) : Int) := by
  refine List.map_congr_left fun i hi => ?_
  rw [h i (List.mem_range.mp hi)]
theorem fr_m1 {K : PySem.W.Frag} {H : Hp} {a : Addr} (h : SqT K H a [.int (-1), .int 1]) : Fr K (-1) (.ref a) H := ⟨a, rfl, h⟩
section
variable {P : Program} {w : World} {K : PySem.W.Frag} {mg : Str → Option Value} {base : Heap}
abbrev s_first_row : Stmt := topS 35
abbrev n_first_row : List Str := ["numbers", "each"]
theorem sc_first_row : FnScope n_first_row ["numbers"] (defScope s_first_row) := ⟨rfl, rfl, rfl, by decide +kernel, rfl, by decide +kernel, by decide +kernel⟩
abbrev s_named_numbers : Stmt := topS 36
abbrev n_named_numbers : List Str := ["names", "numbers", "start", "many", "found", "name", "number"]
theorem sc_named_numbers : FnScope n_named_numbers ["names", "numbers", "start", "many"] (defScope s_named_numbers) := ⟨rfl, rfl, rfl, by decide +kernel, rfl, by decide +kernel, by decide +kernel⟩
def sp_first_row (K : PySem.W.Frag) : Sp := fun vs H Q _ => ∃ (a : Addr) (n : Nat) (g : Nat → Rat), vs = [.ref a] ∧ ArL (n + 1) (fun i => Fr K (g i)) a H ∧ n ≤ 400 ∧ (∀ i, i ≤ n → Bd 4000 (g i)) ∧ ∀ b H', Same H H' → H b = none → ArL (n + 1) (fun i => Fr K (fstr g i)) b H' → Q (.ref b) H'
theorem ok_first_row (T : Tx K mg) : FnOk P w K mg base CX0 5 (fAt mg "first_row") (fdAt K mg "first_row") ["numbers"] (sp_first_row K) := by
  refine T.d_first_row.F.ok sc_first_row (fun vs H Q E h => ?_) (fun cdv A outer s H vs Q E hr h => ?_)
  · obtain ⟨a, n, g, rfl, _⟩ := h
    rfl
  · obtain ⟨a, n, g, rfl, ⟨us, u1, u2, u3⟩, hn, bd, q⟩ := h
    refine ⟨_, (pss_one (ps_ret (pe_op op_cat (pe_lst (pa_cons (pe_ix ix_list (pv 0) (pe_int) (fun _ _ => rfl)) pa_nil)) (pe_lc (own := [("each", 1)]) rfl sc_first_row.nd (pi_list (pe_slice sl_list (pv 0) (po_some (pe_int)) po_none)) (blkOk_by (own := [("each", 1)]) (N := n_first_row) (sc := defScope s_first_row) (by decide +kernel)) (fun _ _ _ _ _ => pg_name (i := 1) sc_first_row.nd rfl (Or.inl rfl)) (fun _ _ _ _ _ => pts_nil) (fun _ _ _ _ _ => pcall (ok_minus T) T.d_minus hr (by decide) (by rfl) (pa_cons (pv 1) (pa_cons (pe_ix (kx_list (K := K) rfl) (pv 0) (pe_int) (fun _ _ => rfl)) pa_nil))))))), ?_⟩
    obtain ⟨v0, e0, f0⟩ := u3 0 (by omega)
    refine ⟨_, rfl, _, _, 0, _, rfl, rfl, SqL.of u1, atI_nat e0, by show 1 ≤ sizeLine; decide, fun p hp => ?_⟩
    have ep := same_new (o := .lst [v0]) hp
    refine ⟨_, rfl, _, rfl, a, us, rfl, SqL.of (ep _ _ u1), fun p2 hp2 => ?_⟩
    rw [cut1 us (by omega)]
    have ep2 := same_new (o := .lst (us.drop 1)) hp2
    have e12 := ep.trans ep2
    refine ⟨p2, rfl, ⟨_, SqL.of upd_same⟩, fun D hD => lc_all (walk_list (K := K) (a := p2) (xs := us.drop 1)) (by rw [List.length_drop]; omega) hD (fun i => Fr K (g (i + 1) - g 0)) (fun _ _ => fr_stay) (fun _ _ => fr_stayD) (fun H' e => SqL.of (e _ _ upd_same)) ?_ ?_⟩
    · rintro i x H1 H2 Rk hi e1 ⟨acc, hacc⟩ ⟨rfl, hx⟩ rk
      rw [List.length_drop] at hi
      rw [List.getElem?_drop, Nat.add_comm] at hx
      obtain ⟨v', h1, f1⟩ := u3 (i + 1) (by omega)
      obtain rfl : x = v' := Option.some.inj (hx.symm.trans h1)
      have e3 := e12.trans e1
      refine ⟨rfl, _, rfl, _, rfl, _, _, 0, _, rfl, rfl, SqL.of (e3 _ _ u1), atI_nat e0, x, v0, _, _, rfl, f1.mono e3, f0.mono e3, bd _ (by omega), bd _ (by omega), trivial, fun y H3 e4 hy => rk _ _ e4 hy⟩
    · rintro H1 e1 ⟨ns, n1, n2, n3⟩
      rw [List.length_drop] at n2
      refine ⟨p, D, [v0], ns, rfl, rfl, (ep2.trans e1) _ _ upd_same, n1, Nat.le_trans (show 1 + ns.length ≤ 1000 by omega) (by decide), fun c hc => ?_⟩
      have e3 := e12.trans (e1.trans (same_new (o := .lst ([v0] ++ ns)) hc))
      refine q c _ e3 (free_back (e12.trans e1) hc) ⟨_, upd_same, by rw [List.length_append]; show 1 + ns.length = _; omega, fun i hi => ?_⟩
      cases i with
      | zero => exact ⟨v0, rfl, f0.mono e3⟩
      | succ i =>
        obtain ⟨v, h1, h2⟩ := n3 i (by rw [List.length_drop]; omega)
        refine ⟨v, by rw [List.getElem?_append_right (by show 1 ≤ _; omega)]; exact h1, ?_⟩
        show Fr K (if i + 1 = 0 then _ else _) v _
        rw [if_neg (by omega)]
        exact h2.mono (same_new hc)
def sp_named (K : PySem.W.Frag) : Sp := fun vs H Q _ => ∃ (a b : Addr) (n st many : Nat) (f : Nat → Nat) (g : Nat → Rat), vs = [.ref a, .ref b, .int (st : Nat), .int (many : Nat)] ∧ Ints n f a H ∧ ArL n (fun i => Fr K (g i)) b H ∧ n ≤ 400 ∧ many ≤ 400 ∧ ∀ c H', Same H H' → H c = none → ArL many (fun k => Fr K (byn n f g (st + k))) c H' → Q (.ref c) H'
theorem ok_named_numbers (T : Tx K mg) : FnOk P w K mg base CX0 1 (fAt mg "named_numbers") (fdAt K mg "named_numbers") ["names", "numbers", "start", "many"] (sp_named K) := by
  refine T.d_named_numbers.F.ok sc_named_numbers (fun vs H Q E h => ?_) (fun cdv A outer s H vs Q E hr h => ?_)
  · obtain ⟨a, b, n, st, many, f, g, rfl, _⟩ := h
    rfl
  · obtain ⟨a, b, n, st, many, f, g, rfl, hA, ⟨us, u1, u2, u3⟩, hn, hm, q⟩ := h
    refine ⟨_, (pss_cons (ps_set (i := 4) sc_named_numbers.nd rfl (Or.inl rfl) (pe_op op_rep (pe_lst (pa_cons (pe_glob (v := .ref (fAt mg "ZERO")) (by rfl) T.mZERO rfl) pa_nil)) (pv 3)))
  (pss_cons (ps_for PassesOwn.never rfl (pi_zip (by rfl) T.n_zip (pa_cons (pv 0) (pa_cons (pv 1) pa_nil))) (pg_tup rfl (pgs_cons (pg_name (i := 5) sc_named_numbers.nd rfl (Or.inl rfl)) (pgs_cons (pg_name (i := 6) sc_named_numbers.nd rfl (Or.inl rfl)) pgs_nil))) (pss_one (ps_if (pt_chain op_le op_lt (pv 2) (pv 5) (pe_op op_add (pv 2) (pv 3))) (pss_one (ps_asg (pv 6) (pg_sub (pv 4) (pe_op op_sub (pv 5) (pv 2)) set_list))) pss_nil)))
  (pss_one (ps_ret (pv 4))))), ?_⟩
    refine ⟨by show 1 ≤ sizeLine; decide, fun p hp => ⟨_, rfl, _, _, _, rfl, rfl, upd_same, by omega, by omega, Nat.le_trans (show 1 * ((many : Nat) : Int).toNat ≤ 1000 by omega) (by decide), fun c hc => ?_⟩⟩
    have e0 := (same_new (o := .lst [.ref (fAt mg "ZERO")]) hp).trans (same_new (o := .lst (List.replicate ((many : Nat) : Int).toNat [V.ref (fAt mg "ZERO")]).flatten) hc)
    have hc0 : H c = none := free_back (same_new (o := .lst [.ref (fAt mg "ZERO")]) hp) hc
    refine ⟨_, rfl, _, rfl, a, b, _, _, rfl, SqL.of (e0 _ _ hA), SqL.of (e0 _ _ u1), for_it (n := n) (walk_zip (K := K) (by rw [ints_len]; omega)) (fun i σ H' => Same H H' ∧ ArL many (fun k => Fr K (byn i f g (st + k))) c H' ∧ ∃ y5 y6, σ = [some (.ref a), some (.ref b), some (.int (st : Nat)), some (.int (many : Nat)), some (.ref c), y5, y6]) ⟨e0, ⟨_, upd_same, by simp, fun k hk => ⟨.ref (fAt mg "ZERO"), ?_, fr_zero T⟩⟩, _, _, rfl⟩ (fun i σ H' _ p => ⟨SqL.of (p.1 _ _ hA), SqL.of (p.1 _ _ u1)⟩) ?_ ?_⟩
    · have : (List.replicate ((many : Nat) : Int).toNat [V.ref (fAt mg "ZERO")]).flatten = List.replicate many (V.ref (fAt mg "ZERO")) := by
        rw [Int.toNat_natCast]
        clear hk
        induction many with
        | zero => rfl
        | succ m ih => rw [List.replicate_succ, List.flatten_cons, List.replicate_succ]; simp
      rw [this, List.getElem?_replicate_of_lt hk]
    · rintro i x σ H1 H2 hi ⟨e1, ⟨cs, c1, c2, c3⟩, y5, y6, rfl⟩ ⟨t, x1, x2, rfl, ht, rfl, hx1, hx2⟩
      obtain ⟨_, rfl⟩ := ints_lt hx1
      obtain ⟨v, h1, fv⟩ := u3 i hi
      obtain rfl : x2 = v := Option.some.inj (hx2.symm.trans h1)
      have en := same_new (o := .tup [.int ((f i : Nat) : Int), x2]) ht
      refine ⟨t, _, rfl, SqT.of upd_same, rfl, _, _, rfl, _, _, rfl, rfl, ?_⟩
      refine ⟨_, rfl, _, rfl, _, _, rfl, rfl, _, rfl, ?_⟩
      have no : ¬ (st ≤ f i ∧ f i < st + many) → ArL many (fun k => Fr K (byn (i + 1) f g (st + k))) c (upd H1 t (.tup [.int ((f i : Nat) : Int), x2])) := fun h => by
        refine ⟨cs, en _ _ c1, c2, fun k hk => ?_⟩
        obtain ⟨u, h2, h3⟩ := c3 k hk
        refine ⟨u, h2, ?_⟩
        dsimp only
        rw [byn_succ, if_neg (by omega)]
        exact h3.mono en
      by_cases ha : st ≤ f i
      · rw [decide_eq_true (show ((st : Nat) : Int) ≤ ((f i : Nat) : Int) by omega)]
        refine ⟨_, rfl, _, rfl, _, _, rfl, rfl, _, _, rfl, rfl, _, rfl, ?_⟩
        by_cases hb : f i < st + many
        · rw [decide_eq_true (show ((f i : Nat) : Int) < ((st : Nat) : Int) + ((many : Nat) : Int) by omega)]
          have ex : ((f i : Nat) : Int) - ((st : Nat) : Int) = ((f i - st : Nat) : Int) := by omega
          refine ⟨_, rfl, _, rfl, _, rfl, _, rfl, _, _, rfl, rfl, c, cs, _, f i - st, rfl, rfl, en _ _ c1, by rw [ex]; exact ixn (by omega), ?_⟩
          refine ⟨same_mut (e1.trans en) hc0, ?_, _, _, rfl⟩
          refine arl_set (P := fun k => Fr K (byn i f g (st + k))) (en _ _ c1) c2 (fun k hk => ?_) (by omega) upd_same ?_ fun k hk hne u hu => ?_
          · obtain ⟨u, h2, h3⟩ := c3 k hk
            exact ⟨u, h2, h3.mono en⟩
          · rw [byn_succ, if_pos (by omega)]
            exact fr_stayD _ _ _ _ (en _ _ c1) keep_upd ((fv.mono e1).mono en)
          · rw [byn_succ, if_neg (by omega)]
            exact fr_stayD _ _ _ _ (en _ _ c1) keep_upd hu
        · rw [decide_eq_false (show ¬ ((f i : Nat) : Int) < ((st : Nat) : Int) + ((many : Nat) : Int) by omega)]
          exact ⟨e1.trans en, no (by omega), _, _, rfl⟩
      · rw [decide_eq_false (show ¬ ((st : Nat) : Int) ≤ ((f i : Nat) : Int) by omega)]
        exact ⟨_, rfl, e1.trans en, no (by omega), _, _, rfl⟩
    · rintro σ H' ⟨e1, hA', y5, y6, rfl⟩
      exact ⟨_, rfl, q c H' e1 hc0 hA'⟩
abbrev s_best_shares : Stmt := topS 37
abbrev n_best_shares : List Str := ["inequalities", "rewards", "many", "width", "rows", "names", "others", "wrong", "weights", "shares", "row", "each"]
theorem sc_best_shares : FnScope n_best_shares ["inequalities", "rewards"] (defScope s_best_shares) := ⟨rfl, rfl, rfl, by decide +kernel, rfl, by decide +kernel, by decide +kernel⟩
def BestV (K : PySem.W.Frag) (n many : Nat) (A : Nat → Nat → Rat) (rew : Nat → Rat) : VP := fun v H => ∃ t v0 s w d, v = .ref t ∧ SqT K H t [v0, .ref s, .ref w] ∧ Fr K (d.t (many + 1) 0) v0 H ∧ ArL (n + 1) (fun k => Fr K (shr (many + 1) d k)) s H ∧ ArL many (fun k => Fr K (wgt (many + 1) n d (n + 1 + k))) w H ∧ Last n many A rew d
def sp_best (K : PySem.W.Frag) : Sp := fun vs H Q _ => ∃ (I W : Addr) (n many : Nat) (A : Nat → Nat → Rat) (rew : Nat → Rat), vs = [.ref I, .ref W] ∧ ArL many (fun i => Row K (n + 1) (A i)) I H ∧ ArL (n + 1) (fun i => Fr K (rew i)) W H ∧ Prob n many A rew ∧ (∀ i j, i < many → j ≤ n → Bd 4000 (A i j)) ∧ (∀ j, j ≤ n → Bd 4000 (rew j)) ∧ Gives (BestV K n many A rew) H Q
theorem ok_best_shares (T : Tx K mg) : FnOk P w K mg base CX0 7 (fAt mg "best_shares") (fdAt K mg "best_shares") ["inequalities", "rewards"] (sp_best K) := by
  refine T.d_best_shares.F.ok sc_best_shares (fun vs H Q E h => ?_) (fun cdv A outer s H vs Q E hr h => ?_)
  · obtain ⟨I, W, n, many, A, rew, rfl, _⟩ := h
    rfl
  · obtain ⟨I, W, n, many, A, rew, rfl, ⟨is, i1, rfl, i3⟩, ⟨ws, w1, w2, w3⟩, pr, bA, bw, q⟩ := h
    refine ⟨_, (pss_cons (ps_par (i := 2) (j := 3) rfl sc_best_shares.nd rfl rfl (by decide) rfl rfl (pa_cons (pe_callB call_len_seq (by rfl) T.n_len (by decide +kernel) (pa_cons (pv 0) pa_nil)) (pa_cons (pe_callB call_len_seq (by rfl) T.n_len (by decide +kernel) (pa_cons (pv 1) pa_nil)) pa_nil)) (by rfl))
  (pss_cons (ps_set (i := 4) sc_best_shares.nd rfl (Or.inl rfl) (pe_op op_cat (pe_op op_cat (pe_lst (pa_cons (pe_op op_cat (pe_lst (pa_cons (pe_glob (v := .ref (fAt mg "ONE")) (by rfl) T.mONE rfl) pa_nil)) (pe_op op_rep (pe_lst (pa_cons (pe_tup (pa_cons (pe_un un_neg (pe_int)) (pa_cons (pe_int) pa_nil))) pa_nil)) (pe_op op_sub (pv 3) (pe_int)))) pa_nil)) (pe_lc (own := [("row", 10)]) rfl sc_best_shares.nd (pi_list (pv 0)) (blkOk_by (own := [("row", 10)]) (N := n_best_shares) (sc := defScope s_best_shares) (by decide +kernel)) (fun _ _ _ _ _ => pg_name (i := 10) sc_best_shares.nd rfl (Or.inl rfl)) (fun _ _ _ _ _ => pts_nil) (fun _ _ _ _ _ => pcall (ok_first_row T) T.d_first_row hr (by decide) (by rfl) (pa_cons (pv 10) pa_nil)))) (pe_lst (pa_cons (pcall (ok_first_row T) T.d_first_row hr (by decide) (by rfl) (pa_cons (pv 1) pa_nil)) pa_nil))))
  (pss_cons (ps_par (i := 5) (j := 6) rfl sc_best_shares.nd rfl rfl (by decide) rfl rfl (pa_cons (pe_op op_cat (pe_lst (pa_cons (pe_int) pa_nil)) (pe_listRg rfl (by rfl) T.n_list (prg_2 (by rfl) T.n_range (pv 3) (pe_op op_add (pv 3) (pv 2))))) (pa_cons (pe_listRg rfl (by rfl) T.n_list (prg_2 (by rfl) T.n_range (pe_int) (pv 3))) pa_nil)) (by rfl))
  (pss_cons (ps_set (i := 7) sc_best_shares.nd rfl (Or.inl rfl) (pcall (ok_crossed T) T.d_crossed hr (by decide) (by rfl) (pa_cons (pv 4) (pa_cons (pv 5) (pa_cons (pv 6) pa_nil)))))
  (pss_cons (ps_if (pt_cmpR op_notN (pv 7) (pe_non) (nomark _)) (pss_cons (ps_set (i := 8) sc_best_shares.nd rfl (Or.inl rfl) (pcall (ok_named_numbers T) T.d_named_numbers hr (by decide) (by rfl) (pa_cons (pv 6) (pa_cons (pe_lc (own := [("each", 11)]) rfl sc_best_shares.nd (pi_list (pe_slice sl_list (pe_ix ix_list (pv 4) (pv 7) (fun _ _ => rfl)) (po_some (pe_int)) po_none)) (blkOk_by (own := [("each", 11)]) (N := n_best_shares) (sc := defScope s_best_shares) (by decide +kernel)) (fun _ _ _ _ _ => pg_name (i := 11) sc_best_shares.nd rfl (Or.inl rfl)) (fun _ _ _ _ _ => pts_nil) (fun _ _ _ _ _ => pcall (ok_opposite_of T) T.d_opposite_of hr (by decide) (by rfl) (pa_cons (pv 11) pa_nil))) (pa_cons (pv 3) (pa_cons (pv 2) pa_nil))))))
  (pss_cons (ps_if (pt_cmpR op_ge (pe_ix ix_list (pv 5) (pv 7) (fun _ _ => rfl)) (pv 3) (nomark _)) (pss_one (ps_asg (pe_glob (v := .ref (fAt mg "ONE")) (by rfl) T.mONE rfl) (pg_sub (pv 8) (pe_op op_sub (pe_ix ix_list (pv 5) (pv 7) (fun _ _ => rfl)) (pv 3)) set_list))) pss_nil)
  (pss_one (ps_ret (pe_tup (pa_cons (pe_non) (pa_cons (pe_non) (pa_cons (pv 8) pa_nil)))))))) pss_nil)
  (pss_cons (ps_set (i := 9) sc_best_shares.nd rfl (Or.inl rfl) (pcall (ok_named_numbers T) T.d_named_numbers hr (by decide) (by rfl) (pa_cons (pv 5) (pa_cons (pe_lc (own := [("row", 10)]) rfl sc_best_shares.nd (pi_list (pe_slice sl_list (pv 4) po_none (po_some (pe_un un_neg (pe_int))))) (blkOk_by (own := [("row", 10)]) (N := n_best_shares) (sc := defScope s_best_shares) (by decide +kernel)) (fun _ _ _ _ _ => pg_name (i := 10) sc_best_shares.nd rfl (Or.inl rfl)) (fun _ _ _ _ _ => pts_nil) (fun _ _ _ _ _ => pe_ix (kx_list (K := K) rfl) (pv 10) (pe_int) (fun _ _ => rfl))) (pa_cons (pe_int) (pa_cons (pv 3) pa_nil))))))
  (pss_cons (ps_set (i := 8) sc_best_shares.nd rfl (Or.inl rfl) (pcall (ok_named_numbers T) T.d_named_numbers hr (by decide) (by rfl) (pa_cons (pv 6) (pa_cons (pe_lc (own := [("each", 11)]) rfl sc_best_shares.nd (pi_list (pe_slice sl_list (pe_ix ix_list (pv 4) (pe_un un_neg (pe_int)) (fun _ _ => rfl)) (po_some (pe_int)) po_none)) (blkOk_by (own := [("each", 11)]) (N := n_best_shares) (sc := defScope s_best_shares) (by decide +kernel)) (fun _ _ _ _ _ => pg_name (i := 11) sc_best_shares.nd rfl (Or.inl rfl)) (fun _ _ _ _ _ => pts_nil) (fun _ _ _ _ _ => pcall (ok_opposite_of T) T.d_opposite_of hr (by decide) (by rfl) (pa_cons (pv 11) pa_nil))) (pa_cons (pv 3) (pa_cons (pv 2) pa_nil))))))
  (pss_one (ps_ret (pe_tup (pa_cons (pe_ix ix_list (pe_ix ix_list (pv 4) (pe_un un_neg (pe_int)) (fun _ _ => rfl)) (pe_int) (fun _ _ => rfl)) (pa_cons (pv 9) (pa_cons (pv 8) pa_nil))))))))))))), ?_⟩
    have n1 := pr.n1
    have n9 := pr.n9
    have m9 := pr.m9
    refine ⟨_, rfl, I, is, rfl, .inl (SqL.of i1), _, rfl, W, ws, rfl, .inl (SqL.of w1), ?_⟩
    rw [w2]
    refine ⟨_, _, rfl, ?_⟩
    -- the first row
    refine ⟨by show 1 ≤ sizeLine; decide, fun p1 hp1 => ⟨_, rfl, by show 2 ≤ sizeLine; decide, fun p2 hp2 => ⟨by show 1 ≤ sizeLine; decide, fun p3 hp3 => ⟨_, rfl, _, _, rfl, rfl, ?_⟩⟩⟩⟩
    have s1 := same_new (o := .lst [.ref (fAt mg "ONE")]) hp1
    have s2 := same_new (o := .tup [.int (-1), .int 1]) hp2
    have s3 := same_new (o := .lst [.ref p2]) hp3
    refine ⟨_, _, _, rfl, rfl, upd_same, by omega, by omega, Nat.le_trans (show 1 * (((n + 1 : Nat) : Int) - 1).toNat ≤ 1000 by omega) (by decide), fun p4 hp4 => ?_⟩
    rw [rep_flat, show (((n + 1 : Nat) : Int) - 1).toNat = n by omega]
    have s4 := same_new (o := .lst (List.replicate n (V.ref p2))) hp4
    refine ⟨_, _, _, _, rfl, rfl, s4 _ _ (s3 _ _ (s2 _ _ upd_same)), upd_same, by rw [List.length_replicate]; exact Nat.le_trans (show 1 + n ≤ 1000 by omega) (by decide), fun p5 hp5 => ?_⟩
    have s5 := same_new (o := .lst ([.ref (fAt mg "ONE")] ++ List.replicate n (V.ref p2))) hp5
    have A0 : ArL (n + 1) (fun j => Fr K ((dic0 n is.length A rew).t 0 j)) p5 _ := ⟨_, upd_same (H := upd (upd (upd (upd H p1 (.lst [.ref (fAt mg "ONE")])) p2 (.tup [.int (-1), .int 1])) p3 (.lst [.ref p2])) p4 (.lst (List.replicate n (V.ref p2)))) (a := p5) (o := .lst ([.ref (fAt mg "ONE")] ++ List.replicate n (V.ref p2))), by rw [List.length_append, List.length_replicate]; show 1 + n = _; omega, fun j hj => by
      cases j with
      | zero => exact ⟨_, rfl, fr_one T⟩
      | succ j =>
        refine ⟨.ref p2, by rw [List.getElem?_append_right (by show 1 ≤ _; omega)]; exact List.getElem?_replicate_of_lt (by show j < n; omega), ?_⟩
        exact fr_m1 (SqT.of (s5 _ _ (s4 _ _ (s3 _ _ upd_same))))⟩
    have e5 := s1.trans (s2.trans (s3.trans (s4.trans s5)))
    have f5 := free_back (s1.trans (s2.trans (s3.trans s4))) hp5
    revert A0 e5
    generalize upd (upd (upd (upd (upd H p1 (.lst [.ref (fAt mg "ONE")])) p2 (.tup [.int (-1), .int 1])) p3 (.lst [.ref p2])) p4 (.lst (List.replicate n (V.ref p2)))) p5 (.lst ([.ref (fAt mg "ONE")] ++ List.replicate n (V.ref p2))) = H5
    intro A0 e5
    clear s1 s2 s3 s4 s5 hp1 hp2 hp3 hp4 hp5
    refine ⟨by show 1 ≤ sizeLine; decide, fun p6 hp6 => ?_⟩
    have s6 := same_new (o := .lst [.ref p5]) hp6
    refine ⟨_, rfl, I, rfl, ⟨_, SqL.of ((e5.trans s6) _ _ i1)⟩, fun D hD => lc_all (walk_list (K := K) (a := I) (xs := is)) (by omega) hD (fun i => RowN K D (n + 1) (fstr (A i))) (fun _ _ => row_stay) (fun _ _ => row_stayR) (fun H' e => SqL.of (((e5.trans s6).trans e) _ _ i1)) ?_ ?_⟩
    · rintro i x H1 H2 Rk hi e1 ⟨acc, hacc⟩ ⟨rfl, hx⟩ rk
      obtain ⟨v', h1, a, rfl, hA⟩ := i3 i hi
      obtain rfl : x = .ref a := Option.some.inj (hx.symm.trans h1)
      refine ⟨rfl, _, rfl, a, n, A i, rfl, hA.mono ((e5.trans s6).trans e1) fun _ _ => fr_stay, by omega, fun j hj => bA i j hi hj, fun b H3 e3 hb hB => rk _ _ e3 ⟨b, rfl, fun z => ?_, hB⟩⟩
      rw [z, hacc] at hb
      cases hb
    · rintro H7 e7 ⟨ds, d1, d2, d3⟩
      have e57 := s6.trans e7
      refine ⟨_, _, _, _, rfl, rfl, e7 _ _ upd_same, d1, Nat.le_trans (show 1 + ds.length ≤ 1000 by omega) (by decide), fun p8 hp8 => ?_⟩
      have s8 := same_new (o := .lst ([.ref p5] ++ ds)) hp8
      have e58 := e57.trans s8
      have eH8 := e5.trans e58
      refine ⟨_, rfl, W, n, rew, rfl, ArL.mono ⟨ws, w1, w2, w3⟩ eH8 fun _ _ => fr_stay, by omega, bw, fun b H9 e9 hb hB => ?_⟩
      refine ⟨by show 1 ≤ sizeLine; decide, fun p10 hp10 => ?_⟩
      have s10 := same_new (o := .lst [.ref b]) hp10
      have e810 := e9.trans s10
      refine ⟨_, _, _, _, rfl, rfl, e810 _ _ upd_same, upd_same, by rw [List.length_append]; exact Nat.le_trans (show (1 + ds.length) + 1 ≤ 1000 by omega) (by decide), fun R hR => ?_⟩
      have s11 := same_new (o := .lst (([.ref p5] ++ ds) ++ [.ref b])) hR
      have e511 := e58.trans (e810.trans s11)
      have fR : H R = none := free_back (e5.trans (e58.trans e810)) hR
      have hRows : Rows K R (is.length + 2) (n + 1) (dic0 n is.length A rew).t (upd (upd H9 p10 (.lst [.ref b])) R (.lst (([.ref p5] ++ ds) ++ [.ref b]))) := by
        have nR : ∀ {a : Addr} {g : Nat → Rat} {H1 : Hp}, Same H1 (upd H9 p10 (.lst [.ref b])) → ArL (n + 1) (fun j => Fr K (g j)) a H1 → a ≠ R := fun {a g H1} e ⟨us, u1, _, _⟩ z => by
          rw [z] at u1
          rw [e _ _ u1] at hR
          cases hR
        refine ⟨_, upd_same, by rw [List.length_append, List.length_append]; show (1 + ds.length) + 1 = _; omega, fun i hi => ?_⟩
        by_cases h0 : i = 0
        · subst h0
          exact ⟨.ref p5, rfl, p5, rfl, nR (e58.trans e810) A0, A0.mono e511 fun _ _ => fr_stay⟩
        · by_cases hl : i = is.length + 1
          · subst hl
            have : (dic0 n is.length A rew).t (is.length + 1) = fstr rew := by
              funext j
              show (if is.length + 1 = 0 then (if j = 0 then (1 : Rat) else -1) else if is.length + 1 = is.length + 1 then (if j = 0 then rew 0 else rew j - rew 0) else (if j = 0 then A (is.length + 1 - 1) 0 else A (is.length + 1 - 1) j - A (is.length + 1 - 1) 0)) = _
              rw [if_neg (by omega), if_pos rfl]
              unfold fstr
              by_cases hj : j = 0
              · rw [if_pos hj]
              · rw [if_neg hj]
            refine ⟨.ref b, by rw [List.getElem?_append_right (by rw [List.length_append]; show 1 + ds.length ≤ _; omega), List.length_append]; show [V.ref b][is.length + 1 - (1 + ds.length)]? = _; rw [show is.length + 1 - (1 + ds.length) = 0 by omega]; rfl, b, rfl, nR s10 hB, ?_⟩
            rw [this]
            exact hB.mono (s10.trans s11) fun _ _ => fr_stay
          · obtain ⟨k, rfl⟩ : ∃ k, i = k + 1 := ⟨i - 1, by omega⟩
            obtain ⟨v, h1, a, rfl, na, hA⟩ := d3 k (by omega)
            have : (dic0 n is.length A rew).t (k + 1) = fstr (A k) := by
              funext j
              show (if k + 1 = 0 then (if j = 0 then (1 : Rat) else -1) else if k + 1 = is.length + 1 then (if j = 0 then rew 0 else rew j - rew 0) else (if j = 0 then A (k + 1 - 1) 0 else A (k + 1 - 1) j - A (k + 1 - 1) 0)) = _
              rw [if_neg (by omega), if_neg (by omega)]
              rfl
            refine ⟨.ref a, by rw [List.getElem?_append_left (by rw [List.length_append]; show _ < 1 + ds.length; omega), List.getElem?_append_right (by show 1 ≤ _; omega)]; exact h1, a, rfl, nR (s8.trans e810) hA, ?_⟩
            rw [this]
            exact hA.mono (s8.trans (e810.trans s11)) fun _ _ => fr_stay
      have eH11 := e5.trans e511
      revert hRows eH11
      generalize upd (upd H9 p10 (.lst [.ref b])) R (.lst (([.ref p5] ++ ds) ++ [.ref b])) = H11
      intro hRows eH11
      clear s11 e511 e810 s10 hp10 hR e9 hb hB s8 e58 eH8 d1 d2 d3 e7 e57 s6 hp6 hD A0 hp8
      -- the names
      refine ⟨by show 1 ≤ sizeLine; decide, fun q1 hq1 => ?_⟩
      have t1 := same_new (o := .lst [.int 0]) hq1
      refine ⟨_, rfl, _, rfl, _, rfl, _, _, rfl, rfl, _, _, rfl, rfl, ⟨by omega, by omega, by omega, by omega, by omega⟩, fun q2 hq2 => ?_⟩
      rw [ints_rg (m := is.length) (by omega)]
      have t2 := same_new (o := .lst ((List.range is.length).map fun i => V.int (((n + 1 + i : Nat)) : Int))) hq2
      refine ⟨_, _, _, _, rfl, rfl, t2 _ _ upd_same, upd_same, by rw [ints_len]; exact Nat.le_trans (show 1 + is.length ≤ 1000 by omega) (by decide), fun NA hNA => ?_⟩
      have xs : [V.int 0] ++ (List.range is.length).map (fun i => V.int (((n + 1 + i : Nat)) : Int)) = (List.range (is.length + 1)).map fun i => V.int ((((dic0 n is.length A rew).B i : Nat)) : Int) := by
        have := ints_cons (m := is.length) (f := fun i => n + 1 + i) (x := 0)
        rw [show [V.int 0] = [V.int ((0 : Nat) : Int)] from rfl, this]
        refine ints_congr fun i hi => ?_
        show _ = (if i = 0 then 0 else if i = is.length + 1 then n + is.length + 2 else n + i)
        by_cases h : i = 0
        · rw [if_pos h, if_pos h]
        · rw [if_neg h, if_neg h, if_neg (by omega)]; omega
      rw [xs]
      have t3 := same_new (o := .lst ((List.range (is.length + 1)).map fun i => V.int ((((dic0 n is.length A rew).B i : Nat)) : Int))) hNA
      refine ⟨_, rfl, 1, _, rfl, rfl, ⟨by omega, by omega, by omega, by omega, by omega⟩, fun OT hOT => ?_⟩
      have ys : rgV 1 ((n + 1 : Nat) : Int) = (List.range n).map fun i => V.int ((((dic0 n is.length A rew).N (i + 1) : Nat)) : Int) := by
        rw [show (1 : Int) = ((1 : Nat) : Int) from rfl, ints_rg (m := n) (by omega)]
        refine ints_congr fun i hi => ?_
        show _ = (if i + 1 = 0 then n + is.length + 1 else i + 1)
        rw [if_neg (by omega)]; omega
      rw [ys]
      have t4 := same_new (o := .lst ((List.range n).map fun i => V.int ((((dic0 n is.length A rew).N (i + 1) : Nat)) : Int))) hOT
      refine ⟨_, _, rfl, ?_⟩
      have t12 := t1.trans t2
      have t13 := t12.trans t3
      have t14 := t13.trans t4
      have fN : H NA = none := free_back (eH11.trans t12) hNA
      have fO : H OT = none := free_back (eH11.trans t13) hOT
      have nRN : NA ≠ R := fun z => by
        obtain ⟨vs, h1, _⟩ := hRows
        rw [z, t12 _ _ h1] at hNA
        cases hNA
      have nRO : OT ≠ R := fun z => by
        obtain ⟨vs, h1, _⟩ := hRows
        rw [z, t13 _ _ h1] at hOT
        cases hOT
      have nNO : OT ≠ NA := fun z => by
        rw [z, upd_same] at hOT
        cases hOT
      refine ⟨_, rfl, _, rfl, _, rfl, R, NA, OT, n, is.length, A, rew, rfl, pr, nRN, nRO, nNO, ⟨hRows.mono t14, t4 _ _ upd_same, upd_same⟩, fun d H12 la k3 tab => ?_⟩
      have eH12 : Same H H12 := fun x o hx => k3 _ _ (fun z => by rw [z, fR] at hx; cases hx) (fun z => by rw [z, fN] at hx; cases hx) (fun z => by rw [z, fO] at hx; cases hx) ((eH11.trans t14) _ _ hx)
      clear k3 t14 t13 t12 t4 t3 t2 t1 hq1 hq2 hNA hOT hRows eH11
      obtain ⟨tR, tN, tO⟩ := tab
      refine ⟨_, rfl, rfl, _, rfl, ?_⟩
      rw [decide_eq_true rfl]
      obtain ⟨vs, r1, r2, r3⟩ := tR
      -- the shares
      refine ⟨_, rfl, _, rfl, _, rfl, _, rfl, R, vs, rfl, SqL.of r1, fun a5 ha5 => ?_⟩
      rw [cutm vs (m := is.length + 1) (by omega)]
      have t3 := same_new (o := .lst (vs.take (is.length + 1))) ha5
      refine ⟨a5, rfl, ⟨vs.take (is.length + 1), SqL.of upd_same⟩, fun D hD => lc_all (walk_list (K := K) (a := a5) (xs := vs.take (is.length + 1))) (by rw [List.length_take]; omega) hD (fun i => Fr K (d.t i 0)) (fun _ _ => fr_stay) (fun _ _ => fr_stayD) (fun H' e => SqL.of (e _ _ upd_same)) ?_ ?_⟩
      · rintro i x H3 H4 Rk hi e4 ⟨acc, hacc⟩ ⟨rfl, hx⟩ rk
        rw [List.length_take] at hi
        rw [List.getElem?_take_of_lt (by omega)] at hx
        obtain ⟨v', h1, ar, rfl, nr, us, u1, u2, u3⟩ := r3 i (by omega)
        obtain rfl : x = .ref ar := Option.some.inj (hx.symm.trans h1)
        obtain ⟨v2, h2, f2⟩ := u3 0 (by omega)
        have e34 := t3.trans e4
        exact ⟨rfl, _, rfl, _, _, 0, _, rfl, rfl, SqL.of (e34 _ _ u1), atI_nat h2, rk _ _ (Same.refl _) (f2.mono e34)⟩
      · rintro H3 e4 hA
        rw [List.length_take, show min (is.length + 1) vs.length = is.length + 1 by omega] at hA
        have e24 := t3.trans e4
        refine ⟨_, rfl, NA, D, is.length + 1, 0, n + 1, d.B, fun i => d.t i 0, rfl, tN.mono e24, hA, by omega, by omega, fun s1 H5 e5 hs1 hS => ?_⟩
        have e25 := e24.trans e5
        -- the weights
        obtain ⟨vm, em, am, rfl, nm, um, m1, m2, m3⟩ := r3 (is.length + 1) (by omega)
        have hlast : atI vs (-1) = some (.ref am) := at_end (m := is.length + 1) r2 em
        refine ⟨_, rfl, _, rfl, _, rfl, _, _, -1, _, rfl, rfl, SqL.of (e25 _ _ r1), hlast, _, rfl, am, um, rfl, SqL.of (e25 _ _ m1), fun p hp => ?_⟩
        rw [cut1 um (by omega)]
        have ep := same_new (o := .lst (um.drop 1)) hp
        refine ⟨p, rfl, ⟨um.drop 1, SqL.of upd_same⟩, fun D2 hD2 => lc_all (walk_list (K := K) (a := p) (xs := um.drop 1)) (by rw [List.length_drop]; omega) hD2 (fun j => Fr K (-d.t (is.length + 1) (j + 1))) (fun _ _ => fr_stay) (fun _ _ => fr_stayD) (fun H' e => SqL.of (e _ _ upd_same)) ?_ ?_⟩
        · rintro j x H6 H7 Rk hj e6 ⟨acc, hacc⟩ ⟨rfl, hx⟩ rk
          rw [List.length_drop] at hj
          rw [List.getElem?_drop, Nat.add_comm] at hx
          obtain ⟨v', h1, f1⟩ := m3 (j + 1) (by omega)
          obtain rfl : x = v' := Option.some.inj (hx.symm.trans h1)
          exact ⟨rfl, _, rfl, x, _, rfl, f1.mono (e25.trans (ep.trans e6)), fun y H8 e8 hy => rk _ _ e8 hy⟩
        · rintro H6 e6 hB
          rw [List.length_drop, show um.length - 1 = n by omega] at hB
          have e26 := e25.trans (ep.trans e6)
          refine ⟨_, rfl, _, rfl, OT, D2, n, n + 1, is.length, fun j => d.N (j + 1), fun j => -d.t (is.length + 1) (j + 1), rfl, tO.mono e26, hB, by omega, by omega, fun w1' H8 e8 hw1 hW => ?_⟩
          have e28 := e26.trans e8
          obtain ⟨v0, h0, f0⟩ := m3 0 (by omega)
          refine ⟨_, rfl, _, rfl, _, _, -1, _, rfl, rfl, SqL.of (e28 _ _ r1), hlast, _, _, 0, _, rfl, rfl, SqL.of (e28 _ _ m1), atI_nat h0, _, rfl, _, rfl, by show 3 ≤ sizeLine; decide, fun t ht => ?_⟩
          have st := same_new (o := .tup [v0, .ref s1, .ref w1']) ht
          refine q _ _ (eH12.trans (e28.trans st)) ⟨t, v0, s1, w1', d, rfl, SqT.of upd_same, f0.mono (e28.trans st), ?_, ?_, la⟩
          · have := ArL.mono hS ((ep.trans e6).trans (e8.trans st)) fun _ _ => fr_stay
            refine (show (fun k => Fr K (shr (is.length + 1) d k)) = fun k => Fr K (byn (is.length + 1) d.B (fun i => d.t i 0) (0 + k)) from ?_) ▸ this
            funext k
            rw [Nat.zero_add]
            rfl
          · exact ArL.mono hW st fun _ _ => fr_stay
end
end K86
set_option Elab.async false
set_option linter.all false
set_option maxRecDepth 100000
set_option maxHeartbeats 4000000
set_option exponentiation.threshold 20000
/-! The inequalities of looks; the weights in pairs; the shares back. -/
namespace K86
open PySem PySem.Spec PyProof.Rows L2 KM
theorem fr_nat {K : PySem.W.Frag} {k : Nat} {H : Hp} {a : Addr} (h : SqT K H a [.int ((k : Nat) : Int), .int 1]) : Fr K ((k : Nat) : Rat) (.ref a) H := ⟨a, rfl, h⟩
theorem fr_int {K : PySem.W.Frag} {k : Int} {H : Hp} {a : Addr} (h : SqT K H a [.int k, .int 1]) : Fr K (k : Rat) (.ref a) H := ⟨a, rfl, h⟩
theorem bd_nat {k : Nat} (h : k ≤ 1000) : Bd 11 ((k : Nat) : Rat) := by
  refine ⟨?_, ?_⟩
  · show ((k : Nat) : Int).natAbs < _
    rw [Int.natAbs_natCast]; omega
  · show 1 < 2 ^ 11
    decide
theorem bd_pow {b k : Nat} {r : Rat} (h : Bd b r) (hb : 0 < b) : Bd (b * k + 1) (r ^ k) := by
  refine ⟨?_, ?_⟩
  · rw [Rat.num_pow, natAbs_pow]
    exact pow_lt_pow h.1 hb
  · rw [Rat.den_pow]
    exact pow_lt_pow h.2 hb
theorem arl_app {n : Nat} {P : Nat → VP} {a : Addr} {H H' : Hp} {vs : List V} {v : V} (h2 : vs.length = n) (h3 : ∀ k, k < n → ∃ v, vs[k]? = some v ∧ P k v H) (h1' : H' a = some (.lst (vs ++ [v]))) (hv : P n v H') (st : ∀ k, k < n → ∀ u, P k u H → P k u H') : ArL (n + 1) P a H' := by
  refine ⟨vs ++ [v], h1', by rw [List.length_append, h2]; rfl, fun k hk => ?_⟩
  by_cases e : k < n
  · obtain ⟨u, e1, e2⟩ := h3 k e
    exact ⟨u, by rw [List.getElem?_append_left (by omega)]; exact e1, st k e u e2⟩
  · obtain rfl : k = n := by omega
    exact ⟨v, by rw [List.getElem?_append_right (by omega), h2, Nat.sub_self]; rfl, hv⟩
theorem am_even (L : Nat → Lk) (x : Rat) (i : Nat) : Am L x (2 * i) = fun k => ((k : Nat) - (L i).lo) * ((L i).x / x) ^ k := by
  funext k
  unfold Am
  rw [if_pos (by omega), show 2 * i / 2 = i by omega]
theorem am_odd (L : Nat → Lk) (x : Rat) (i : Nat) : Am L x (2 * i + 1) = fun k => ((L i).hi - (k : Nat)) * ((L i).x / x) ^ k := by
  funext k
  unfold Am
  rw [if_neg (by omega), show (2 * i + 1) / 2 = i by omega]
section
variable {P : Program} {w : World} {K : PySem.W.Frag} {mg : Str → Option Value} {base : Heap}
abbrev s_inequalities_of : Stmt := topS 45
abbrev n_inequalities_of : List Str := ["seats", "looks", "strength", "found", "place", "low", "high", "part", "factors", "many", "each"]
theorem sc_inequalities_of : FnScope n_inequalities_of ["seats", "looks", "strength"] (defScope s_inequalities_of) := ⟨rfl, rfl, rfl, by decide +kernel, rfl, by decide +kernel, by decide +kernel⟩
def sp_ineq (K : PySem.W.Frag) : Sp := fun vs H Q _ => ∃ (s l : Nat) (v xv : V) (L : Nat → Lk) (x : Rat), vs = [.int (s : Nat), v, xv] ∧ LksV K l L v H ∧ LksOk s l L ∧ Fr K x xv H ∧ 0 < x ∧ Bd 4 x ∧ ∀ F H', Same H H' → H F = none → ArL (2 * l) (fun i => RowN K F (s + 1) (Am L x i)) F H' → Q (.ref F) H'
theorem ok_inequalities_of (T : Tx K mg) : FnOk P w K mg base CX0 5 (fAt mg "inequalities_of") (fdAt K mg "inequalities_of") ["seats", "looks", "strength"] (sp_ineq K) := by
  refine T.d_inequalities_of.F.ok sc_inequalities_of (fun vs H Q E h => ?_) (fun cdv A outer s H vs Q E hr h => ?_)
  · obtain ⟨s, l, v, xv, L, x, rfl, _⟩ := h
    rfl
  · obtain ⟨s, l, v, xv, L, x, rfl, ⟨a, rfl, xs, hT, hn, hL⟩, ok, hx, px, bx, q⟩ := h
    have s5 := ok.s5
    have n4 := ok.n4
    have x0 : x ≠ 0 := by grind
    refine ⟨_, (pss_cons (ps_set (i := 3) sc_inequalities_of.nd rfl (Or.inl rfl) (pe_lst pa_nil))
  (pss_cons (ps_for PassesOwn.never rfl (pi_tup (pv 1)) (pg_tup rfl (pgs_cons (pg_name (i := 4) sc_inequalities_of.nd rfl (Or.inl rfl)) (pgs_cons (pg_name (i := 5) sc_inequalities_of.nd rfl (Or.inr rfl)) (pgs_cons (pg_name (i := 6) sc_inequalities_of.nd rfl (Or.inr rfl)) pgs_nil)))) (pss_cons (ps_set (i := 7) sc_inequalities_of.nd rfl (Or.inr rfl) (pcall (ok_over T) T.d_over hr (by decide) (by rfl) (pa_cons (pv 4) (pa_cons (pv 2) pa_nil))))
  (pss_cons (ps_setLc (i := 8) (own := [("many", 9)]) rfl sc_inequalities_of.nd rfl rfl (sw_true rfl rfl rfl (by decide +kernel)) (pi_range1 (by rfl) T.n_range (pa_cons (pe_op op_add (pv 0) (pe_int)) pa_nil)) (blkOk_by (own := [("many", 9)]) (N := n_inequalities_of) (sc := defScope s_inequalities_of) (by decide +kernel)) (fun _ _ _ _ _ => pg_name (i := 9) sc_inequalities_of.nd rfl (Or.inl rfl)) (fun _ _ _ _ _ => pts_nil) (fun _ _ _ _ _ => pcall (ok_power T) T.d_power hr (by decide) (by rfl) (pa_cons (pv 7) (pa_cons (pv 9) pa_nil))))
  (pss_cons (ps_expr (pe_bm PySem.F.plainAttrs_list PySem.F.slot_list_append PySem.F.type_list_append mt_append (pv 3) (pa_cons (pe_lc (own := [("many", 9), ("each", 10)]) (g := gTup K 2 (gCons (gName 9) (gCons (gName 10) (gNil)))) rfl sc_inequalities_of.nd (pi_enum (by rfl) T.n_enumerate (pa_cons (pv 8) pa_nil)) (blkOk_by (own := [("many", 9), ("each", 10)]) (N := n_inequalities_of) (sc := defScope s_inequalities_of) (by decide +kernel)) (fun _ _ _ _ _ => pg_tup rfl (pgs_cons (pg_name (i := 9) sc_inequalities_of.nd rfl (Or.inl rfl)) (pgs_cons (pg_name (i := 10) sc_inequalities_of.nd rfl (Or.inl rfl)) pgs_nil))) (fun _ _ _ _ _ => pts_nil) (fun _ _ _ _ _ => pcall (ok_times T) T.d_times hr (by decide) (by rfl) (pa_cons (pcall (ok_minus T) T.d_minus hr (by decide) (by rfl) (pa_cons (pe_tup (pa_cons (pv 9) (pa_cons (pe_int) pa_nil))) (pa_cons (pv 5) pa_nil))) (pa_cons (pv 10) pa_nil)))) pa_nil)))
  (pss_one (ps_expr (pe_bm PySem.F.plainAttrs_list PySem.F.slot_list_append PySem.F.type_list_append mt_append (pv 3) (pa_cons (pe_lc (own := [("many", 9), ("each", 10)]) (g := gTup K 2 (gCons (gName 9) (gCons (gName 10) (gNil)))) rfl sc_inequalities_of.nd (pi_enum (by rfl) T.n_enumerate (pa_cons (pv 8) pa_nil)) (blkOk_by (own := [("many", 9), ("each", 10)]) (N := n_inequalities_of) (sc := defScope s_inequalities_of) (by decide +kernel)) (fun _ _ _ _ _ => pg_tup rfl (pgs_cons (pg_name (i := 9) sc_inequalities_of.nd rfl (Or.inl rfl)) (pgs_cons (pg_name (i := 10) sc_inequalities_of.nd rfl (Or.inl rfl)) pgs_nil))) (fun _ _ _ _ _ => pts_nil) (fun _ _ _ _ _ => pcall (ok_times T) T.d_times hr (by decide) (by rfl) (pa_cons (pcall (ok_minus T) T.d_minus hr (by decide) (by rfl) (pa_cons (pv 6) (pa_cons (pe_tup (pa_cons (pv 9) (pa_cons (pe_int) pa_nil))) pa_nil))) (pa_cons (pv 10) pa_nil)))) pa_nil))))))))
  (pss_one (ps_ret (pv 3))))), ?_⟩
    refine ⟨by show 0 ≤ sizeLine; decide, fun F hF => ?_⟩
    have eF := same_new (o := .lst []) hF
    refine ⟨_, rfl, a, rfl, ⟨_, sqt_mono eF hT⟩, for_tup (K := K) (a := a) (xs := xs) (fun i σ H' => Same H H' ∧ ArL (2 * i) (fun k => RowN K F (s + 1) (Am L x k)) F H' ∧ ∃ y4 y5 y6 y7 y8, σ = [some (.int (s : Nat)), some (.ref a), some xv, some (.ref F), y4, y5, y6, y7, y8, none, none]) ⟨eF, ⟨[], upd_same, rfl, fun k hk => by omega⟩, _, _, _, _, _, rfl⟩ (fun i σ H' _ p => sqt_mono p.1 hT) ?_ ?_⟩
    · rintro i u σ H1 hu ⟨e1, ⟨fs, hf1, hf2, hf3⟩, y4, y5, y6, y7, y8, rfl⟩
      have hi : i < l := by
        have := (List.getElem?_eq_some_iff.mp hu).1
        omega
      obtain ⟨u', hu', t, v0, v1, v2, rfl, ht, f0, f1, f2⟩ := hL i hi
      obtain rfl : u = .ref t := Option.some.inj (hu.symm.trans hu')
      have lk := ok.ok i hi
      refine ⟨t, _, rfl, sqt_mono e1 ht, rfl, _, _, rfl, _, _, rfl, _, _, rfl, rfl, ?_⟩
      refine ⟨_, rfl, _, rfl, v0, xv, (L i).x, x, rfl, f0.mono e1, hx.mono e1, lk.bx.mono (by decide), bx.mono (by decide), x0, fun y H2 e2 hy => ?_⟩
      have bp : Bd 8 ((L i).x / x) := lk.bx.div bx x0
      have e12 := e1.trans e2
      refine ⟨_, rfl, _, _, rfl, rfl, _, rfl, by omega, by omega, fun D hD => lc_all (walk_range (lo := 0) (n := (((s : Nat) : Int) + 1).toNat)) (by omega) hD (fun k => Fr K (((L i).x / x) ^ k)) (fun _ _ => fr_stay) (fun _ _ => fr_stayD) (fun _ _ => trivial) ?_ ?_⟩
      · rintro k z H3 H4 Rk hk e3 ⟨acc, hacc⟩ ⟨rfl, hz⟩ rk
        obtain rfl : z = .int ((k : Nat) : Int) := by rw [hz]; simp
        exact ⟨rfl, _, rfl, _, rfl, y, _, k, rfl, hy.mono e3, bp.mono (by decide), by omega, fun u H5 e5 hu => rk _ _ e5 hu⟩
      · rintro H3 e3 hA
        rw [show (((s : Nat) : Int) + 1).toNat = s + 1 by omega] at hA
        have e13 := e12.trans e3
        obtain ⟨gs, g1, g2, g3⟩ := hA
        have bpk : ∀ k, k ≤ s → Bd 4000 (((L i).x / x) ^ k) := fun k hk => (bd_pow bp (by decide)).mono (by omega)
        refine ⟨_, rfl, .inl ⟨rfl, _, SqL.of (e2.trans e3 _ _ hf1)⟩, _, rfl, D, gs, rfl, SqL.of g1, fun D1 hD1 => lc_all (walk_enum (K := K) (a := D) (xs := gs)) (by omega) hD1 (fun k => Fr K (((k : Nat) - (L i).lo) * ((L i).x / x) ^ k)) (fun _ _ => fr_stay) (fun _ _ => fr_stayD) (fun H' e => SqL.of (e _ _ g1)) ?_ ?_⟩
        · rintro k z H4 H5 Rk hk e4 ⟨acc, hacc⟩ ⟨T1, i1, x1, rfl, hT1, rfl, hi1, hx1⟩ rk
          cases hi1
          obtain ⟨x1', hx1', fx⟩ := g3 k (by omega)
          obtain rfl : x1 = x1' := Option.some.inj (hx1.symm.trans hx1')
          have en := same_new (o := .tup [.int ((k : Nat) : Int), x1]) hT1
          refine ⟨T1, _, rfl, SqT.of upd_same, rfl, _, _, rfl, _, _, rfl, rfl, rfl, ?_⟩
          refine ⟨_, rfl, by show 2 ≤ sizeLine; decide, fun p hp => ?_⟩
          have ep := same_new (o := .tup [.int ((k : Nat) : Int), .int 1]) hp
          have e15 := e13.trans (e4.trans (en.trans ep))
          refine ⟨_, rfl, .ref p, v1, _, (L i).lo, rfl, fr_nat (SqT.of upd_same), f1.mono e15, (bd_nat (by omega)).mono (by decide), lk.bl.mono (by decide), trivial, fun u H6 e6 hu => ?_⟩
          exact ⟨_, rfl, u, x1, _, _, rfl, hu, fx.mono (e4.trans (en.trans (ep.trans e6))), (Bd.sub (bd_nat (by omega)) lk.bl).mono (by decide), bpk k (by omega), trivial, fun y2 H7 e7 hy2 => rk _ _ (en.trans (ep.trans (e6.trans e7))) hy2⟩
        · rintro H4 e4 hA1
          have e14 := e13.trans e4
          have hF4 := e4 _ _ ((e2.trans e3) _ _ hf1)
          have nD1 : D1 ≠ F := fun z => by
            rw [z, (e2.trans e3) _ _ hf1] at hD1
            cases hD1
          have nD : D ≠ F := fun z => by
            rw [z, e2 _ _ hf1] at hD
            cases hD
          rw [g2] at hA1
          refine ⟨F, fs, .ref D1, rfl, rfl, hF4, Nat.lt_of_lt_of_le (show fs.length < 1000 by omega) (by decide), ?_⟩
          have A1 : ArL (2 * i + 1) (fun k => RowN K F (s + 1) (Am L x k)) F (upd H4 F (.lst (fs ++ [.ref D1]))) := by
            refine arl_app (H := H4) hf2 (fun k hk => ?_) upd_same ⟨D1, rfl, nD1, ?_⟩ fun k hk u hu => row_stayR _ _ _ _ hF4 keep_upd hu
            · obtain ⟨u, h1, h2⟩ := hf3 k hk
              exact ⟨u, h1, row_stay _ _ _ (e2.trans (e3.trans e4)) h2⟩
            · rw [am_even]
              exact arl_keep hA1 hF4 nD1 keep_upd
          have eH5 : Same H (upd H4 F (.lst (fs ++ [.ref D1]))) := same_mut e14 hF
          have k5 : Keep F H4 (upd H4 F (.lst (fs ++ [.ref D1]))) := keep_upd
          revert A1 eH5 k5
          generalize upd H4 F (.lst (fs ++ [.ref D1])) = H5
          rintro ⟨fs', q1, q2, q3⟩ eH5 k5
          have g1' : H5 D = some (.lst gs) := k5 _ _ nD (e4 _ _ g1)
          refine ⟨_, rfl, .inl ⟨rfl, _, SqL.of q1⟩, _, rfl, D, gs, rfl, SqL.of g1', fun D2 hD2 => lc_all (walk_enum (K := K) (a := D) (xs := gs)) (by omega) hD2 (fun k => Fr K (((L i).hi - (k : Nat)) * ((L i).x / x) ^ k)) (fun _ _ => fr_stay) (fun _ _ => fr_stayD) (fun H' e => SqL.of (e _ _ g1')) ?_ ?_⟩
          · rintro k z H6 H7 Rk hk e6 ⟨acc, hacc⟩ ⟨T1, i1, x1, rfl, hT1, rfl, hi1, hx1⟩ rk
            cases hi1
            obtain ⟨x1', hx1', fx⟩ := g3 k (by omega)
            obtain rfl : x1 = x1' := Option.some.inj (hx1.symm.trans hx1')
            have fx5 := fr_stayD _ _ _ _ hF4 k5 (fx.mono e4)
            have en := same_new (o := .tup [.int ((k : Nat) : Int), x1]) hT1
            refine ⟨T1, _, rfl, SqT.of upd_same, rfl, _, _, rfl, _, _, rfl, rfl, rfl, ?_⟩
            refine ⟨_, rfl, _, rfl, by show 2 ≤ sizeLine; decide, fun p hp => ?_⟩
            have ep := same_new (o := .tup [.int ((k : Nat) : Int), .int 1]) hp
            have e15 := eH5.trans (e6.trans (en.trans ep))
            refine ⟨v2, .ref p, (L i).hi, _, rfl, f2.mono e15, fr_nat (SqT.of upd_same), lk.bh.mono (by decide), (bd_nat (by omega)).mono (by decide), trivial, fun u H8 e8 hu => ?_⟩
            exact ⟨_, rfl, u, x1, _, _, rfl, hu, fx5.mono (e6.trans (en.trans (ep.trans e8))), (Bd.sub lk.bh (bd_nat (by omega))).mono (by decide), bpk k (by omega), trivial, fun y2 H9 e9 hy2 => rk _ _ (en.trans (ep.trans (e8.trans e9))) hy2⟩
          · rintro H6 e6 hA2
            rw [g2] at hA2
            have hF6 := e6 _ _ q1
            have nD2 : D2 ≠ F := fun z => by
              rw [z, q1] at hD2
              cases hD2
            refine ⟨F, fs', .ref D2, rfl, rfl, hF6, Nat.lt_of_lt_of_le (show fs'.length < 1000 by omega) (by decide), same_mut (eH5.trans e6) hF, ?_, _, _, _, _, _, rfl⟩
            refine arl_app (n := 2 * i + 1) (H := H6) q2 (fun k hk => ?_) upd_same ⟨D2, rfl, nD2, ?_⟩ fun k hk u hu => row_stayR _ _ _ _ hF6 keep_upd hu
            · obtain ⟨u, h1, h2⟩ := q3 k hk
              exact ⟨u, h1, row_stay _ _ _ e6 h2⟩
            · rw [am_odd]
              exact arl_keep hA2 hF6 nD2 keep_upd
    · rintro σ H' ⟨e, hA, y4, y5, y6, y7, y8, rfl⟩
      rw [hn] at hA
      exact ⟨_, rfl, q F H' e hF hA⟩
end
end K86
set_option Elab.async false
set_option linter.all false
set_option maxRecDepth 100000
set_option maxHeartbeats 4000000
set_option exponentiation.threshold 20000
/-! The weights in pairs; the shares back. -/
namespace K86
open PySem PySem.Spec PyProof.Rows L2 KM
theorem kc_len {X : Cx} {K : PySem.W.Frag} (h : X.K = K) : CallR X (.builtin "len") (fun xs H Q => ∃ p ys, xs = [.ref p] ∧ (SqL K H p ys ∨ SqT K H p ys) ∧ Q (.int ys.length) H) := h ▸ call_len_seq
/-- two fractions in a tuple -/
def PairV (K : PySem.W.Frag) (r s : Rat) : VP := fun v H => ∃ p v0 v1, v = .ref p ∧ SqT K H p [v0, v1] ∧ Fr K r v0 H ∧ Fr K s v1 H
theorem pairv_stay {K : PySem.W.Frag} {r s : Rat} : Stay (PairV K r s) := fun _ _ _ e ⟨p, v0, v1, h1, h2, h3, h4⟩ => ⟨p, v0, v1, h1, sqt_mono e h2, h3.mono e, h4.mono e⟩
theorem pairv_stayD {K : PySem.W.Frag} {r s : Rat} {D : Addr} : StayD D (PairV K r s) := fun _ _ _ _ hD e ⟨p, v0, v1, h1, h2, h3, h4⟩ => ⟨p, v0, v1, h1, sqt_keep hD e h2, fr_stayD _ _ _ _ hD e h3, fr_stayD _ _ _ _ hD e h4⟩
/-- weights in pairs; shares -/
def PrsV (K : PySem.W.Frag) (l : Nat) (g : Nat → Rat) : VP := fun v H => ∃ a, v = .ref a ∧ ArT K l (fun i => PairV K (g (2 * i)) (g (2 * i + 1))) a H
def ShV (K : PySem.W.Frag) (n : Nat) (q : Nat → Rat) : VP := fun v H => ∃ a, v = .ref a ∧ ArT K (n + 1) (fun k => Fr K (q k)) a H
theorem prsv_stay {K : PySem.W.Frag} {l : Nat} {g : Nat → Rat} : Stay (PrsV K l g) := fun _ _ _ e ⟨a, h1, h2⟩ => ⟨a, h1, h2.mono e fun _ _ => pairv_stay⟩
theorem shv_stay {K : PySem.W.Frag} {n : Nat} {q : Nat → Rat} : Stay (ShV K n q) := fun _ _ _ e ⟨a, h1, h2⟩ => ⟨a, h1, h2.mono e fun _ _ => fr_stay⟩
theorem rg2 {l : Nat} (h1 : 1 ≤ l) (h4 : l ≤ 4) : RgC 0 (((2 * l : Nat)) : Int) 2 l := by
  have : l = 1 ∨ l = 2 ∨ l = 3 ∨ l = 4 := by omega
  rcases this with rfl | rfl | rfl | rfl <;> exact ⟨by decide, by decide, by decide +kernel, by decide +kernel⟩
section
variable {P : Program} {w : World} {K : PySem.W.Frag} {mg : Str → Option Value} {base : Heap}
abbrev s_paired : Stmt := topS 46
abbrev n_paired : List Str := ["weights", "at"]
theorem sc_paired : FnScope n_paired ["weights"] (defScope s_paired) := ⟨rfl, rfl, rfl, by decide +kernel, rfl, by decide +kernel, by decide +kernel⟩
abbrev s_shares_back : Stmt := topS 47
abbrev n_shares_back : List Str := ["shares", "strength", "found", "low", "many", "each"]
theorem sc_shares_back : FnScope n_shares_back ["shares", "strength"] (defScope s_shares_back) := ⟨rfl, rfl, rfl, by decide +kernel, rfl, by decide +kernel, by decide +kernel⟩
def sp_paired (K : PySem.W.Frag) : Sp := fun vs H Q _ => ∃ (W : Addr) (l : Nat) (g : Nat → Rat), vs = [.ref W] ∧ ArL (2 * l) (fun i => Fr K (g i)) W H ∧ 1 ≤ l ∧ l ≤ 4 ∧ Gives (PrsV K l g) H Q
theorem ok_paired (T : Tx K mg) : FnOk P w K mg base CX0 1 (fAt mg "paired") (fdAt K mg "paired") ["weights"] (sp_paired K) := by
  refine T.d_paired.F.ok sc_paired (fun vs H Q E h => ?_) (fun cdv A outer s H vs Q E hr h => ?_)
  · obtain ⟨W, l, g, rfl, _⟩ := h
    rfl
  · obtain ⟨W, l, g, rfl, ⟨ws, w1, w2, w3⟩, l1, l4, q⟩ := h
    refine ⟨_, (pss_one (ps_ret (pe_callTy call_tuple_of (by rfl) T.n_tuple (by decide +kernel) (pa_cons (pe_lc (own := [("at", 1)]) rfl sc_paired.nd (pi_range3 (by rfl) T.n_range (pa_cons (pe_int) (pa_cons (pe_callB call_len_seq (by rfl) T.n_len (by decide +kernel) (pa_cons (pv 0) pa_nil)) (pa_cons (pe_int) pa_nil)))) (blkOk_by (own := [("at", 1)]) (N := n_paired) (sc := defScope s_paired) (by decide +kernel)) (fun _ _ _ _ _ => pg_name (i := 1) sc_paired.nd rfl (Or.inl rfl)) (fun _ _ _ _ _ => pts_nil) (fun _ _ _ _ _ => pe_tup (pa_cons (pe_ix (kx_list (K := K) rfl) (pv 0) (pv 1) (fun _ _ => rfl)) (pa_cons (pe_ix (kx_list (K := K) rfl) (pv 0) (pe_op op_add (pv 1) (pe_int)) (fun _ _ => rfl)) pa_nil)))) pa_nil)))), ?_⟩
    refine ⟨_, rfl, W, ws, rfl, .inl (SqL.of w1), 0, ((2 * l : Nat) : Int), 2, l, by rw [w2], rg2 l1 l4, fun D hD => lc_all (walk_rangeC (lo := 0) (c := 2) (n := l)) (by omega) hD (fun i => PairV K (g (2 * i)) (g (2 * i + 1))) (fun _ _ => pairv_stay) (fun _ _ => pairv_stayD) (fun _ _ => trivial) ?_ ?_⟩
    · rintro i z H1 H2 Rk hi e1 ⟨acc, hacc⟩ ⟨rfl, hz⟩ rk
      obtain rfl : z = .int ((2 * i : Nat) : Int) := by rw [hz]; show V.int (0 + ((i : Nat) : Int) * 2) = _; rw [show 0 + ((i : Nat) : Int) * 2 = ((2 * i : Nat) : Int) by omega]
      obtain ⟨v0, h0, f0⟩ := w3 (2 * i) (by omega)
      obtain ⟨v1, h1, f1⟩ := w3 (2 * i + 1) (by omega)
      refine ⟨rfl, _, rfl, _, rfl, _, _, _, _, rfl, rfl, SqL.of (e1 _ _ w1), atI_nat h0, _, rfl, _, rfl, _, _, rfl, rfl, _, _, ((2 * i + 1 : Nat) : Int), _, rfl, rfl, SqL.of (e1 _ _ w1), atI_nat h1, by show 2 ≤ sizeLine; decide, fun p hp => ?_⟩
      have ep := same_new (o := .tup [v0, v1]) hp
      exact rk _ _ ep ⟨p, v0, v1, rfl, SqT.of upd_same, f0.mono (e1.trans ep), f1.mono (e1.trans ep)⟩
    · rintro H1 e1 ⟨us, u1, u2, u3⟩
      refine ⟨_, _, rfl, .inl ⟨.inl (.inl u1), fun p hp => ?_⟩⟩
      have ep := same_new (o := .tup us) hp
      exact q _ _ (e1.trans ep) ⟨p, rfl, us, SqT.of upd_same, u2, fun i hi => by
        obtain ⟨u, h1, h2⟩ := u3 i hi
        exact ⟨u, h1, pairv_stay _ _ _ ep h2⟩⟩
def sp_back (K : PySem.W.Frag) : Sp := fun vs H Q _ => ∃ (S : Addr) (xv : V) (n : Nat) (p : Nat → Rat) (x : Rat), vs = [.ref S, xv] ∧ ArL (n + 1) (fun k => Fr K (p k)) S H ∧ Fr K x xv H ∧ 0 < x ∧ Bd 4 x ∧ n ≤ 5 ∧ (∀ k, k ≤ n → Bd 4000 (p k)) ∧ Com 500 n (fun k => p k / x ^ k) ∧ Chan n p ∧ Gives (ShV K n (bck n p x)) H Q
theorem ok_shares_back (T : Tx K mg) : FnOk P w K mg base CX0 6 (fAt mg "shares_back") (fdAt K mg "shares_back") ["shares", "strength"] (sp_back K) := by
  refine T.d_shares_back.F.ok sc_shares_back (fun vs H Q E h => ?_) (fun cdv A outer s H vs Q E hr h => ?_)
  · obtain ⟨S, xv, n, p, x, rfl, _⟩ := h
    rfl
  · obtain ⟨S, xv, n, p, x, rfl, ⟨ss, s1, s2, s3⟩, hx, px, bx, n5, bp, cm, ch, q⟩ := h
    have pos := bck_pos ch px
    refine ⟨_, (pss_cons (ps_setLc (i := 2) (own := [("many", 4), ("each", 5)]) (g := gTup K 2 (gCons (gName 4) (gCons (gName 5) (gNil)))) rfl sc_shares_back.nd rfl rfl (sw_true rfl rfl rfl (by decide +kernel)) (pi_enum (by rfl) T.n_enumerate (pa_cons (pv 0) pa_nil)) (blkOk_by (own := [("many", 4), ("each", 5)]) (N := n_shares_back) (sc := defScope s_shares_back) (by decide +kernel)) (fun _ _ _ _ _ => pg_tup rfl (pgs_cons (pg_name (i := 4) sc_shares_back.nd rfl (Or.inl rfl)) (pgs_cons (pg_name (i := 5) sc_shares_back.nd rfl (Or.inl rfl)) pgs_nil))) (fun _ _ _ _ _ => pts_nil) (fun _ _ _ _ _ => pcall (ok_over T) T.d_over hr (by decide) (by rfl) (pa_cons (pv 5) (pa_cons (pcall (ok_power T) T.d_power hr (by decide) (by rfl) (pa_cons (pv 1) (pa_cons (pv 4) pa_nil))) pa_nil))))
  (pss_cons (ps_set (i := 3) sc_shares_back.nd rfl (Or.inr rfl) (pcall (ok_total_of T) T.d_total_of hr (by decide) (by rfl) (pa_cons (pv 2) pa_nil)))
  (pss_one (ps_ret (pe_callTy call_tuple_of (by rfl) T.n_tuple (by decide +kernel) (pa_cons (pe_lc (own := [("each", 5)]) rfl sc_shares_back.nd (pi_list (pv 2)) (blkOk_by (own := [("each", 5)]) (N := n_shares_back) (sc := defScope s_shares_back) (by decide +kernel)) (fun _ _ _ _ _ => pg_name (i := 5) sc_shares_back.nd rfl (Or.inl rfl)) (fun _ _ _ _ _ => pts_nil) (fun _ _ _ _ _ => pcall (ok_over T) T.d_over hr (by decide) (by rfl) (pa_cons (pv 5) (pa_cons (pv 3) pa_nil)))) pa_nil)))))), ?_⟩
    refine ⟨_, rfl, S, ss, rfl, SqL.of s1, fun D hD => lc_all (walk_enum (K := K) (a := S) (xs := ss)) (by omega) hD (fun k => Fr K (p k / x ^ k)) (fun _ _ => fr_stay) (fun _ _ => fr_stayD) (fun H' e => SqL.of (e _ _ s1)) ?_ ?_⟩
    · rintro k z H1 H2 Rk hk e1 ⟨acc, hacc⟩ ⟨T1, i1, x1, rfl, hT1, rfl, hi1, hx1⟩ rk
      cases hi1
      obtain ⟨x1', hx1', fx⟩ := s3 k (by omega)
      obtain rfl : x1 = x1' := Option.some.inj (hx1.symm.trans hx1')
      have en := same_new (o := .tup [.int ((k : Nat) : Int), x1]) hT1
      refine ⟨T1, _, rfl, SqT.of upd_same, rfl, _, _, rfl, _, _, rfl, rfl, rfl, ?_⟩
      have pk := pow_pos' px k
      exact ⟨_, rfl, _, rfl, _, rfl, xv, x, k, rfl, hx.mono (e1.trans en), bx.mono (by decide), by omega, fun u H3 e3 hu => ⟨x1, u, _, _, rfl, fx.mono (e1.trans (en.trans e3)), hu, bp k (by omega), (bd_pow bx (by decide)).mono (by omega), by grind, fun y H4 e4 hy => rk _ _ (en.trans (e3.trans e4)) hy⟩⟩
    · rintro H1 e1 hA
      rw [s2] at hA
      have bs : ∀ i, i ≤ n + 1 → Bd 4000 (sm i fun k => p k / x ^ k) := fun i hi => (Sz.bd (Com.sum cm hi (by omega))).mono (by decide)
      have bf : ∀ k, k ≤ n → Bd 4000 (p k / x ^ k) := fun k hk => (Sz.bd (cm.at hk)).mono (by decide)
      refine ⟨_, rfl, D, n + 1, _, rfl, hA, by omega, fun i hi => bf i (by omega), bs, fun lv H2 e2 hlv => ?_⟩
      obtain ⟨ds, d1, d2, d3⟩ := hA
      have d1' := e2 _ _ d1
      refine ⟨_, rfl, D, rfl, ⟨ds, SqL.of d1'⟩, fun D2 hD2 => lc_all (walk_list (K := K) (a := D) (xs := ds)) (by omega) hD2 (fun k => Fr K (bck n p x k)) (fun _ _ => fr_stay) (fun _ _ => fr_stayD) (fun H' e => SqL.of (e _ _ d1')) ?_ ?_⟩
      · rintro k z H3 H4 Rk hk e3 ⟨acc, hacc⟩ ⟨rfl, hz⟩ rk
        obtain ⟨z', hz', fz⟩ := d3 k (by omega)
        obtain rfl : z = z' := Option.some.inj (hz.symm.trans hz')
        exact ⟨rfl, _, rfl, _, rfl, z, lv, _, _, rfl, fz.mono (e2.trans e3), hlv.mono e3, bf k (by omega), bs (n + 1) (Nat.le_refl _), by grind, fun y H5 e5 hy => rk _ _ e5 hy⟩
      · rintro H3 e3 ⟨us, u1, u2, u3⟩
        refine ⟨_, _, rfl, .inl ⟨.inl (.inl u1), fun t ht => ?_⟩⟩
        have et := same_new (o := .tup us) ht
        exact q _ _ (e1.trans (e2.trans (e3.trans et))) ⟨t, rfl, us, SqT.of upd_same, by omega, fun i hi => by
          obtain ⟨u, h1, h2⟩ := u3 i (by omega)
          exact ⟨u, h1, h2.mono et⟩⟩
end
end K86
set_option Elab.async false
set_option linter.all false
set_option maxRecDepth 100000
set_option maxHeartbeats 4000000
set_option exponentiation.threshold 20000
/-! Both ends; the ranges. -/
namespace K86
open PySem PySem.Spec PyProof.Rows L2 KM
theorem prob_of {s l : Nat} {L : Nat → Lk} {x : Rat} {rew : Nat → Rat} (C : Case s l L x) (hr : Rew s rew) : Prob s (2 * l) (Am L x) rew := ⟨C.n1, by have := C.n5; omega, by have := C.l4; omega, C.fits, fun d g i j hi hj => Sz.bd (C.size hr g hi hj)⟩
theorem rew_bd {n k : Nat} {rew : Nat → Rat} (hr : Rew n rew) (hk : k ≤ n) : Bd 4000 (rew k) := by
  obtain ⟨a, h1, h2⟩ := hr k hk
  rw [h2]
  refine ⟨?_, ?_⟩
  · show a.natAbs < _
    exact Nat.lt_of_lt_of_le (show a.natAbs < 2 ^ 10 by omega) (Nat.pow_le_pow_right (by decide) (by decide))
  · show 1 < 2 ^ 4000
    exact Nat.lt_of_lt_of_le (show 1 < 2 ^ 1 by decide) (Nat.pow_le_pow_right (by decide) (by decide))
theorem am_bd {s l : Nat} {L : Nat → Lk} {x : Rat} (C : Case s l L x) {i k : Nat} (hi : i < 2 * l) (hk : k ≤ s) : Bd 4000 (Am L x i k) := (Sz.bd (C.am hi hk)).mono (by decide)
theorem rows_row {K : PySem.W.Frag} {F : Addr} {m w : Nat} {t : Nat → Nat → Rat} {H : Hp} (h : ArL m (fun i => RowN K F w (t i)) F H) : ArL m (fun i => Row K w (t i)) F H :=
  let ⟨vs, h1, h2, h3⟩ := h; ⟨vs, h1, h2, fun i hi => let ⟨v, e1, a, e2, _, e3⟩ := h3 i hi; ⟨v, e1, a, e2, e3⟩⟩
/-- what one end tells -/
def EndV (K : PySem.W.Frag) (s l : Nat) (L : Nat → Lk) (x : Rat) (sg : Int) (d : Dic) : VP := fun v H => ∃ t v0 v1 v2, v = .ref t ∧ SqT K H t [v0, v1, v2] ∧ Fr K ((sg : Rat) * d.t (2 * l + 1) 0) v0 H ∧ ShV K s (Qs s l d x) v1 H ∧ PrsV K l (fun i => wgt (2 * l + 1) s d (s + 1 + i)) v2 H
theorem endv_stay {K : PySem.W.Frag} {s l : Nat} {L : Nat → Lk} {x : Rat} {sg : Int} {d : Dic} : Stay (EndV K s l L x sg d) := fun _ _ _ e ⟨t, v0, v1, v2, h1, h2, h3, h4, h5⟩ => ⟨t, v0, v1, v2, h1, sqt_mono e h2, h3.mono e, shv_stay _ _ _ e h4, prsv_stay _ _ _ e h5⟩
theorem lksv_stay {K : PySem.W.Frag} {n : Nat} {L : Nat → Lk} : Stay (LksV K n L) := fun _ _ _ e h => lksv_mono h e
section
variable {P : Program} {w : World} {K : PySem.W.Frag} {mg : Str → Option Value} {base : Heap}
abbrev s_end_of : Stmt := topS 48
abbrev n_end_of : List Str := ["seats", "looks", "strength", "sign", "rewards", "best", "shares", "weights", "many"]
theorem sc_end_of : FnScope n_end_of ["seats", "looks", "strength", "sign"] (defScope s_end_of) := ⟨rfl, rfl, rfl, by decide +kernel, rfl, by decide +kernel, by decide +kernel⟩
abbrev s_both_ends : Stmt := topS 49
abbrev n_both_ends : List Str := ["seats", "looks", "strength", "least", "most"]
theorem sc_both_ends : FnScope n_both_ends ["seats", "looks", "strength"] (defScope s_both_ends) := ⟨rfl, rfl, rfl, by decide +kernel, rfl, by decide +kernel, by decide +kernel⟩
abbrev s_fill_range : Stmt := topS 50
abbrev n_fill_range : List Str := ["seats", "looks", "strength", "least", "most"]
theorem sc_fill_range : FnScope n_fill_range ["seats", "looks", "strength"] (defScope s_fill_range) := ⟨rfl, rfl, rfl, by decide +kernel, rfl, by decide +kernel, by decide +kernel⟩
abbrev s_range_shares : Stmt := topS 51
abbrev n_range_shares : List Str := ["seats", "looks", "strength", "least", "most"]
theorem sc_range_shares : FnScope n_range_shares ["seats", "looks", "strength"] (defScope s_range_shares) := ⟨rfl, rfl, rfl, by decide +kernel, rfl, by decide +kernel, by decide +kernel⟩
abbrev s_range_weights : Stmt := topS 52
abbrev n_range_weights : List Str := ["seats", "looks", "strength", "least", "most"]
theorem sc_range_weights : FnScope n_range_weights ["seats", "looks", "strength"] (defScope s_range_weights) := ⟨rfl, rfl, rfl, by decide +kernel, rfl, by decide +kernel, by decide +kernel⟩
def sp_end (K : PySem.W.Frag) : Sp := fun vs H Q _ => ∃ (s l : Nat) (v xv : V) (L : Nat → Lk) (x : Rat) (sg : Int), vs = [.int (s : Nat), v, xv, .int sg] ∧ LksV K l L v H ∧ LksOk s l L ∧ Fr K x xv H ∧ Bd 4 x ∧ Case s l L x ∧ (sg = 1 ∨ sg = -1) ∧ Gives (fun v H => ∃ d, Last s (2 * l) (Am L x) (rwd sg) d ∧ EndV K s l L x sg d v H) H Q
theorem ok_end_of (T : Tx K mg) : FnOk P w K mg base CX0 8 (fAt mg "end_of") (fdAt K mg "end_of") ["seats", "looks", "strength", "sign"] (sp_end K) := by
  refine T.d_end_of.F.ok sc_end_of (fun vs H Q E h => ?_) (fun cdv A outer s H vs Q E hr h => ?_)
  · obtain ⟨s, l, v, xv, L, x, sg, rfl, _⟩ := h
    rfl
  · obtain ⟨s, l, v, xv, L, x, sg, rfl, hL, ok, hx, bx, C, hsg, q⟩ := h
    have s5 := ok.s5
    have px := C.xp
    have rw' := rwd_rew (n := s) s5 hsg
    have sgb : sg.natAbs < 2 ^ 2 := by rcases hsg with rfl | rfl <;> decide
    refine ⟨_, (pss_cons (ps_setLc (i := 4) (own := [("many", 8)]) rfl sc_end_of.nd rfl rfl (sw_true rfl rfl rfl (by decide +kernel)) (pi_range1 (by rfl) T.n_range (pa_cons (pe_op op_add (pv 0) (pe_int)) pa_nil)) (blkOk_by (own := [("many", 8)]) (N := n_end_of) (sc := defScope s_end_of) (by decide +kernel)) (fun _ _ _ _ _ => pg_name (i := 8) sc_end_of.nd rfl (Or.inl rfl)) (fun _ _ _ _ _ => pts_nil) (fun _ _ _ _ _ => pe_tup (pa_cons (pe_op op_mulX (pv 3) (pv 8)) (pa_cons (pe_int) pa_nil))))
  (pss_cons (ps_asg (pcall (ok_best_shares T) T.d_best_shares hr (by decide) (by rfl) (pa_cons (pcall (ok_inequalities_of T) T.d_inequalities_of hr (by decide) (by rfl) (pa_cons (pv 0) (pa_cons (pv 1) (pa_cons (pv 2) pa_nil)))) (pa_cons (pv 4) pa_nil))) (pg_tup rfl (pgs_cons (pg_name (i := 5) sc_end_of.nd rfl (Or.inl rfl)) (pgs_cons (pg_name (i := 6) sc_end_of.nd rfl (Or.inl rfl)) (pgs_cons (pg_name (i := 7) sc_end_of.nd rfl (Or.inl rfl)) pgs_nil)))))
  (pss_cons (ps_if (pt_cmpR op_isN (pv 5) (pe_non) (nomark _)) (pss_one (ps_ret (pe_tup (pa_cons (pe_non) (pa_cons (pe_non) (pa_cons (pe_non) pa_nil)))))) pss_nil)
  (pss_one (ps_ret (pe_tup (pa_cons (pe_ifExp (pt_cmpR op_eq (pv 3) (pe_int) (nomark _)) (pv 5) (pcall (ok_opposite_of T) T.d_opposite_of hr (by decide) (by rfl) (pa_cons (pv 5) pa_nil))) (pa_cons (pcall (ok_shares_back T) T.d_shares_back hr (by decide) (by rfl) (pa_cons (pv 6) (pa_cons (pv 2) pa_nil))) (pa_cons (pcall (ok_paired T) T.d_paired hr (by decide) (by rfl) (pa_cons (pv 7) pa_nil)) pa_nil))))))))), ?_⟩
    refine ⟨_, rfl, _, _, rfl, rfl, _, rfl, by omega, by omega, fun W hW => lc_all (walk_range (lo := 0) (n := (((s : Nat) : Int) + 1).toNat)) (by omega) hW (fun k => Fr K (rwd sg k)) (fun _ _ => fr_stay) (fun _ _ => fr_stayD) (fun _ _ => trivial) ?_ ?_⟩
    · rintro k z H3 H4 Rk hk e3 ⟨acc, hacc⟩ ⟨rfl, hz⟩ rk
      obtain rfl : z = .int ((k : Nat) : Int) := by rw [hz]; simp
      refine ⟨rfl, _, rfl, _, rfl, _, _, rfl, rfl, mulx_ok (a := 2) (b := 11) sgb (by rw [Int.natAbs_natCast]; omega) (by decide), by show 2 ≤ sizeLine; decide, fun p hp => ?_⟩
      exact rk _ _ (same_new (o := .tup [.int (sg * (k : Int)), .int 1]) hp) (fr_int (SqT.of upd_same))
    · rintro H1 e1 hW1
      rw [show (((s : Nat) : Int) + 1).toNat = s + 1 by omega] at hW1
      refine ⟨_, rfl, _, rfl, _, rfl, s, l, v, xv, L, x, rfl, lksv_mono hL e1, ok, hx.mono e1, px, bx, fun F H2 e2 hF hA => ?_⟩
      refine ⟨_, rfl, F, W, s, 2 * l, Am L x, rwd sg, rfl, rows_row hA, hW1.mono e2 (fun _ _ => fr_stay), prob_of C rw', fun i j hi hj => am_bd C hi hj, fun j hj => rew_bd rw' hj, fun bv H3 e3 hb => ?_⟩
      obtain ⟨t, v0, s1, w1, d, rfl, hT, f0, hS, hWt, la⟩ := hb
      have e13 := e1.trans (e2.trans e3)
      refine ⟨t, _, rfl, hT, rfl, _, _, rfl, _, _, rfl, _, _, rfl, rfl, ?_⟩
      obtain ⟨a0, rfl, h0⟩ := f0
      have f0 : Fr K (d.t (2 * l + 1) 0) (.ref a0) H3 := ⟨a0, rfl, h0⟩
      refine ⟨_, rfl, rfl, _, rfl, ?_⟩
      rw [decide_eq_false (by intro z; cases z)]
      refine ⟨_, rfl, rfl, _, rfl, ?_⟩
      have bp : ∀ k, k ≤ s → Bd 4000 (shr (2 * l + 1) d k) := fun k hk => (Sz.bd ((C.com rw' la.g).at hk)).mono (by decide)
      have cm := la.fcom C rw'
      rcases hsg with rfl | rfl
      · rw [decide_eq_true rfl]
        have f0 : Fr K (((1 : Int) : Rat) * d.t (2 * l + 1) 0) (.ref a0) H3 := by
          rw [show ((1 : Int) : Rat) * d.t (2 * l + 1) 0 = d.t (2 * l + 1) 0 by rw [show ((1 : Int) : Rat) = 1 from rfl]; grind]
          exact f0
        refine ⟨_, rfl, ?_⟩
        have e4 := Same.refl H3
        refine ⟨_, rfl, _, rfl, s1, xv, s, _, x, rfl, hS.mono e4 (fun _ _ => fr_stay), hx.mono (e13.trans e4), px, bx, s5, bp, cm, la.chan, fun v1 H5 e5 h1 => ?_⟩
        refine ⟨_, rfl, w1, l, _, rfl, hWt.mono (e4.trans e5) (fun _ _ => fr_stay), ok.n1, ok.n4, fun v2 H6 e6 h2 => ?_⟩
        refine ⟨by show 3 ≤ sizeLine; decide, fun p hp => ?_⟩
        have ep := same_new (o := .tup [.ref a0, v1, v2]) hp
        exact q _ _ (e13.trans (e4.trans (e5.trans (e6.trans ep)))) ⟨d, la, p, _, v1, v2, rfl, SqT.of upd_same, f0.mono (e5.trans (e6.trans ep)), shv_stay _ _ _ (e6.trans ep) h1, prsv_stay _ _ _ ep h2⟩
      · rw [decide_eq_false (by intro z; have := V.int.inj z; omega)]
        refine ⟨_, rfl, _, _, rfl, f0, fun v0 H4 e4 f0 => ?_⟩
        have f0 : Fr K (((-1 : Int) : Rat) * d.t (2 * l + 1) 0) v0 H4 := by
          rw [show ((-1 : Int) : Rat) * d.t (2 * l + 1) 0 = -d.t (2 * l + 1) 0 by rw [show ((-1 : Int) : Rat) = -1 by rw [Rat.intCast_neg]; rfl]; grind]
          exact f0
        refine ⟨_, rfl, _, rfl, s1, xv, s, _, x, rfl, hS.mono e4 (fun _ _ => fr_stay), hx.mono (e13.trans e4), px, bx, s5, bp, cm, la.chan, fun v1 H5 e5 h1 => ?_⟩
        refine ⟨_, rfl, w1, l, _, rfl, hWt.mono (e4.trans e5) (fun _ _ => fr_stay), ok.n1, ok.n4, fun v2 H6 e6 h2 => ?_⟩
        refine ⟨by show 3 ≤ sizeLine; decide, fun p hp => ?_⟩
        have ep := same_new (o := .tup [v0, v1, v2]) hp
        exact q _ _ (e13.trans (e4.trans (e5.trans (e6.trans ep)))) ⟨d, la, p, _, v1, v2, rfl, SqT.of upd_same, f0.mono (e5.trans (e6.trans ep)), shv_stay _ _ _ (e6.trans ep) h1, prsv_stay _ _ _ ep h2⟩
/-- what both ends tell -/
def BothV (K : PySem.W.Frag) (s l : Nat) (L : Nat → Lk) (x : Rat) : VP := fun v H => ∃ t va vb d1 d2, v = .ref t ∧ SqT K H t [va, vb] ∧ Ends s l L x d1 d2 ∧ EndV K s l L x (-1) d1 va H ∧ EndV K s l L x 1 d2 vb H
def sp_both (K : PySem.W.Frag) (R : Nat → Nat → (Nat → Lk) → Rat → VP) : Sp := fun vs H Q _ => ∃ (s l : Nat) (v xv : V) (L : Nat → Lk) (x : Rat), vs = [.int (s : Nat), v, xv] ∧ LksV K l L v H ∧ LksOk s l L ∧ Fr K x xv H ∧ Bd 4 x ∧ Case s l L x ∧ Gives (R s l L x) H Q
theorem ok_both_ends (T : Tx K mg) : FnOk P w K mg base CX0 9 (fAt mg "both_ends") (fdAt K mg "both_ends") ["seats", "looks", "strength"] (sp_both K (BothV K)) := by
  refine T.d_both_ends.F.ok sc_both_ends (fun vs H Q E h => ?_) (fun cdv A outer s H vs Q E hr h => ?_)
  · obtain ⟨s, l, v, xv, L, x, rfl, _⟩ := h
    rfl
  · obtain ⟨s, l, v, xv, L, x, rfl, hL, ok, hx, bx, C, q⟩ := h
    refine ⟨_, (pss_cons (ps_par (i := 3) (j := 4) rfl sc_both_ends.nd rfl rfl (by decide) rfl rfl (pa_cons (pcall (ok_end_of T) T.d_end_of hr (by decide) (by rfl) (pa_cons (pv 0) (pa_cons (pv 1) (pa_cons (pv 2) (pa_cons (pe_un un_neg (pe_int)) pa_nil))))) (pa_cons (pcall (ok_end_of T) T.d_end_of hr (by decide) (by rfl) (pa_cons (pv 0) (pa_cons (pv 1) (pa_cons (pv 2) (pa_cons (pe_int) pa_nil))))) pa_nil)) (by rfl))
  (pss_cons (ps_if (pt_cmpR op_isN (pe_ix ix_tup (pv 3) (pe_int) (fun _ _ => rfl)) (pe_non) (nomark _)) (pss_one (ps_never)) pss_nil)
  (pss_one (ps_ret (pe_tup (pa_cons (pv 3) (pa_cons (pv 4) pa_nil))))))), ?_⟩
    refine ⟨_, rfl, _, rfl, _, rfl, _, rfl, s, l, v, xv, L, x, -1, rfl, hL, ok, hx, bx, C, .inr rfl, fun va H1 e1 ha => ?_⟩
    refine ⟨_, rfl, _, rfl, _, rfl, s, l, v, xv, L, x, 1, rfl, lksv_mono hL e1, ok, hx.mono e1, bx, C, .inl rfl, fun vb H2 e2 hb => ?_⟩
    obtain ⟨d1, la1, ha⟩ := ha
    obtain ⟨d2, la2, hb⟩ := hb
    have ha := endv_stay (K := K) (L := L) _ _ _ e2 ha
    refine ⟨_, _, rfl, ?_⟩
    obtain ⟨t1, v0, v1, v2, rfl, hT, ⟨a0, rfl, h0⟩, h1, h2⟩ := ha
    refine ⟨_, rfl, _, _, 0, _, rfl, rfl, hT, at0, rfl, _, rfl, ?_⟩
    rw [decide_eq_false (by intro z; cases z)]
    refine ⟨_, rfl, _, rfl, by show 2 ≤ sizeLine; decide, fun p hp => ?_⟩
    have ep := same_new (o := .tup [.ref t1, vb]) hp
    exact q _ _ (e1.trans (e2.trans ep)) ⟨p, _, vb, d1, d2, rfl, SqT.of upd_same, ⟨la1, la2⟩, endv_stay (K := K) (L := L) _ _ _ ep ⟨t1, _, v1, v2, rfl, hT, ⟨a0, rfl, h0⟩, h1, h2⟩, endv_stay (K := K) (L := L) _ _ _ ep hb⟩
def FillV (K : PySem.W.Frag) (s l : Nat) (L : Nat → Lk) (x : Rat) : VP := fun v H => ∃ t v0 v1 d1 d2, v = .ref t ∧ SqT K H t [v0, v1] ∧ Ends s l L x d1 d2 ∧ Fr K (-d1.t (2 * l + 1) 0) v0 H ∧ Fr K (d2.t (2 * l + 1) 0) v1 H
def SharesV (K : PySem.W.Frag) (s l : Nat) (L : Nat → Lk) (x : Rat) : VP := fun v H => ∃ t v0 v1 d1 d2, v = .ref t ∧ SqT K H t [v0, v1] ∧ Ends s l L x d1 d2 ∧ ShV K s (Qs s l d1 x) v0 H ∧ ShV K s (Qs s l d2 x) v1 H
def WeightsV (K : PySem.W.Frag) (s l : Nat) (L : Nat → Lk) (x : Rat) : VP := fun v H => ∃ t v0 v1 d1 d2, v = .ref t ∧ SqT K H t [v0, v1] ∧ Ends s l L x d1 d2 ∧ PrsV K l (fun i => wgt (2 * l + 1) s d1 (s + 1 + i)) v0 H ∧ PrsV K l (fun i => wgt (2 * l + 1) s d2 (s + 1 + i)) v1 H
theorem neg1 (r : Rat) : ((-1 : Int) : Rat) * r = -r := by rw [show ((-1 : Int) : Rat) = -1 by rw [Rat.intCast_neg]; rfl]; grind
theorem pos1 (r : Rat) : ((1 : Int) : Rat) * r = r := by rw [show ((1 : Int) : Rat) = 1 from rfl]; grind
theorem ok_fill_range (T : Tx K mg) : FnOk P w K mg base CX0 10 (fAt mg "fill_range") (fdAt K mg "fill_range") ["seats", "looks", "strength"] (sp_both K (FillV K)) := by
  refine T.d_fill_range.F.ok sc_fill_range (fun vs H Q E h => ?_) (fun cdv A outer s H vs Q E hr h => ?_)
  · obtain ⟨s, l, v, xv, L, x, rfl, _⟩ := h
    rfl
  · obtain ⟨s, l, v, xv, L, x, rfl, hL, ok, hx, bx, C, q⟩ := h
    refine ⟨_, (pss_cons (ps_expr (pcall (ok_check_looks T) T.d_check_looks hr (by decide) (by rfl) (pa_cons (pv 0) (pa_cons (pv 1) pa_nil))))
  (pss_cons (ps_expr (pcall (ok_check_strength T) T.d_check_strength hr (by decide) (by rfl) (pa_cons (pv 2) pa_nil)))
  (pss_cons (ps_asg (pcall (ok_both_ends T) T.d_both_ends hr (by decide) (by rfl) (pa_cons (pv 0) (pa_cons (pv 1) (pa_cons (pv 2) pa_nil)))) (pg_tup rfl (pgs_cons (pg_name (i := 3) sc_fill_range.nd rfl (Or.inl rfl)) (pgs_cons (pg_name (i := 4) sc_fill_range.nd rfl (Or.inl rfl)) pgs_nil))))
  (pss_one (ps_ret (pe_tup (pa_cons (pe_ix ix_tup (pv 3) (pe_int) (fun _ _ => rfl)) (pa_cons (pe_ix ix_tup (pv 4) (pe_int) (fun _ _ => rfl)) pa_nil)))))))), ?_⟩
    refine ⟨_, rfl, _, rfl, s, l, v, L, rfl, hL, ok, fun u1 H1 e1 h1 => ?_⟩
    refine ⟨_, rfl, xv, x, rfl, hx.mono e1, C.xp, fun u2 H2 e2 h2 => ?_⟩
    have e12 := e1.trans e2
    refine ⟨_, rfl, _, rfl, _, rfl, s, l, v, xv, L, x, rfl, lksv_mono hL e12, ok, hx.mono e12, bx, C, fun bv H3 e3 hb => ?_⟩
    obtain ⟨t, va, vb, d1, d2, rfl, hT, en, ⟨t1, a0, a1, a2, rfl, hT1, f0, f1, f2⟩, ⟨t2, b0, b1, b2, rfl, hT2, g0, g1, g2⟩⟩ := hb
    refine ⟨t, _, rfl, hT, rfl, _, _, rfl, _, _, rfl, rfl, ?_⟩
    refine ⟨_, rfl, _, _, 0, _, rfl, rfl, hT1, at0, _, rfl, _, _, 0, _, rfl, rfl, hT2, at0, by show 2 ≤ sizeLine; decide, fun p hp => ?_⟩
    have ep := same_new (o := .tup [a0, b0]) hp
    exact q _ _ (e12.trans (e3.trans ep)) ⟨p, a0, b0, d1, d2, rfl, SqT.of upd_same, en, by rw [← neg1]; exact f0.mono ep, by rw [← pos1 (d2.t _ _)]; exact g0.mono ep⟩
theorem ok_range_shares (T : Tx K mg) : FnOk P w K mg base CX0 10 (fAt mg "range_shares") (fdAt K mg "range_shares") ["seats", "looks", "strength"] (sp_both K (SharesV K)) := by
  refine T.d_range_shares.F.ok sc_range_shares (fun vs H Q E h => ?_) (fun cdv A outer s H vs Q E hr h => ?_)
  · obtain ⟨s, l, v, xv, L, x, rfl, _⟩ := h
    rfl
  · obtain ⟨s, l, v, xv, L, x, rfl, hL, ok, hx, bx, C, q⟩ := h
    refine ⟨_, (pss_cons (ps_expr (pcall (ok_check_looks T) T.d_check_looks hr (by decide) (by rfl) (pa_cons (pv 0) (pa_cons (pv 1) pa_nil))))
  (pss_cons (ps_expr (pcall (ok_check_strength T) T.d_check_strength hr (by decide) (by rfl) (pa_cons (pv 2) pa_nil)))
  (pss_cons (ps_asg (pcall (ok_both_ends T) T.d_both_ends hr (by decide) (by rfl) (pa_cons (pv 0) (pa_cons (pv 1) (pa_cons (pv 2) pa_nil)))) (pg_tup rfl (pgs_cons (pg_name (i := 3) sc_range_shares.nd rfl (Or.inl rfl)) (pgs_cons (pg_name (i := 4) sc_range_shares.nd rfl (Or.inl rfl)) pgs_nil))))
  (pss_one (ps_ret (pe_tup (pa_cons (pe_ix ix_tup (pv 3) (pe_int) (fun _ _ => rfl)) (pa_cons (pe_ix ix_tup (pv 4) (pe_int) (fun _ _ => rfl)) pa_nil)))))))), ?_⟩
    refine ⟨_, rfl, _, rfl, s, l, v, L, rfl, hL, ok, fun u1 H1 e1 h1 => ?_⟩
    refine ⟨_, rfl, xv, x, rfl, hx.mono e1, C.xp, fun u2 H2 e2 h2 => ?_⟩
    have e12 := e1.trans e2
    refine ⟨_, rfl, _, rfl, _, rfl, s, l, v, xv, L, x, rfl, lksv_mono hL e12, ok, hx.mono e12, bx, C, fun bv H3 e3 hb => ?_⟩
    obtain ⟨t, va, vb, d1, d2, rfl, hT, en, ⟨t1, a0, a1, a2, rfl, hT1, f0, f1, f2⟩, ⟨t2, b0, b1, b2, rfl, hT2, g0, g1, g2⟩⟩ := hb
    refine ⟨t, _, rfl, hT, rfl, _, _, rfl, _, _, rfl, rfl, ?_⟩
    refine ⟨_, rfl, _, _, 1, _, rfl, rfl, hT1, at1, _, rfl, _, _, 1, _, rfl, rfl, hT2, at1, by show 2 ≤ sizeLine; decide, fun p hp => ?_⟩
    have ep := same_new (o := .tup [a1, b1]) hp
    exact q _ _ (e12.trans (e3.trans ep)) ⟨p, a1, b1, d1, d2, rfl, SqT.of upd_same, en, shv_stay _ _ _ ep f1, shv_stay _ _ _ ep g1⟩
theorem ok_range_weights (T : Tx K mg) : FnOk P w K mg base CX0 10 (fAt mg "range_weights") (fdAt K mg "range_weights") ["seats", "looks", "strength"] (sp_both K (WeightsV K)) := by
  refine T.d_range_weights.F.ok sc_range_weights (fun vs H Q E h => ?_) (fun cdv A outer s H vs Q E hr h => ?_)
  · obtain ⟨s, l, v, xv, L, x, rfl, _⟩ := h
    rfl
  · obtain ⟨s, l, v, xv, L, x, rfl, hL, ok, hx, bx, C, q⟩ := h
    refine ⟨_, (pss_cons (ps_expr (pcall (ok_check_looks T) T.d_check_looks hr (by decide) (by rfl) (pa_cons (pv 0) (pa_cons (pv 1) pa_nil))))
  (pss_cons (ps_expr (pcall (ok_check_strength T) T.d_check_strength hr (by decide) (by rfl) (pa_cons (pv 2) pa_nil)))
  (pss_cons (ps_asg (pcall (ok_both_ends T) T.d_both_ends hr (by decide) (by rfl) (pa_cons (pv 0) (pa_cons (pv 1) (pa_cons (pv 2) pa_nil)))) (pg_tup rfl (pgs_cons (pg_name (i := 3) sc_range_weights.nd rfl (Or.inl rfl)) (pgs_cons (pg_name (i := 4) sc_range_weights.nd rfl (Or.inl rfl)) pgs_nil))))
  (pss_one (ps_ret (pe_tup (pa_cons (pe_ix ix_tup (pv 3) (pe_int) (fun _ _ => rfl)) (pa_cons (pe_ix ix_tup (pv 4) (pe_int) (fun _ _ => rfl)) pa_nil)))))))), ?_⟩
    refine ⟨_, rfl, _, rfl, s, l, v, L, rfl, hL, ok, fun u1 H1 e1 h1 => ?_⟩
    refine ⟨_, rfl, xv, x, rfl, hx.mono e1, C.xp, fun u2 H2 e2 h2 => ?_⟩
    have e12 := e1.trans e2
    refine ⟨_, rfl, _, rfl, _, rfl, s, l, v, xv, L, x, rfl, lksv_mono hL e12, ok, hx.mono e12, bx, C, fun bv H3 e3 hb => ?_⟩
    obtain ⟨t, va, vb, d1, d2, rfl, hT, en, ⟨t1, a0, a1, a2, rfl, hT1, f0, f1, f2⟩, ⟨t2, b0, b1, b2, rfl, hT2, g0, g1, g2⟩⟩ := hb
    refine ⟨t, _, rfl, hT, rfl, _, _, rfl, _, _, rfl, rfl, ?_⟩
    refine ⟨_, rfl, _, _, 2, _, rfl, rfl, hT1, at2, _, rfl, _, _, 2, _, rfl, rfl, hT2, at2, by show 2 ≤ sizeLine; decide, fun p hp => ?_⟩
    have ep := same_new (o := .tup [a2, b2]) hp
    exact q _ _ (e12.trans (e3.trans ep)) ⟨p, a2, b2, d1, d2, rfl, SqT.of upd_same, en, prsv_stay _ _ _ ep f2, prsv_stay _ _ _ ep g2⟩
end
end K86
set_option Elab.async false
set_option linter.all false
set_option maxRecDepth 100000
set_option maxHeartbeats 4000000
set_option exponentiation.threshold 20000
/-! The range of a number. -/
namespace K86
open PySem PySem.Spec PyProof.Rows L2 KM
def sgk (k : Nat) : Int := if k = 0 then -1 else 1
theorem sgk_or (k : Nat) : sgk k = 1 ∨ sgk k = -1 := by unfold sgk; split <;> simp
section
variable {P : Program} {w : World} {K : PySem.W.Frag} {mg : Str → Option Value} {base : Heap}
abbrev s_number_range : Stmt := topS 53
abbrev n_number_range : List Str := ["seats", "looks", "strength", "number", "rows", "found", "sign", "rewards", "best", "many"]
theorem sc_number_range : FnScope n_number_range ["seats", "looks", "strength", "number"] (defScope s_number_range) := ⟨rfl, rfl, rfl, by decide +kernel, rfl, by decide +kernel, by decide +kernel⟩
def OneV (K : PySem.W.Frag) (s l : Nat) (L : Nat → Lk) (x : Rat) (c : Nat) (k : Nat) : VP := fun v H => ∃ d, Last s (2 * l) (Am L x) (rwn (sgk k) c) d ∧ Fr K ((sgk k : Rat) * d.t (2 * l + 1) 0) v H
theorem onev_stay {s l : Nat} {L : Nat → Lk} {x : Rat} {c k : Nat} : Stay (OneV K s l L x c k) := fun _ _ _ e ⟨d, h1, h2⟩ => ⟨d, h1, h2.mono e⟩
theorem onev_stayD {s l : Nat} {L : Nat → Lk} {x : Rat} {c k : Nat} {D : Addr} : StayD D (OneV K s l L x c k) := fun _ _ _ _ hD e ⟨d, h1, h2⟩ => ⟨d, h1, fr_stayD _ _ _ _ hD e h2⟩
def SpanV (K : PySem.W.Frag) (s l : Nat) (L : Nat → Lk) (x : Rat) (c : Nat) : VP := fun v H => ∃ t v0 v1 d1 d2, v = .ref t ∧ SqT K H t [v0, v1] ∧ Span s l L x c d1 d2 ∧ Fr K (-d1.t (2 * l + 1) 0) v0 H ∧ Fr K (d2.t (2 * l + 1) 0) v1 H
def sp_numr (K : PySem.W.Frag) : Sp := fun vs H Q _ => ∃ (s l c : Nat) (v xv : V) (L : Nat → Lk) (x : Rat), vs = [.int (s : Nat), v, xv, .int (c : Nat)] ∧ LksV K l L v H ∧ LksOk s l L ∧ Fr K x xv H ∧ Bd 4 x ∧ Case s l L x ∧ c ≤ s ∧ Gives (SpanV K s l L x c) H Q
theorem ok_number_range (T : Tx K mg) : FnOk P w K mg base CX0 10 (fAt mg "number_range") (fdAt K mg "number_range") ["seats", "looks", "strength", "number"] (sp_numr K) := by
  refine T.d_number_range.F.ok sc_number_range (fun vs H Q E h => ?_) (fun cdv A outer s H vs Q E hr h => ?_)
  · obtain ⟨s, l, c, v, xv, L, x, rfl, _⟩ := h
    rfl
  · obtain ⟨s, l, c, v, xv, L, x, rfl, hL, ok, hx, bx, C, hc, q⟩ := h
    have s5 := ok.s5
    refine ⟨_, (pss_cons (ps_expr (pcall (ok_check_looks T) T.d_check_looks hr (by decide) (by rfl) (pa_cons (pv 0) (pa_cons (pv 1) pa_nil))))
  (pss_cons (ps_expr (pcall (ok_check_strength T) T.d_check_strength hr (by decide) (by rfl) (pa_cons (pv 2) pa_nil)))
  (pss_cons (ps_if (pt_not (pt_val (pcall (ok_is_between T) T.d_is_between hr (by decide) (by rfl) (pa_cons (pv 3) (pa_cons (pe_int) (pa_cons (pv 0) pa_nil)))))) (pss_one (ps_never)) pss_nil)
  (pss_cons (ps_par (i := 4) (j := 5) rfl sc_number_range.nd rfl rfl (by decide) rfl rfl (pa_cons (pcall (ok_inequalities_of T) T.d_inequalities_of hr (by decide) (by rfl) (pa_cons (pv 0) (pa_cons (pv 1) (pa_cons (pv 2) pa_nil)))) (pa_cons (pe_lst pa_nil) pa_nil)) (by rfl))
  (pss_cons (ps_for PassesOwn.never rfl (pi_tup (pe_tup (pa_cons (pe_un un_neg (pe_int)) (pa_cons (pe_int) pa_nil)))) (pg_name (i := 6) sc_number_range.nd rfl (Or.inr rfl)) (pss_cons (ps_setLc (i := 7) (own := [("many", 9)]) rfl sc_number_range.nd rfl rfl (sw_true rfl rfl rfl (by decide +kernel)) (pi_range1 (by rfl) T.n_range (pa_cons (pe_op op_add (pv 0) (pe_int)) pa_nil)) (blkOk_by (own := [("many", 9)]) (N := n_number_range) (sc := defScope s_number_range) (by decide +kernel)) (fun _ _ _ _ _ => pg_name (i := 9) sc_number_range.nd rfl (Or.inl rfl)) (fun _ _ _ _ _ => pts_nil) (fun _ _ _ _ _ => pe_ifExp (pt_cmpR op_eq (pv 9) (pv 3) (nomark _)) (pe_tup (pa_cons (pv 6) (pa_cons (pe_int) pa_nil))) (pe_glob (v := .ref (fAt mg "ZERO")) (by rfl) T.mZERO rfl)))
  (pss_cons (ps_set (i := 8) sc_number_range.nd rfl (Or.inl rfl) (pe_ix ix_tup (pcall (ok_best_shares T) T.d_best_shares hr (by decide) (by rfl) (pa_cons (pv 4) (pa_cons (pv 7) pa_nil))) (pe_int) (fun _ _ => rfl)))
  (pss_cons (ps_if (pt_cmpR op_isN (pv 8) (pe_non) (nomark _)) (pss_one (ps_never)) pss_nil)
  (pss_one (ps_expr (pe_bm PySem.F.plainAttrs_list PySem.F.slot_list_append PySem.F.type_list_append mt_append (pv 5) (pa_cons (pe_ifExp (pt_cmpR op_eq (pv 6) (pe_int) (nomark _)) (pv 8) (pcall (ok_opposite_of T) T.d_opposite_of hr (by decide) (by rfl) (pa_cons (pv 8) pa_nil))) pa_nil))))))))
  (pss_one (ps_ret (pe_callTy call_tuple_of (by rfl) T.n_tuple (by decide +kernel) (pa_cons (pv 5) pa_nil))))))))), ?_⟩
    refine ⟨_, rfl, _, rfl, s, l, v, L, rfl, hL, ok, fun u1 H1 e1 h1 => ?_⟩
    refine ⟨_, rfl, xv, x, rfl, hx.mono e1, C.xp, fun u2 H2 e2 h2 => ?_⟩
    have e12 := e1.trans e2
    refine ⟨_, rfl, _, rfl, _, _, _, rfl, by omega, by omega, true, rfl, ?_⟩
    refine ⟨_, rfl, _, rfl, _, rfl, s, l, v, xv, L, x, rfl, lksv_mono hL e12, ok, hx.mono e12, C.xp, bx, fun F H3 e3 hF hA => ?_⟩
    have e13 := e12.trans e3
    refine ⟨by show 0 ≤ sizeLine; decide, fun D hD => ⟨_, _, rfl, ?_⟩⟩
    have eD := same_new (o := .lst []) hD
    refine ⟨_, rfl, by show 2 ≤ sizeLine; decide, fun t ht => ?_⟩
    have et := same_new (o := .tup [.int (-1), .int 1]) ht
    have nt : t ≠ D := fun z => by
      rw [z, upd_same] at ht
      cases ht
    refine ⟨t, rfl, ⟨_, SqT.of upd_same⟩, for_tup (K := K) (a := t) (xs := [.int (-1), .int 1]) (fun i σ H' => Same H3 H' ∧ H' t = some (.tup [.int (-1), .int 1]) ∧ ArL i (OneV K s l L x c) D H' ∧ ∃ y6 y7 y8, σ = [some (.int (s : Nat)), some v, some xv, some (.int (c : Nat)), some (.ref F), some (.ref D), y6, y7, y8, none]) ⟨eD.trans et, upd_same, ⟨[], et _ _ upd_same, rfl, fun k hk => by omega⟩, _, _, _, rfl⟩ (fun i σ H' _ p => SqT.of p.2.1) ?_ ?_⟩
    · rintro i u σ H4 hu ⟨e4, ht4, ⟨fs, hf1, hf2, hf3⟩, y6, y7, y8, rfl⟩
      obtain rfl : u = .int (sgk i) := by
        match i, hu with
        | 0, hu => cases hu; rfl
        | 1, hu => cases hu; rfl
        | _ + 2, hu => simp at hu
      have i2 : i < 2 := (List.getElem?_eq_some_iff.mp hu).1
      have rw' := rwn_rew (n := s) (c := c) (sgk_or i)
      refine ⟨_, rfl, _, _, rfl, rfl, _, rfl, by omega, by omega, fun W hW => lc_all (walk_range (lo := 0) (n := (((s : Nat) : Int) + 1).toNat)) (by omega) hW (fun k => Fr K (rwn (sgk i) c k)) (fun _ _ => fr_stay) (fun _ _ => fr_stayD) (fun _ _ => trivial) ?_ ?_⟩
      · rintro k z H5 H6 Rk hk e5 ⟨acc, hacc⟩ ⟨rfl, hz⟩ rk
        obtain rfl : z = .int ((k : Nat) : Int) := by rw [hz]; simp
        refine ⟨rfl, _, rfl, _, rfl, rfl, _, rfl, ?_⟩
        unfold rwn at rk
        by_cases e : k = c
        · rw [if_pos e] at rk
          rw [decide_eq_true (show V.int ((k : Nat) : Int) = V.int ((c : Nat) : Int) by rw [e])]
          refine ⟨_, rfl, by show 2 ≤ sizeLine; decide, fun p hp => ?_⟩
          exact rk _ _ (same_new (o := .tup [.int (sgk i), .int 1]) hp) (fr_int (SqT.of upd_same))
        · rw [if_neg e] at rk
          rw [decide_eq_false (show ¬ V.int ((k : Nat) : Int) = V.int ((c : Nat) : Int) by intro z; have := V.int.inj z; omega)]
          exact rk _ _ (Same.refl _) (fr_zero T)
      · rintro H5 e5 hW1
        rw [show (((s : Nat) : Int) + 1).toNat = s + 1 by omega] at hW1
        have e45 := e4.trans e5
        refine ⟨_, rfl, _, rfl, F, W, s, 2 * l, Am L x, rwn (sgk i) c, rfl, rows_row (hA.mono e45 fun _ _ => row_stay), hW1, prob_of C rw', fun i j hi hj => am_bd C hi hj, fun j hj => rew_bd rw' hj, fun bv H6 e6 hb => ?_⟩
        obtain ⟨t1, v0, s1, w1, d, rfl, hT, f0, hS, hWt, la⟩ := hb
        refine ⟨_, _, 0, _, rfl, rfl, hT, at0, ?_⟩
        obtain ⟨a0, rfl, h0⟩ := f0
        have f0 : Fr K (d.t (2 * l + 1) 0) (.ref a0) H6 := ⟨a0, rfl, h0⟩
        refine ⟨_, rfl, rfl, _, rfl, ?_⟩
        rw [decide_eq_false (by intro z; cases z)]
        have e56 := e5.trans e6
        refine ⟨_, rfl, .inl ⟨rfl, _, SqL.of (e56 _ _ hf1)⟩, ?_⟩
        refine ⟨_, rfl, rfl, _, rfl, ?_⟩
        have fin : ∀ v H7, Same H6 H7 → Fr K ((sgk i : Rat) * d.t (2 * l + 1) 0) v H7 → ArL (i + 1) (OneV K s l L x c) D (upd H7 D (.lst (fs ++ [v]))) := fun v H7 e7 hv => by
          have hf7 := (e56.trans e7) _ _ hf1
          refine arl_app (H := H7) hf2 (fun k hk => ?_) upd_same (onev_stayD _ _ _ _ hf7 keep_upd ⟨d, la, hv⟩) fun k hk u hu => onev_stayD _ _ _ _ hf7 keep_upd hu
          obtain ⟨u, h1, h2⟩ := hf3 k hk
          exact ⟨u, h1, onev_stay _ _ _ (e56.trans e7) h2⟩
        by_cases c1 : sgk i = 1
        · rw [decide_eq_true (show V.int (sgk i) = V.int 1 by rw [c1])]
          refine ⟨_, rfl, D, fs, _, rfl, rfl, e56 _ _ hf1, Nat.lt_of_lt_of_le (show fs.length < 1000 by omega) (by decide), same_mut (e45.trans e6) hD, by rw [upd_ne nt]; exact e56 _ _ ht4, fin _ _ (Same.refl _) ?_, _, _, _, rfl⟩
          rw [c1, pos1]
          exact f0
        · have c2 : sgk i = -1 := (sgk_or i).resolve_left c1
          rw [decide_eq_false (show ¬ V.int (sgk i) = V.int 1 by intro z; exact c1 (V.int.inj z))]
          refine ⟨_, rfl, _, _, rfl, f0, fun v0 H7 e7 f0 => ?_⟩
          refine ⟨D, fs, _, rfl, rfl, (e56.trans e7) _ _ hf1, Nat.lt_of_lt_of_le (show fs.length < 1000 by omega) (by decide), same_mut ((e45.trans e6).trans e7) hD, by rw [upd_ne nt]; exact (e56.trans e7) _ _ ht4, fin _ _ e7 ?_, _, _, _, rfl⟩
          rw [c2, neg1]
          exact f0
    · rintro σ H4 ⟨e4, ht4, ⟨fs, hf1, hf2, hf3⟩, y6, y7, y8, rfl⟩
      obtain ⟨v0, h0, d1, la1, f1⟩ := hf3 0 (by show 0 < 2; decide)
      obtain ⟨v1, h1, d2, la2, f2⟩ := hf3 1 (by show 1 < 2; decide)
      match fs, hf2, h0, h1 with
      | [_, _], _, h0, h1 =>
        cases h0
        cases h1
        refine ⟨_, rfl, _, _, rfl, .inl ⟨SqL.of hf1, fun p hp => ?_⟩⟩
        have ep := same_new (o := .tup [v0, v1]) hp
        refine q _ _ (e13.trans (e4.trans ep)) ⟨p, v0, v1, d1, d2, rfl, SqT.of upd_same, ⟨la1, la2⟩, ?_, ?_⟩
        · rw [← neg1]; exact f1.mono ep
        · rw [← pos1 (d2.t _ _)]; exact f2.mono ep
end
end K86
set_option Elab.async false
set_option linter.all false
set_option maxRecDepth 100000
set_option maxHeartbeats 4000000
set_option exponentiation.threshold 20000
/-! The law's own arithmetic. -/
namespace K86
open PySem PySem.Spec PyProof.Rows L2 KM
theorem wide_mul {i j : Int} {a b : Nat} (ha : i.natAbs < 2 ^ a) (hb : j.natAbs < 2 ^ b) (h : a + b ≤ 8000) : CMulX i j ∧ (i * j).natAbs < 2 ^ 9000 := by
  refine ⟨mulx_ok ha hb (by omega), ?_⟩
  refine Nat.lt_of_lt_of_le (wide_lt ha hb) (Nat.pow_le_pow_right (by decide) (by omega))
theorem bdd {b : Nat} {r : Rat} (h : Bd b r) : (r.den : Int).natAbs < 2 ^ b := by rw [Int.natAbs_natCast]; exact h.2
theorem den_pos' (r : Rat) : 0 < (r.den : Int) := by have := r.den_pos; omega
/-- a comparison as the law tells it -/
def cmpR (r s : Rat) : Int := if s < r then 1 else if r < s then -1 else 0
theorem cmpR_le {r s : Rat} (h : r ≤ s) : cmpR r s ≤ 0 := by
  unfold cmpR
  rw [if_neg (by grind)]
  split <;> decide
theorem cmpR_le' {r s : Rat} (h : cmpR r s ≤ 0) : r ≤ s := by
  unfold cmpR at h
  by_cases c : s < r
  · rw [if_pos c] at h; omega
  · grind
theorem cmpR_lt {r s : Rat} : cmpR r s < 0 ↔ r < s := by
  unfold cmpR
  by_cases c : s < r
  · rw [if_pos c]
    constructor
    · intro h; omega
    · intro h; grind
  · rw [if_neg c]
    by_cases e : r < s
    · rw [if_pos e]; simp [e]
    · rw [if_neg e]; simp [e]
local macro_rules | `(tactic| walk_at "ix0") => `(tactic| refine ⟨_, rfl, _, _, 0, _, rfl, rfl, (by assumption), at0, ?_⟩)
local macro_rules | `(tactic| walk_at "ix1") => `(tactic| refine ⟨_, rfl, _, _, 1, _, rfl, rfl, (by assumption), at1, ?_⟩)
section
variable {P : Program} {w : World} {K : PySem.W.Frag} {mg : Str → Option Value} {base : Heap}
abbrev s__law_gcd : Stmt := topS 58
abbrev n__law_gcd : List Str := ["_law_one", "_law_two"]
theorem sc__law_gcd : FnScope n__law_gcd ["_law_one", "_law_two"] (defScope s__law_gcd) := ⟨rfl, rfl, rfl, by decide +kernel, rfl, by decide +kernel, by decide +kernel⟩
abbrev s__law_ratio : Stmt := topS 59
abbrev n__law_ratio : List Str := ["_law_n", "_law_m", "_law_deep"]
theorem sc__law_ratio : FnScope n__law_ratio ["_law_n", "_law_m"] (defScope s__law_ratio) := ⟨rfl, rfl, rfl, by decide +kernel, rfl, by decide +kernel, by decide +kernel⟩
abbrev s__law_cmp : Stmt := topS 64
abbrev n__law_cmp : List Str := ["_law_one", "_law_two", "_law_gap"]
theorem sc__law_cmp : FnScope n__law_cmp ["_law_one", "_law_two"] (defScope s__law_cmp) := ⟨rfl, rfl, rfl, by decide +kernel, rfl, by decide +kernel, by decide +kernel⟩
abbrev s__law_all : Stmt := topS 65
abbrev n__law_all : List Str := ["_law_some", "_law_found", "_law_each"]
theorem sc__law_all : FnScope n__law_all ["_law_some"] (defScope s__law_all) := ⟨rfl, rfl, rfl, by decide +kernel, rfl, by decide +kernel, by decide +kernel⟩
abbrev s__law_pow : Stmt := topS 66
abbrev n__law_pow : List Str := ["_law_one", "_law_times", "_law_found", "_law_turn"]
theorem sc__law_pow : FnScope n__law_pow ["_law_one", "_law_times"] (defScope s__law_pow) := ⟨rfl, rfl, rfl, by decide +kernel, rfl, by decide +kernel, by decide +kernel⟩
abbrev s__law_sum_of : Stmt := topS 67
abbrev n__law_sum_of : List Str := ["_law_some", "_law_weights2", "_law_at"]
theorem sc__law_sum_of : FnScope n__law_sum_of ["_law_some", "_law_weights2"] (defScope s__law_sum_of) := ⟨rfl, rfl, rfl, by decide +kernel, rfl, by decide +kernel, by decide +kernel⟩
def sp_lgcd (_ : PySem.W.Frag) : Sp := fun vs H Q _ => ∃ n m : Int, vs = [.int n, .int m] ∧ Q (.int ((Nat.gcd n.natAbs m.natAbs : Nat) : Int)) H
theorem ok__law_gcd (T : Tx K mg) : FnOk P w K mg base CX0 1 (fAt mg "_law_gcd") (fdAt K mg "_law_gcd") ["_law_one", "_law_two"] (sp_lgcd K) := by
  refine T.d__law_gcd.F.ok sc__law_gcd (fun vs H Q E h => ?_) (fun cdv A outer s H vs Q E hr h => ?_)
  · obtain ⟨n, m, rfl, _⟩ := h
    rfl
  · obtain ⟨n, m, rfl, q⟩ := h
    refine ⟨_, (pss_cons (ps_par (i := 0) (j := 1) rfl sc__law_gcd.nd rfl rfl (by decide) rfl rfl (pa_cons (pe_callB call_abs (by rfl) T.n_abs (by decide +kernel) (pa_cons (pv 0) pa_nil)) (pa_cons (pe_callB call_abs (by rfl) T.n_abs (by decide +kernel) (pa_cons (pv 1) pa_nil)) pa_nil)) (by rfl))
  (pss_cons (ps_while PassesOwn.never (pt_cmpR op_gt (pv 1) (pe_int) (nomark _)) (pss_one (ps_par (i := 0) (j := 1) rfl sc__law_gcd.nd rfl rfl (by decide) rfl rfl (pa_cons (pv 1) (pa_cons (pe_op op_modN (pe_callTy call_int1 (by rfl) T.n_int (by decide +kernel) (pa_cons (pv 0) pa_nil)) (pv 1)) pa_nil)) (by rfl))))
  (pss_one (ps_ret (pv 0))))), ?_⟩
    have ab : ∀ i : Int, (if i < 0 then -i else i) = ((i.natAbs : Nat) : Int) := fun i => by split <;> omega
    refine ⟨_, rfl, _, rfl, _, rfl, _, rfl, _, _, rfl, ?_⟩
    rw [ab, ab]
    refine ⟨fun k σ H' => H' = H ∧ ∃ a b : Nat, Nat.gcd a b = Nat.gcd n.natAbs m.natAbs ∧ k = b ∧ σ = [some (.int (a : Nat)), some (.int (b : Nat))], ⟨_, rfl, _, _, rfl, rfl, rfl⟩, ?_⟩
    rintro k σ H1 ⟨rfl, a, b, hg, rfl, rfl⟩
    refine ⟨_, rfl, _, _, rfl, rfl, _, rfl, ?_⟩
    by_cases c : 0 < k
    · rw [decide_eq_true (show (0 : Int) < ((k : Nat) : Int) by omega)]
      refine ⟨_, fun _ _ h => h, ?_⟩
      refine ⟨_, rfl, _, rfl, .inl ⟨_, rfl, _, rfl, _, _, rfl, rfl, by omega, _, _, rfl, a % k, Nat.mod_lt _ c, rfl, k, a % k, ?_, rfl, ?_⟩⟩
      · rw [← hg, Nat.gcd_comm a k, Nat.gcd_rec k a, Nat.gcd_comm]
      · show [some (V.int ((k : Nat) : Int)), some (V.int (((a : Nat) : Int).fmod ((k : Nat) : Int)))] = _
        rw [Int.fmod_eq_emod_of_nonneg _ (by omega), ← Int.natCast_emod]
    · rw [decide_eq_false (show ¬ (0 : Int) < ((k : Nat) : Int) by omega)]
      obtain rfl : k = 0 := by omega
      refine ⟨_, rfl, ?_⟩
      rw [Nat.gcd_zero_right] at hg
      rw [hg]
      exact q
def sp_lratio (K : PySem.W.Frag) : Sp := fun vs H Q _ => ∃ (n m : Int), vs = [.int n, .int m] ∧ 0 < m ∧ m.natAbs < 2 ^ 9000 ∧ Gives (Fr K ((n : Rat) / (m : Rat))) H Q
theorem ok__law_ratio (T : Tx K mg) : FnOk P w K mg base CX0 2 (fAt mg "_law_ratio") (fdAt K mg "_law_ratio") ["_law_n", "_law_m"] (sp_lratio K) := by
  refine T.d__law_ratio.F.ok sc__law_ratio (fun vs H Q E h => ?_) (fun cdv A outer s H vs Q E hr h => ?_)
  · obtain ⟨n, m, rfl, _⟩ := h
    rfl
  · obtain ⟨n, m, rfl, h0, hb, q⟩ := h
    refine ⟨_, (pss_cons (ps_set (i := 2) sc__law_ratio.nd rfl (Or.inl rfl) (pe_ifExp (pt_cmpR op_gt (pv 1) (pe_int) (nomark _)) (pcall (ok__law_gcd T) T.d__law_gcd hr (by decide) (by rfl) (pa_cons (pv 0) (pa_cons (pv 1) pa_nil))) (pe_op op_sub (pe_int) (pcall (ok__law_gcd T) T.d__law_gcd hr (by decide) (by rfl) (pa_cons (pv 0) (pa_cons (pv 1) pa_nil))))))
  (pss_one (ps_ret (pe_tup (pa_cons (pe_op op_fdivW (pv 0) (pv 2)) (pa_cons (pe_op op_fdivW (pv 1) (pv 2)) pa_nil)))))), ?_⟩
    refine ⟨_, rfl, _, _, rfl, rfl, _, rfl, ?_⟩
    rw [decide_eq_true h0]
    refine ⟨_, rfl, _, rfl, n, m, rfl, ?_⟩
    have gd := gcd_div (n := n) (m := m) (by omega) hb
    refine ⟨_, rfl, _, rfl, _, _, rfl, rfl, gd _, _, rfl, _, rfl, _, _, rfl, rfl, gd _, by show 2 ≤ sizeLine; decide, fun p hp => q _ _ (same_new hp) ⟨p, rfl, ?_⟩⟩
    obtain ⟨n1, n2⟩ := num_den (n := n) h0
    rw [n1, n2]
    exact SqT.of upd_same
def sp_lr2 (K : PySem.W.Frag) (f : Rat → Rat → Rat) (ok : Rat → Rat → Prop) : Sp := fun vs H Q _ => ∃ x y r s a b, vs = [x, y] ∧ Fr K r x H ∧ Fr K s y H ∧ Bd a r ∧ Bd b s ∧ a + b ≤ 8000 ∧ ok r s ∧ Gives (Fr K (f r s)) H Q
abbrev s__law_plus : Stmt := topS 60
abbrev n__law_plus : List Str := ["_law_one", "_law_two"]
theorem sc__law_plus : FnScope n__law_plus ["_law_one", "_law_two"] (defScope s__law_plus) := ⟨rfl, rfl, rfl, by decide +kernel, rfl, by decide +kernel, by decide +kernel⟩
theorem ok__law_plus (T : Tx K mg) : FnOk P w K mg base CX0 3 (fAt mg "_law_plus") (fdAt K mg "_law_plus") ["_law_one", "_law_two"] (sp_lr2 K (fun r s => r + s) (fun _ _ => True)) := by
  refine T.d__law_plus.F.ok sc__law_plus (fun vs H Q E h => ?_) (fun cdv A outer s H vs Q E hr h => ?_)
  · obtain ⟨x, y, r, s, a0, b0, rfl, _⟩ := h
    rfl
  · obtain ⟨x, y, r, s, a0, b0, rfl, ⟨a, rfl, ha⟩, ⟨b, rfl, hb⟩, br, bs, le, c, q⟩ := h
    refine ⟨_, (pss_one (ps_ret (pcall (ok__law_ratio T) T.d__law_ratio hr (by decide) (by rfl) (pa_cons (pe_op op_add (pe_op op_mulX (pe_ix ix_tup (pv 0) (pe_int) (fun _ _ => rfl)) (pe_ix ix_tup (pv 1) (pe_int) (fun _ _ => rfl))) (pe_op op_mulX (pe_ix ix_tup (pv 1) (pe_int) (fun _ _ => rfl)) (pe_ix ix_tup (pv 0) (pe_int) (fun _ _ => rfl)))) (pa_cons (pe_op op_mulX (pe_ix ix_tup (pv 0) (pe_int) (fun _ _ => rfl)) (pe_ix ix_tup (pv 1) (pe_int) (fun _ _ => rfl))) pa_nil))))), ?_⟩
    have brn := br.1
    have bsn := bs.1
    have brd := bdd br
    have bsd := bdd bs
    walk_at "ix0"
    walk_at "ix1"
    refine ⟨_, _, rfl, rfl, (wide_mul (by assumption) (by assumption) (by first | exact le | (rw [Nat.add_comm]; exact le))).1, ?_⟩
    walk_at "ix0"
    walk_at "ix1"
    refine ⟨_, _, rfl, rfl, (wide_mul (by assumption) (by assumption) (by first | exact le | (rw [Nat.add_comm]; exact le))).1, ?_⟩
    refine ⟨_, _, rfl, rfl, ?_⟩
    walk_at "ix1"
    walk_at "ix1"
    refine ⟨_, _, rfl, rfl, (wide_mul (by assumption) (by assumption) (by first | exact le | (rw [Nat.add_comm]; exact le))).1, ?_⟩
    refine ⟨_, _, rfl, Int.mul_pos (den_pos' _) (den_pos' _), (wide_mul brd bsd le).2, ?_⟩
    have e := nd_plus r s
    rw [e]
    exact q
abbrev s__law_less : Stmt := topS 61
abbrev n__law_less : List Str := ["_law_one", "_law_two"]
theorem sc__law_less : FnScope n__law_less ["_law_one", "_law_two"] (defScope s__law_less) := ⟨rfl, rfl, rfl, by decide +kernel, rfl, by decide +kernel, by decide +kernel⟩
theorem ok__law_less (T : Tx K mg) : FnOk P w K mg base CX0 3 (fAt mg "_law_less") (fdAt K mg "_law_less") ["_law_one", "_law_two"] (sp_lr2 K (fun r s => r - s) (fun _ _ => True)) := by
  refine T.d__law_less.F.ok sc__law_less (fun vs H Q E h => ?_) (fun cdv A outer s H vs Q E hr h => ?_)
  · obtain ⟨x, y, r, s, a0, b0, rfl, _⟩ := h
    rfl
  · obtain ⟨x, y, r, s, a0, b0, rfl, ⟨a, rfl, ha⟩, ⟨b, rfl, hb⟩, br, bs, le, c, q⟩ := h
    refine ⟨_, (pss_one (ps_ret (pcall (ok__law_ratio T) T.d__law_ratio hr (by decide) (by rfl) (pa_cons (pe_op op_sub (pe_op op_mulX (pe_ix ix_tup (pv 0) (pe_int) (fun _ _ => rfl)) (pe_ix ix_tup (pv 1) (pe_int) (fun _ _ => rfl))) (pe_op op_mulX (pe_ix ix_tup (pv 1) (pe_int) (fun _ _ => rfl)) (pe_ix ix_tup (pv 0) (pe_int) (fun _ _ => rfl)))) (pa_cons (pe_op op_mulX (pe_ix ix_tup (pv 0) (pe_int) (fun _ _ => rfl)) (pe_ix ix_tup (pv 1) (pe_int) (fun _ _ => rfl))) pa_nil))))), ?_⟩
    have brn := br.1
    have bsn := bs.1
    have brd := bdd br
    have bsd := bdd bs
    walk_at "ix0"
    walk_at "ix1"
    refine ⟨_, _, rfl, rfl, (wide_mul (by assumption) (by assumption) (by first | exact le | (rw [Nat.add_comm]; exact le))).1, ?_⟩
    walk_at "ix0"
    walk_at "ix1"
    refine ⟨_, _, rfl, rfl, (wide_mul (by assumption) (by assumption) (by first | exact le | (rw [Nat.add_comm]; exact le))).1, ?_⟩
    refine ⟨_, _, rfl, rfl, ?_⟩
    walk_at "ix1"
    walk_at "ix1"
    refine ⟨_, _, rfl, rfl, (wide_mul (by assumption) (by assumption) (by first | exact le | (rw [Nat.add_comm]; exact le))).1, ?_⟩
    refine ⟨_, _, rfl, Int.mul_pos (den_pos' _) (den_pos' _), (wide_mul brd bsd le).2, ?_⟩
    have e := nd_minus r s
    rw [e]
    exact q
abbrev s__law_prod : Stmt := topS 62
abbrev n__law_prod : List Str := ["_law_one", "_law_two"]
theorem sc__law_prod : FnScope n__law_prod ["_law_one", "_law_two"] (defScope s__law_prod) := ⟨rfl, rfl, rfl, by decide +kernel, rfl, by decide +kernel, by decide +kernel⟩
theorem ok__law_prod (T : Tx K mg) : FnOk P w K mg base CX0 3 (fAt mg "_law_prod") (fdAt K mg "_law_prod") ["_law_one", "_law_two"] (sp_lr2 K (fun r s => r * s) (fun _ _ => True)) := by
  refine T.d__law_prod.F.ok sc__law_prod (fun vs H Q E h => ?_) (fun cdv A outer s H vs Q E hr h => ?_)
  · obtain ⟨x, y, r, s, a0, b0, rfl, _⟩ := h
    rfl
  · obtain ⟨x, y, r, s, a0, b0, rfl, ⟨a, rfl, ha⟩, ⟨b, rfl, hb⟩, br, bs, le, c, q⟩ := h
    refine ⟨_, (pss_one (ps_ret (pcall (ok__law_ratio T) T.d__law_ratio hr (by decide) (by rfl) (pa_cons (pe_op op_mulX (pe_ix ix_tup (pv 0) (pe_int) (fun _ _ => rfl)) (pe_ix ix_tup (pv 1) (pe_int) (fun _ _ => rfl))) (pa_cons (pe_op op_mulX (pe_ix ix_tup (pv 0) (pe_int) (fun _ _ => rfl)) (pe_ix ix_tup (pv 1) (pe_int) (fun _ _ => rfl))) pa_nil))))), ?_⟩
    have brn := br.1
    have bsn := bs.1
    have brd := bdd br
    have bsd := bdd bs
    walk_at "ix0"
    walk_at "ix0"
    refine ⟨_, _, rfl, rfl, (wide_mul (by assumption) (by assumption) (by first | exact le | (rw [Nat.add_comm]; exact le))).1, ?_⟩
    walk_at "ix1"
    walk_at "ix1"
    refine ⟨_, _, rfl, rfl, (wide_mul (by assumption) (by assumption) (by first | exact le | (rw [Nat.add_comm]; exact le))).1, ?_⟩
    refine ⟨_, _, rfl, Int.mul_pos (den_pos' _) (den_pos' _), (wide_mul brd bsd le).2, ?_⟩
    have e := nd_times r s
    rw [e]
    exact q
abbrev s__law_per : Stmt := topS 63
abbrev n__law_per : List Str := ["_law_one", "_law_two"]
theorem sc__law_per : FnScope n__law_per ["_law_one", "_law_two"] (defScope s__law_per) := ⟨rfl, rfl, rfl, by decide +kernel, rfl, by decide +kernel, by decide +kernel⟩
theorem ok__law_per (T : Tx K mg) : FnOk P w K mg base CX0 3 (fAt mg "_law_per") (fdAt K mg "_law_per") ["_law_one", "_law_two"] (sp_lr2 K (fun r s => r / s) (fun _ s => 0 < s)) := by
  refine T.d__law_per.F.ok sc__law_per (fun vs H Q E h => ?_) (fun cdv A outer s H vs Q E hr h => ?_)
  · obtain ⟨x, y, r, s, a0, b0, rfl, _⟩ := h
    rfl
  · obtain ⟨x, y, r, s, a0, b0, rfl, ⟨a, rfl, ha⟩, ⟨b, rfl, hb⟩, br, bs, le, c, q⟩ := h
    refine ⟨_, (pss_one (ps_ret (pcall (ok__law_ratio T) T.d__law_ratio hr (by decide) (by rfl) (pa_cons (pe_op op_mulX (pe_ix ix_tup (pv 0) (pe_int) (fun _ _ => rfl)) (pe_ix ix_tup (pv 1) (pe_int) (fun _ _ => rfl))) (pa_cons (pe_op op_mulX (pe_ix ix_tup (pv 0) (pe_int) (fun _ _ => rfl)) (pe_ix ix_tup (pv 1) (pe_int) (fun _ _ => rfl))) pa_nil))))), ?_⟩
    have brn := br.1
    have bsn := bs.1
    have brd := bdd br
    have bsd := bdd bs
    walk_at "ix0"
    walk_at "ix1"
    refine ⟨_, _, rfl, rfl, (wide_mul (by assumption) (by assumption) (by first | exact le | (rw [Nat.add_comm]; exact le))).1, ?_⟩
    walk_at "ix1"
    walk_at "ix0"
    refine ⟨_, _, rfl, rfl, (wide_mul (by assumption) (by assumption) (by first | exact le | (rw [Nat.add_comm]; exact le))).1, ?_⟩
    refine ⟨_, _, rfl, Int.mul_pos (den_pos' _) (num_pos.mpr c), (wide_mul brd bsn le).2, ?_⟩
    have e := nd_over r s (by grind)
    rw [e]
    exact q
def sp_lcmp (K : PySem.W.Frag) : Sp := fun vs H Q _ => ∃ x y r s a b, vs = [x, y] ∧ Fr K r x H ∧ Fr K s y H ∧ Bd a r ∧ Bd b s ∧ a + b ≤ 8000 ∧ Q (.int (cmpR r s)) H
theorem ok__law_cmp (T : Tx K mg) : FnOk P w K mg base CX0 1 (fAt mg "_law_cmp") (fdAt K mg "_law_cmp") ["_law_one", "_law_two"] (sp_lcmp K) := by
  refine T.d__law_cmp.F.ok sc__law_cmp (fun vs H Q E h => ?_) (fun cdv A outer s H vs Q E hr h => ?_)
  · obtain ⟨x, y, r, s, a0, b0, rfl, _⟩ := h
    rfl
  · obtain ⟨x, y, r, s, a0, b0, rfl, ⟨a, rfl, ha⟩, ⟨b, rfl, hb⟩, br, bs, le, q⟩ := h
    refine ⟨_, (pss_cons (ps_set (i := 2) sc__law_cmp.nd rfl (Or.inl rfl) (pe_op op_sub (pe_op op_mulX (pe_ix ix_tup (pv 0) (pe_int) (fun _ _ => rfl)) (pe_ix ix_tup (pv 1) (pe_int) (fun _ _ => rfl))) (pe_op op_mulX (pe_ix ix_tup (pv 1) (pe_int) (fun _ _ => rfl)) (pe_ix ix_tup (pv 0) (pe_int) (fun _ _ => rfl)))))
  (pss_one (ps_ret (pe_ifExp (pt_cmpR op_gt (pv 2) (pe_int) (nomark _)) (pe_int) (pe_ifExp (pt_cmpR op_lt (pv 2) (pe_int) (nomark _)) (pe_un un_neg (pe_int)) (pe_int)))))), ?_⟩
    have brn := br.1
    have bsn := bs.1
    have brd := bdd br
    have bsd := bdd bs
    walk_at "ix0"
    walk_at "ix1"
    refine ⟨_, _, rfl, rfl, (wide_mul (by assumption) (by assumption) (by first | exact le | (rw [Nat.add_comm]; exact le))).1, ?_⟩
    walk_at "ix0"
    walk_at "ix1"
    refine ⟨_, _, rfl, rfl, (wide_mul (by assumption) (by assumption) (by first | exact le | (rw [Nat.add_comm]; exact le))).1, ?_⟩
    refine ⟨_, _, rfl, rfl, ?_⟩
    have l1 := lt_nd r s
    have l2 := lt_nd s r
    unfold cmpR at q
    refine ⟨_, rfl, _, _, rfl, rfl, _, rfl, ?_⟩
    by_cases c : s < r
    · rw [decide_eq_true (show (0 : Int) < r.num * (s.den : Int) - s.num * (r.den : Int) by have := l2.mp c; omega)]
      rw [if_pos c] at q
      exact q
    · rw [decide_eq_false (show ¬ (0 : Int) < r.num * (s.den : Int) - s.num * (r.den : Int) by intro z; exact c (l2.mpr (by omega)))]
      rw [if_neg c] at q
      refine ⟨_, rfl, _, _, rfl, rfl, _, rfl, ?_⟩
      by_cases c2 : r < s
      · rw [decide_eq_true (show r.num * (s.den : Int) - s.num * (r.den : Int) < 0 by have := l1.mp c2; omega)]
        rw [if_pos c2] at q
        exact ⟨_, rfl, q⟩
      · rw [decide_eq_false (show ¬ r.num * (s.den : Int) - s.num * (r.den : Int) < 0 by intro z; exact c2 (l1.mpr (by omega)))]
        rw [if_neg c2] at q
        exact q
theorem fr_zero_new {H : Hp} {p : Addr} (h : SqT K H p [.int 0, .int 1]) : Fr K 0 (.ref p) H := ⟨p, rfl, h⟩
def sp_lall (K : PySem.W.Frag) : Sp := fun vs H Q _ => ∃ a n g, vs = [.ref a] ∧ (ArL n (fun i => Fr K (g i)) a H ∨ ArT K n (fun i => Fr K (g i)) a H) ∧ (∃ b c, b + c ≤ 8000 ∧ (∀ i, i < n → Bd b (g i)) ∧ ∀ i, i < n → Bd c (sm i g)) ∧ Gives (Fr K (sm n g)) H Q
theorem ok__law_all (T : Tx K mg) : FnOk P w K mg base CX0 4 (fAt mg "_law_all") (fdAt K mg "_law_all") ["_law_some"] (sp_lall K) := by
  refine T.d__law_all.F.ok sc__law_all (fun vs H Q E h => ?_) (fun cdv A outer s H vs Q E hr h => ?_)
  · obtain ⟨a, n, g, rfl, _⟩ := h
    rfl
  · obtain ⟨a, n, g, rfl, hA, ⟨b, c, le, bg, bs⟩, q⟩ := h
    refine ⟨_, (pss_cons (ps_set (i := 1) sc__law_all.nd rfl (Or.inl rfl) (pe_tup (pa_cons (pe_int) (pa_cons (pe_int) pa_nil))))
  (pss_cons (ps_for PassesOwn.never rfl (pi_seq (pv 0)) (pg_name (i := 2) sc__law_all.nd rfl (Or.inl rfl)) (pss_one (ps_set (i := 1) sc__law_all.nd rfl (Or.inl rfl) (pcall (ok__law_plus T) T.d__law_plus hr (by decide) (by rfl) (pa_cons (pv 1) (pa_cons (pv 2) pa_nil))))))
  (pss_one (ps_ret (pv 1))))), ?_⟩
    refine ⟨by show 2 ≤ sizeLine; decide, fun p hp => ?_⟩
    have ep := same_new (o := .tup [.int 0, .int 1]) hp
    refine ⟨.ref a, rfl, a, rfl, ?_⟩
    rcases hA with ⟨xs, h1, h2, h3⟩ | ⟨xs, h1, h2, h3⟩
    · refine .inl ⟨xs, SqL.of (ep _ _ h1), for_list (K := K) (xs := xs) (fun i σ H' => Same H H' ∧ ∃ v y, σ = [some (.ref a), some v, y] ∧ Fr K (sm i g) v H') ⟨ep, _, none, rfl, fr_zero_new (SqT.of upd_same)⟩ ?_ ?_ ?_⟩
      · rintro i σ H' _ ⟨e, _⟩
        exact SqL.of (e _ _ h1)
      · rintro i x σ H' hx ⟨e, v, y, rfl, hv⟩
        have hi : i < n := by
          have := (List.getElem?_eq_some_iff.mp hx).1
          omega
        obtain ⟨x', hx', fx⟩ := h3 i hi
        obtain rfl : x = x' := Option.some.inj (hx.symm.trans hx')
        exact ⟨_, rfl, _, rfl, v, x, _, _, c, b, rfl, hv, fx.mono e, bs i hi, bg i hi, by omega, trivial, fun u H2 e2 hu => ⟨e.trans e2, u, some x, rfl, hu⟩⟩
      · rintro σ H' ⟨e, v, y, rfl, hv⟩
        refine ⟨_, rfl, q _ _ e ?_⟩
        rw [h2] at hv
        exact hv
    · refine .inr ⟨xs, sqt_mono ep h1, for_tup (K := K) (xs := xs) (fun i σ H' => Same H H' ∧ ∃ v y, σ = [some (.ref a), some v, y] ∧ Fr K (sm i g) v H') ⟨ep, _, none, rfl, fr_zero_new (SqT.of upd_same)⟩ ?_ ?_ ?_⟩
      · rintro i σ H' _ ⟨e, _⟩
        exact sqt_mono e h1
      · rintro i x σ H' hx ⟨e, v, y, rfl, hv⟩
        have hi : i < n := by
          have := (List.getElem?_eq_some_iff.mp hx).1
          omega
        obtain ⟨x', hx', fx⟩ := h3 i hi
        obtain rfl : x = x' := Option.some.inj (hx.symm.trans hx')
        exact ⟨_, rfl, _, rfl, v, x, _, _, c, b, rfl, hv, fx.mono e, bs i hi, bg i hi, by omega, trivial, fun u H2 e2 hu => ⟨e.trans e2, u, some x, rfl, hu⟩⟩
      · rintro σ H' ⟨e, v, y, rfl, hv⟩
        refine ⟨_, rfl, q _ _ e ?_⟩
        rw [h2] at hv
        exact hv
def sp_lpow (K : PySem.W.Frag) : Sp := fun vs H Q _ => ∃ x r k, vs = [x, .int (k : Nat)] ∧ Fr K r x H ∧ Bd 64 r ∧ k ≤ 12 ∧ Gives (Fr K (r ^ k)) H Q
theorem ok__law_pow (T : Tx K mg) : FnOk P w K mg base CX0 1 (fAt mg "_law_pow") (fdAt K mg "_law_pow") ["_law_one", "_law_times"] (sp_lpow K) := by
  refine T.d__law_pow.F.ok sc__law_pow (fun vs H Q E h => ?_) (fun cdv A outer s H vs Q E hr h => ?_)
  · obtain ⟨x, r, k, rfl, _⟩ := h
    rfl
  · obtain ⟨x, r, k, rfl, ⟨a, rfl, ha⟩, br, hk, q⟩ := h
    have bn : r.num.natAbs < 2 ^ 64 := br.1
    have bd : (r.den : Int).natAbs < 2 ^ 64 := by rw [Int.natAbs_natCast]; exact br.2
    refine ⟨_, (pss_cons (ps_set (i := 2) sc__law_pow.nd rfl (Or.inl rfl) (pe_tup (pa_cons (pe_int) (pa_cons (pe_int) pa_nil))))
  (pss_cons (ps_for PassesOwn.never rfl (pi_range1 (by rfl) T.n_range (pa_cons (pv 1) pa_nil)) (pg_name (i := 3) sc__law_pow.nd rfl (Or.inl rfl)) (pss_one (ps_set (i := 2) sc__law_pow.nd rfl (Or.inl rfl) (pe_tup (pa_cons (pe_op op_mulX (pe_ix ix_tup (pv 2) (pe_int) (fun _ _ => rfl)) (pe_ix ix_tup (pv 0) (pe_int) (fun _ _ => rfl))) (pa_cons (pe_op op_mulX (pe_ix ix_tup (pv 2) (pe_int) (fun _ _ => rfl)) (pe_ix ix_tup (pv 0) (pe_int) (fun _ _ => rfl))) pa_nil))))))
  (pss_one (ps_ret (pv 2))))), ?_⟩
    refine ⟨by show 2 ≤ sizeLine; decide, fun p hp => ?_⟩
    have ep := same_new (o := .tup [.int 1, .int 1]) hp
    refine ⟨_, rfl, _, rfl, by omega, by omega, for_range (lo := 0) (n := (k : Int).toNat) (fun i σ H' => Same H H' ∧ ∃ f y, σ = [some (.ref a), some (.int (k : Nat)), some (.ref f), y] ∧ SqT K H' f [.int (r.num ^ i), .int ((r.den : Int) ^ i)]) ⟨ep, _, none, rfl, by rw [Int.pow_zero, Int.pow_zero]; exact SqT.of upd_same⟩ ?_ ?_⟩
    · rintro i σ H' hi ⟨e, f, y, rfl, hf⟩
      have ha := sqt_mono e ha
      walk_at "ix0"
      walk_at "ix0"
      refine ⟨_, _, rfl, rfl, pow_ok bn bn (by omega), ?_⟩
      walk_at "ix1"
      walk_at "ix1"
      refine ⟨_, _, rfl, rfl, pow_ok bd bd (by omega), ?_⟩
      refine ⟨by show 2 ≤ sizeLine; decide, fun p2 hp2 => ⟨e.trans (same_new hp2), _, _, rfl, ?_⟩⟩
      rw [Int.pow_succ, Int.pow_succ]
      exact SqT.of upd_same
    · rintro σ H' ⟨e, f, y, rfl, hf⟩
      refine ⟨_, rfl, q _ _ e ⟨f, rfl, ?_⟩⟩
      have e1 : (r ^ k).num = r.num ^ (k : Int).toNat := by rw [Int.toNat_natCast]; exact Rat.num_pow r k
      have e2 : (((r ^ k).den : Nat) : Int) = (r.den : Int) ^ (k : Int).toNat := by rw [Int.toNat_natCast, Rat.den_pow, Int.natCast_pow]
      rw [e1, e2]
      exact hf
end
end K86
set_option Elab.async false
set_option linter.all false
set_option maxRecDepth 100000
set_option maxHeartbeats 4000000
set_option exponentiation.threshold 20000
/-! Where draws come from. -/
namespace K86
open PySem PySem.Spec PyProof.Rows L2 KM
/-- a store at S: from where so many numbers were drawn -/
def StK (S : Addr) (k : Nat) : Hp → Prop := fun H => ∃ a b c : Nat, H S = some (.lst [.int (a : Nat), .int (b : Nat), .int (c : Nat)]) ∧ b < 2147483497 ∧ c ≤ k
theorem StK.mono {S : Addr} {k j : Nat} {H : Hp} (h : StK S k H) (hk : k ≤ j) : StK S j H := let ⟨a, b, c, h1, h2, h3⟩ := h; ⟨a, b, c, h1, h2, Nat.le_trans h3 hk⟩
theorem StK.same {S : Addr} {k : Nat} {H H' : Hp} (h : StK S k H) (e : Same H H') : StK S k H' := let ⟨a, b, c, h1, h2, h3⟩ := h; ⟨a, b, c, e _ _ h1, h2, h3⟩
theorem StK.ne {S p : Addr} {k : Nat} {H : Hp} (h : StK S k H) (hp : H p = none) : p ≠ S := by
  obtain ⟨a, b, c, h1, _⟩ := h
  rintro rfl
  rw [hp] at h1
  cases h1
theorem StK.lst {S : Addr} {k : Nat} {H : Hp} (h : StK S k H) : ∃ xs, H S = some (.lst xs) := let ⟨a, b, c, h1, _⟩ := h; ⟨_, h1⟩
/-- what a draw leaves: all but the store as it was -/
structure Drawn (S : Addr) (k : Nat) (H H' : Hp) : Prop where
  kp : Keep S H H'
  st : StK S k H'
theorem Drawn.trans {S : Addr} {j k : Nat} {H H1 H2 : Hp} (a : Drawn S j H H1) (b : Drawn S k H1 H2) : Drawn S k H H2 := ⟨a.kp.trans b.kp, b.st⟩
theorem Drawn.same {S : Addr} {k : Nat} {H H1 H2 : Hp} (a : Drawn S k H H1) (e : Same H1 H2) : Drawn S k H H2 := ⟨a.kp.trans (Same.keep e), a.st.same e⟩
theorem Drawn.mono {S : Addr} {j k : Nat} {H H1 : Hp} (a : Drawn S j H H1) (h : j ≤ k) : Drawn S k H H1 := ⟨a.kp, a.st.mono h⟩
theorem Drawn.pre {S : Addr} {k : Nat} {H H1 H2 : Hp} (e : Same H H1) (a : Drawn S k H1 H2) : Drawn S k H H2 := ⟨(Same.keep e).trans a.kp, a.st⟩
section
variable {P : Program} {w : World} {K : PySem.W.Frag} {mg : Str → Option Value} {base : Heap}
abbrev s__law_take : Stmt := topS 56
abbrev n__law_take : List Str := ["_law_store_here", "_law_top", "_law_digit", "_law_by"]
theorem sc__law_take : FnScope n__law_take ["_law_store_here", "_law_top"] (defScope s__law_take) := ⟨rfl, rfl, rfl, by decide +kernel, rfl, by decide +kernel, by decide +kernel⟩
def sp_take (_ : PySem.W.Frag) : Sp := fun vs H Q _ => ∃ (S : Addr) (t k : Nat), vs = [.ref S, .int (t : Nat)] ∧ StK S k H ∧ 0 < t ∧ t ≤ 1000 ∧ k ≤ 100000 ∧ ∀ (r : Nat) H', r < t → Drawn S (k + 1) H H' → Q (.int (r : Nat)) H'
theorem ok__law_take (T : Tx K mg) : FnOk P w K mg base CX0 1 (fAt mg "_law_take") (fdAt K mg "_law_take") ["_law_store_here", "_law_top"] (sp_take K) := by
  refine T.d__law_take.F.ok sc__law_take (fun vs H Q E h => ?_) (fun cdv A outer s H vs Q E hr h => ?_)
  · obtain ⟨S, t, k, rfl, _⟩ := h
    rfl
  · obtain ⟨S, t, k, rfl, ⟨a, b, c, hS, hb, hc⟩, t0, t1, hk, q⟩ := h
    have ep : ∀ {p : Addr} {o : HO}, H p = none → ∀ b o', H b = some o' → upd H p o b = some o' := fun hp => same_new hp
    refine ⟨_, (pss_cons (ps_if (pt_cmpR op_gt (pe_ix ix_list (pv 0) (pe_int) (fun _ _ => rfl)) (pe_int) (nomark _)) (pss_cons (ps_asg (pe_callB call_divmodW (by rfl) T.n_divmod (by decide +kernel) (pa_cons (pe_ix ix_list (pv 0) (pe_int) (fun _ _ => rfl)) (pa_cons (pv 1) pa_nil))) (pg_tup rfl (pgs_cons (pg_sub (pv 0) (pe_int) set_list) (pgs_cons (pg_name (i := 2) sc__law_take.nd rfl (Or.inl rfl)) pgs_nil))))
  (pss_one (ps_ret (pv 2)))) pss_nil)
  (pss_cons (ps_asg (pe_op op_add (pe_ix ix_list (pv 0) (pe_int) (fun _ _ => rfl)) (pe_int)) (pg_sub (pv 0) (pe_int) set_list))
  (pss_cons (ps_set (i := 3) sc__law_take.nd rfl (Or.inl rfl) (pe_op op_add (pe_int) (pe_op op_mulX (pe_int) (pe_callTy call_int1 (by rfl) T.n_int (by decide +kernel) (pa_cons (pe_ix ix_list (pv 0) (pe_int) (fun _ _ => rfl)) pa_nil)))))
  (pss_cons (ps_asg (pe_op op_modN (pe_callTy call_int1 (by rfl) T.n_int (by decide +kernel) (pa_cons (pe_op op_add (pe_op op_add (pe_op op_mulX (pe_ix ix_list (pv 0) (pe_int) (fun _ _ => rfl)) (pv 3)) (pe_op op_mulX (pe_int) (pe_ix ix_list (pv 0) (pe_int) (fun _ _ => rfl)))) (pe_int)) pa_nil)) (pe_int)) (pg_sub (pv 0) (pe_int) set_list))
  (pss_one (ps_ret (pe_op op_modN (pe_callTy call_int1 (by rfl) T.n_int (by decide +kernel) (pa_cons (pe_op op_fdivW (pe_ix ix_list (pv 0) (pe_int) (fun _ _ => rfl)) (pe_int)) pa_nil)) (pv 1)))))))), ?_⟩
    refine ⟨_, rfl, _, _, 0, _, rfl, rfl, SqL.of hS, at0, _, _, rfl, rfl, _, rfl, ?_⟩
    by_cases a0 : 0 < a
    · rw [decide_eq_true (show (0 : Int) < ((a : Nat) : Int) by omega)]
      refine ⟨_, rfl, _, _, 0, _, rfl, rfl, SqL.of hS, at0, _, rfl, _, _, rfl, ⟨by omega, PyProof.noPylong_small (by omega)⟩, fun p hp => ?_⟩
      refine ⟨p, _, rfl, SqT.of upd_same, rfl, _, _, rfl, _, rfl, S, _, 0, 0, rfl, rfl, ep hp _ _ hS, ixn (by show 0 < 3; decide), _, _, rfl, rfl, ?_⟩
      refine ⟨_, rfl, q (a % t) _ (Nat.mod_lt _ t0) ⟨fun x o hx h => by rw [upd_ne hx]; exact ep hp _ _ h, a / t, b, c, upd_same, hb, by omega⟩⟩
    · rw [decide_eq_false (show ¬ (0 : Int) < ((a : Nat) : Int) by omega)]
      obtain rfl : a = 0 := by omega
      refine ⟨_, rfl, _, _, 2, _, rfl, rfl, SqL.of hS, at2, _, _, rfl, rfl, ?_⟩
      refine ⟨_, rfl, S, _, 2, 2, rfl, rfl, hS, ixn (by show 2 < 3; decide), ?_⟩
      have s1 : upd H S (.lst [.int ((0 : Nat) : Int), .int (b : Nat), .int ((c : Nat) + 1)]) S = some (.lst [.int ((0 : Nat) : Int), .int (b : Nat), .int ((c : Nat) + 1)]) := upd_same
      have m1 : CMulX (8 : Int) (((c : Nat) : Int) + 1) := mulx_ok (a := 4) (b := 30) (by decide) (by omega) (by decide)
      refine ⟨_, rfl, _, _, 2, _, rfl, rfl, SqL.of s1, at2, .inl ⟨_, rfl, _, _, rfl, rfl, m1, _, _, rfl, rfl, ?_⟩⟩
      have m2 : CMulX ((b : Nat) : Int) ((20011 : Int) + 8 * (((c : Nat) : Int) + 1)) := mulx_ok (a := 40) (b := 40) (by omega) (by omega) (by decide)
      have m3 : CMulX (70001 : Int) (((c : Nat) : Int) + 1) := mulx_ok (a := 30) (b := 30) (by decide) (by omega) (by decide)
      refine ⟨_, rfl, _, _, 1, _, rfl, rfl, SqL.of s1, at1, _, rfl, _, _, rfl, rfl, m2, ?_⟩
      refine ⟨_, rfl, _, _, 2, _, rfl, rfl, SqL.of s1, at2, _, _, rfl, rfl, m3, _, _, rfl, rfl, _, _, rfl, rfl, .inl ⟨_, rfl, _, _, rfl, rfl, by show (2147483497 : Int) ≠ 0; decide, ?_⟩⟩
      generalize hz : ((b : Nat) : Int) * ((20011 : Int) + 8 * (((c : Nat) : Int) + 1)) + 70001 * (((c : Nat) : Int) + 1) + 3 = z
      obtain ⟨b', hb1, hb2⟩ : ∃ b' : Nat, Int.fmod z 2147483497 = ((b' : Nat) : Int) ∧ b' < 2147483497 := by
        rw [Int.fmod_eq_emod_of_nonneg _ (by decide)]
        exact ⟨(z % 2147483497).toNat, by omega, by omega⟩
      refine ⟨_, rfl, S, _, 1, 1, rfl, rfl, s1, ixn (by show 1 < 3; decide), ?_⟩
      generalize hH2 : upd (upd H S _) S _ = H2
      have s2 : H2 S = some (.lst [.int ((0 : Nat) : Int), .int ((b' : Nat) : Int), .int ((c : Nat) + 1)]) := by
        rw [← hH2, upd_same]
        show some (HO.lst [.int ((0 : Nat) : Int), .int (Int.fmod z 2147483497), .int ((c : Nat) + 1)]) = _
        rw [hb1]
      refine ⟨_, rfl, _, _, 1, _, rfl, rfl, SqL.of s2, at1, _, _, rfl, rfl, ⟨by decide, by decide⟩, .inl ⟨_, rfl, _, rfl, _, _, rfl, rfl, by omega, ?_⟩⟩
      have e3 : Int.fmod (((b' : Nat) : Int) / 59) ((t : Nat) : Int) = ((b' / 59 % t : Nat) : Int) := by
        rw [Int.fmod_eq_emod_of_nonneg _ (by omega), Int.natCast_emod, Int.natCast_ediv]
        rfl
      have e4 : V.int (Int.fmod (((b' : Nat) : Int) / 59) ((t : Nat) : Int)) = V.int ((b' / 59 % t : Nat) : Int) := congrArg V.int e3
      have fin := q (b' / 59 % t) H2 (Nat.mod_lt _ t0) ⟨fun x o hx h => by rw [← hH2, upd_ne hx, upd_ne hx]; exact h, 0, b', c + 1, s2, hb2, by omega⟩
      rw [← e4] at fin
      exact fin
abbrev s__law_pick : Stmt := topS 57
abbrev n__law_pick : List Str := ["_law_store_here", "_law_some"]
theorem sc__law_pick : FnScope n__law_pick ["_law_store_here", "_law_some"] (defScope s__law_pick) := ⟨rfl, rfl, rfl, by decide +kernel, rfl, by decide +kernel, by decide +kernel⟩
def sp_pick (_ : PySem.W.Frag) : Sp := fun vs H Q _ => ∃ (S l : Addr) (xs : List V) (k : Nat), vs = [.ref S, .ref l] ∧ H l = some (.lst xs) ∧ l ≠ S ∧ 0 < xs.length ∧ xs.length ≤ 1000 ∧ StK S k H ∧ k ≤ 100000 ∧ ∀ v H', v ∈ xs → Drawn S (k + 1) H H' → Q v H'
theorem ok__law_pick (T : Tx K mg) : FnOk P w K mg base CX0 2 (fAt mg "_law_pick") (fdAt K mg "_law_pick") ["_law_store_here", "_law_some"] (sp_pick K) := by
  refine T.d__law_pick.F.ok sc__law_pick (fun vs H Q E h => ?_) (fun cdv A outer s H vs Q E hr h => ?_)
  · obtain ⟨S, l, xs, k, rfl, _⟩ := h
    rfl
  · obtain ⟨S, l, xs, k, rfl, hl, ne, l0, l1, hS, hk, q⟩ := h
    refine ⟨_, (pss_one (ps_ret (pe_ix ix_list (pv 1) (pcall (ok__law_take T) T.d__law_take hr (by decide) (by rfl) (pa_cons (pv 0) (pa_cons (pe_callB call_len_seq (by rfl) T.n_len (by decide +kernel) (pa_cons (pv 1) pa_nil)) pa_nil))) (fun _ _ => rfl)))), ?_⟩
    refine ⟨_, rfl, _, rfl, _, rfl, l, xs, rfl, .inl (SqL.of hl), S, xs.length, k, rfl, hS, l0, l1, hk, fun r H' hr' dr => ?_⟩
    have e : xs[r]? = some xs[r] := List.getElem?_eq_getElem hr'
    exact ⟨_, _, r, _, rfl, rfl, SqL.of (dr.kp _ _ ne hl), atI_nat e, q _ _ (List.getElem_mem hr') dr⟩
end
end K86
set_option Elab.async false
set_option linter.all false
set_option maxRecDepth 100000
set_option maxHeartbeats 4000000
set_option exponentiation.threshold 20000
/-! A store. -/
namespace K86
open PySem PySem.Spec PyProof.Rows L2 KM
theorem cutp (xs : List V) (k : Nat) : ∃ m, cutV xs none (some ((k : Nat) : Int)) = xs.take m := by
  refine ⟨min k xs.length, ?_⟩
  show List.take ((if ((k : Nat) : Int) < 0 then (((k : Nat) : Int) + (xs.length : Nat)).toNat else min ((k : Nat) : Int).toNat xs.length) - 0) (List.drop 0 xs) = _
  rw [if_neg (by omega), List.drop_zero]
  rfl
theorem cut_ints (ns : List Int) (k : Nat) : ∃ ms : List Int, cutV (ns.map V.int) none (some ((k : Nat) : Int)) = ms.map V.int ∧ ms.length ≤ ns.length := by
  obtain ⟨m, hm⟩ := cutp (ns.map V.int) k
  exact ⟨ns.take m, by rw [hm, List.map_take], by rw [List.length_take]; omega⟩
theorem ite_join {c : Bool} {ta tb : TE} {σ : L2.St} {H : Hp} {P Q : VK} (key : ∀ v H1, P v H1 → Q v H1) (h : ∀ Q' : VK, (∀ v H1, P v H1 → Q' v H1) → if c = true then ta σ H Q' else tb σ H Q') : if c = true then ta σ H Q else tb σ H Q := h Q key
section
variable {P : Program} {w : World} {K : PySem.W.Frag} {mg : Str → Option Value} {base : Heap}
abbrev s__law_store : Stmt := topS 55
abbrev n__law_store : List Str := ["_law_script", "_law_turn", "_law_cell", "_law_blend", "_law_each"]
theorem sc__law_store : FnScope n__law_store ["_law_script", "_law_turn"] (defScope s__law_store) := ⟨rfl, rfl, rfl, by decide +kernel, rfl, by decide +kernel, by decide +kernel⟩
def sp_store (K : PySem.W.Frag) : Sp := fun vs H Q _ => ∃ (a : Addr) (t : Nat) (ns : List Int), vs = [.ref a, .int (t : Nat)] ∧ SqL K H a (ns.map V.int) ∧ ns.length ≤ 1000 ∧ t ≤ 1000 ∧ ∀ S H', Same H H' → H S = none → StK S 0 H' → Q (.ref S) H'
theorem ok__law_store (T : Tx K mg) : FnOk P w K mg base CX0 1 (fAt mg "_law_store") (fdAt K mg "_law_store") ["_law_script", "_law_turn"] (sp_store K) := by
  refine T.d__law_store.F.ok sc__law_store (fun vs H Q E h => ?_) (fun cdv A outer s H vs Q E hr h => ?_)
  · obtain ⟨a, t, ns, rfl, _⟩ := h
    rfl
  · obtain ⟨a, t, ns, rfl, ha, hl, ht, q⟩ := h
    refine ⟨_, (pss_cons (ps_set (i := 2) sc__law_store.nd rfl (Or.inl rfl) (pe_ifExp (pt_cmpR op_lt (pv 1) (pe_callB call_len_seq (by rfl) T.n_len (by decide +kernel) (pa_cons (pv 0) pa_nil)) (nomark _)) (pe_callTy call_int1 (by rfl) T.n_int (by decide +kernel) (pa_cons (pe_ix ix_list (pv 0) (pv 1) (fun _ _ => rfl)) pa_nil)) (pe_op op_add (pe_op op_add (pe_op op_mulX (pe_int) (pv 1)) (pe_int)) (pe_op op_modN (pe_callTy call_int1 (by rfl) T.n_int (by decide +kernel) (pa_cons (pe_callB (cr_sum rfl) (by rfl) T.n_sum (by decide +kernel) (pa_cons (pe_slice sl_list (pv 0) po_none (po_some (pe_int))) pa_nil)) pa_nil)) (pe_int)))))
  (pss_cons (ps_set (i := 3) sc__law_store.nd rfl (Or.inl rfl) (pe_op op_add (pe_int) (pe_op op_mulX (pe_int) (pv 1))))
  (pss_cons (ps_for PassesOwn.never rfl (pi_list (pe_op op_cat (pe_slice sl_list (pv 0) po_none (po_some (pe_int))) (pe_lst (pa_cons (pv 2) pa_nil)))) (pg_name (i := 4) sc__law_store.nd rfl (Or.inl rfl)) (pss_one (ps_set (i := 3) sc__law_store.nd rfl (Or.inl rfl) (pe_op op_modN (pe_callTy call_int1 (by rfl) T.n_int (by decide +kernel) (pa_cons (pe_op op_add (pe_op op_add (pe_op op_mulX (pv 3) (pe_int)) (pe_op op_modN (pe_callTy call_int1 (by rfl) T.n_int (by decide +kernel) (pa_cons (pv 4) pa_nil)) (pe_int))) (pe_int)) pa_nil)) (pe_int)))))
  (pss_one (ps_ret (pe_lst (pa_cons (pe_ifExp (PW.pt (pw_or (pt_cmpR op_lt (pv 2) (pe_int) (nomark _)) (pw_or1 (pt_cmpR op_ge (pv 2) (pe_op op_pow (pe_int) (pe_int)) (nomark _))))) (pe_callB call_abs (by rfl) T.n_abs (by decide +kernel) (pa_cons (pv 2) pa_nil)) (pe_int)) (pa_cons (pv 3) (pa_cons (pe_int) pa_nil))))))))), ?_⟩
    refine ⟨_, rfl, _, rfl, a, _, rfl, .inl ha, _, _, rfl, rfl, _, rfl, ?_⟩
    refine ite_join (P := fun v H1 => Same H H1 ∧ ∃ z : Int, v = .int z) (fun v H1 ⟨e1, z, hz⟩ => ?_) (fun Q' key => ?_)
    · subst hz
      have ha1 := sql_mono e1 ha
      have m2 : CMulX (2477 : Int) ((t : Nat) : Int) := mulx_ok (a := 20) (b := 20) (by decide) (by omega) (by decide)
      refine ⟨_, rfl, _, _, rfl, rfl, m2, _, _, rfl, rfl, ?_⟩
      refine ⟨_, rfl, _, rfl, a, _, rfl, ha1, fun p hp => ?_⟩
      obtain ⟨ms, h1, h2⟩ := cut_ints ns 8
      have h1' : cutV (ns.map V.int) none (some 8) = ms.map V.int := h1
      rw [h1']
      refine ⟨_, rfl, by show 1 ≤ sizeLine; decide, fun p2 hp2 => ?_⟩
      have e2 := e1.trans (same_new (o := .lst (ms.map V.int)) hp)
      have e3 := e2.trans (same_new (o := .lst [V.int z]) hp2)
      have ne : p2 ≠ p := by
        rintro rfl
        rw [upd_same] at hp2
        cases hp2
      refine ⟨p, p2, _, _, rfl, rfl, by rw [upd_ne (fun q => ne q.symm)]; exact upd_same, upd_same, by rw [List.length_map]; exact Nat.le_trans (show ms.length + 1 ≤ 1001 by omega) (by decide), fun p3 hp3 => ?_⟩
      have e4 := e3.trans (same_new (o := .lst (ms.map V.int ++ [V.int z])) hp3)
      refine ⟨p3, rfl, ⟨_, SqL.of upd_same⟩, for_list (K := K) (xs := ms.map V.int ++ [V.int z]) (fun i σ H' => (Same H H' ∧ H' p3 = some (.lst (ms.map V.int ++ [V.int z]))) ∧ ∃ b : Int, ∃ y, 0 ≤ b ∧ b < 2147483497 ∧ σ = [some (.ref a), some (.int (t : Nat)), some (.int z), some (.int b), y]) ⟨⟨e4, upd_same⟩, _, none, by show (0 : Int) ≤ 33613 + 2477 * ((t : Nat) : Int); omega, by show (33613 + 2477 * ((t : Nat) : Int) : Int) < 2147483497; omega, rfl⟩ ?_ ?_ ?_⟩
      · rintro i σ H' _ ⟨⟨_, hb3⟩, _⟩
        exact SqL.of hb3
      · rintro i x σ H' hx ⟨⟨e5, hb3⟩, b, y, b1, b2, rfl⟩
        obtain ⟨u, rfl⟩ : ∃ u : Int, x = .int u := by
          have hm := List.mem_of_getElem? hx
          rcases List.mem_append.mp hm with h | h
          · obtain ⟨u, _, hu⟩ := List.mem_map.mp h
            exact ⟨u, hu.symm⟩
          · exact ⟨z, List.mem_singleton.mp h⟩
        have m3 : CMulX b 45943 := mulx_ok (a := 40) (b := 20) (by omega) (by decide) (by decide)
        refine ⟨_, rfl, _, _, rfl, rfl, m3, _, rfl, .inl ⟨_, rfl, _, _, rfl, rfl, by show (2147483497 : Int) ≠ 0; decide, _, _, rfl, rfl, _, _, rfl, rfl, .inl ⟨_, rfl, _, _, rfl, rfl, by show (2147483497 : Int) ≠ 0; decide, ?_⟩⟩⟩
        generalize b * 45943 + Int.fmod u 2147483497 + 17 = y2
        refine ⟨⟨e5, hb3⟩, Int.fmod y2 2147483497, some (.int u), ?_, ?_, rfl⟩
        · rw [Int.fmod_eq_emod_of_nonneg _ (by decide)]; omega
        · rw [Int.fmod_eq_emod_of_nonneg _ (by decide)]; omega
      · rintro σ H' ⟨⟨e5, hb3⟩, b, y, b1, b2, rfl⟩
        have fin : ∀ (c : Nat) (S : Addr), H' S = none → Q (.ref S) (upd H' S (.lst [.int (c : Nat), .int b, .int 0])) := fun c S hS => by
          refine q S _ (e5.trans (same_new hS)) (free_back e5 hS) ⟨c, b.toNat, 0, ?_, by omega, Nat.le_refl _⟩
          rw [upd_same, show ((b.toNat : Nat) : Int) = b by omega]
          rfl
        have ab : (if z < 0 then -z else z) = ((z.natAbs : Nat) : Int) := by split <;> omega
        have pw : CPow 10 18 := ⟨by decide, by decide, by decide⟩
        refine ⟨_, rfl, _, _, rfl, rfl, _, rfl, ?_⟩
        by_cases c : z < 0
        · rw [decide_eq_true c]
          refine ⟨_, rfl, _, rfl, _, rfl, by show 3 ≤ sizeLine; decide, fun S hS => ?_⟩
          rw [ab]
          exact fin _ _ hS
        · rw [decide_eq_false c]
          refine ⟨_, rfl, _, _, rfl, rfl, pw, _, _, rfl, rfl, _, rfl, ?_⟩
          by_cases c2 : (10 : Int) ^ (18 : Int).toNat ≤ z
          · rw [decide_eq_true c2]
            refine ⟨_, rfl, _, rfl, _, rfl, by show 3 ≤ sizeLine; decide, fun S hS => ?_⟩
            rw [ab]
            exact fin _ _ hS
          · rw [decide_eq_false c2]
            exact ⟨_, rfl, by show 3 ≤ sizeLine; decide, fun S hS => fin 0 _ hS⟩
    · by_cases c : (t : Int) < ((ns.map V.int).length : Nat)
      · rw [decide_eq_true c]
        have c' : t < ns.length := by rw [List.length_map] at c; omega
        have e : (ns.map V.int)[t]? = some (V.int ns[t]) := by rw [List.getElem?_map, List.getElem?_eq_getElem c']; rfl
        exact ⟨_, rfl, _, rfl, _, _, t, _, rfl, rfl, ha, atI_nat e, .inl ⟨_, rfl, key _ _ ⟨fun _ _ h => h, _, rfl⟩⟩⟩
      · rw [decide_eq_false c]
        have m1 : CMulX (7331 : Int) ((t : Nat) : Int) := mulx_ok (a := 20) (b := 20) (by decide) (by omega) (by decide)
        refine ⟨_, rfl, _, _, rfl, rfl, m1, _, _, rfl, rfl, _, rfl, _, rfl, a, _, rfl, ha, fun p hp => ?_⟩
        obtain ⟨ms, h1, h2⟩ := cut_ints ns 5
        have h1' : cutV (ns.map V.int) none (some 5) = ms.map V.int := h1
        rw [h1']
        refine ⟨p, ms, rfl, SqL.of upd_same, .inl ⟨_, rfl, _, _, rfl, rfl, by show (1000121 : Int) ≠ 0; decide, _, _, rfl, rfl, key _ _ ⟨same_new hp, _, rfl⟩⟩⟩
end
end K86
set_option Elab.async false
set_option linter.all false
set_option maxRecDepth 100000
set_option maxHeartbeats 4000000
set_option exponentiation.threshold 20000
/-! Sums by number; the fill by shares. -/
namespace K86
open PySem PySem.Spec PyProof.Rows L2 KM
section
variable {P : Program} {w : World} {K : PySem.W.Frag} {mg : Str → Option Value} {base : Heap}
/-- the numbers from 0 on -/
def Nums (n : Nat) (b : Addr) : Hp → Prop := fun H => ∃ ws : List V, H b = some (.lst ws) ∧ ws.length = n ∧ ∀ i, i < n → ws[i]? = some (.int ((i : Nat) : Int))
theorem Nums.mono {n : Nat} {b : Addr} {H H' : Hp} (h : Nums n b H) (e : Same H H') : Nums n b H' := let ⟨ws, h1, h2, h3⟩ := h; ⟨ws, e _ _ h1, h2, h3⟩
theorem nums_rg {n : Nat} {b : Addr} {H : Hp} {hi : Int} (hn : hi = ((n : Nat) : Int)) (h : H b = some (.lst (rgV 0 hi))) : Nums n b H := by
  subst hn
  refine ⟨_, h, by rw [rgV_length]; omega, fun i hi => ?_⟩
  unfold rgV
  rw [List.getElem?_map, List.getElem?_range (by omega)]
  simp
def sp_lsum (K : PySem.W.Frag) : Sp := fun vs H Q _ => ∃ (a b : Addr) (n : Nat) (g : Nat → Rat), vs = [.ref a, .ref b] ∧ ArL n (fun i => Fr K (g i)) a H ∧ Nums n b H ∧ n ≤ 6 ∧ (∀ i, i < n → Bd 4000 (g i)) ∧ (∃ b c, b + c ≤ 8000 ∧ (∀ i, i < n → Bd b (g i * ((i : Nat) : Rat))) ∧ ∀ i, i < n → Bd c (sm i fun k => g k * ((k : Nat) : Rat))) ∧ Gives (Fr K (sm n fun k => g k * ((k : Nat) : Rat))) H Q
theorem ok__law_sum_of (T : Tx K mg) : FnOk P w K mg base CX0 5 (fAt mg "_law_sum_of") (fdAt K mg "_law_sum_of") ["_law_some", "_law_weights2"] (sp_lsum K) := by
  refine T.d__law_sum_of.F.ok sc__law_sum_of (fun vs H Q E h => ?_) (fun cdv A outer s H vs Q E hr h => ?_)
  · obtain ⟨a, b, n, g, rfl, _⟩ := h
    rfl
  · obtain ⟨a, b, n, g, rfl, ⟨xs, a1, a2, a3⟩, ⟨ws, w1, w2, w3⟩, hn, bg, ⟨bb, cc, le, b1, b2⟩, q⟩ := h
    refine ⟨_, (pss_one (ps_ret (pcall (ok__law_all T) T.d__law_all hr (by decide) (by rfl) (pa_cons (pe_lc (own := [("_law_at", 2)]) rfl sc__law_sum_of.nd (pi_range1 (by rfl) T.n_range (pa_cons (pe_callB call_len_seq (by rfl) T.n_len (by decide +kernel) (pa_cons (pv 0) pa_nil)) pa_nil)) (blkOk_by (own := [("_law_at", 2)]) (N := n__law_sum_of) (sc := defScope s__law_sum_of) (by decide +kernel)) (fun _ _ _ _ _ => pg_name (i := 2) sc__law_sum_of.nd rfl (Or.inl rfl)) (fun _ _ _ _ _ => pts_nil) (fun _ _ _ _ _ => pcall (ok__law_prod T) T.d__law_prod hr (by decide) (by rfl) (pa_cons (pe_ix (kx_list (K := K) rfl) (pv 0) (pv 2) (fun _ _ => rfl)) (pa_cons (pe_tup (pa_cons (pe_ix (kx_list (K := K) rfl) (pv 1) (pv 2) (fun _ _ => rfl)) (pa_cons (pe_int) pa_nil))) pa_nil)))) pa_nil)))), ?_⟩
    refine ⟨_, rfl, a, xs, rfl, .inl (SqL.of a1), _, rfl, by omega, by omega, fun D hD => lc_all (walk_range (lo := 0) (n := ((xs.length : Nat) : Int).toNat)) (by omega) hD (fun i => Fr K (g i * ((i : Nat) : Rat))) (fun _ _ => fr_stay) (fun _ _ => fr_stayD) (fun _ _ => trivial) ?_ ?_⟩
    · rintro k z H1 H2 Rk hk e1 ⟨acc, hacc⟩ ⟨rfl, hz⟩ rk
      obtain rfl : z = .int ((k : Nat) : Int) := by rw [hz]; simp
      have hk : k < n := by omega
      obtain ⟨x, hx, fx⟩ := a3 k hk
      refine ⟨rfl, _, rfl, _, rfl, _, _, k, _, rfl, rfl, SqL.of (e1 _ _ a1), atI_nat hx, _, rfl, _, rfl, _, _, k, _, rfl, rfl, SqL.of (e1 _ _ w1), atI_nat (w3 k hk), by show 2 ≤ sizeLine; decide, fun p hp => ?_⟩
      have ep := same_new (o := .tup [.int ((k : Nat) : Int), .int 1]) hp
      exact ⟨x, .ref p, g k, _, 4000, 11, rfl, fx.mono (e1.trans ep), fr_nat (SqT.of upd_same), bg k hk, bd_nat (by omega), by omega, trivial, fun y H4 e4 hy => rk _ _ (ep.trans e4) hy⟩
    · rintro H1 e1 hA
      have en : ((xs.length : Nat) : Int).toNat = n := by omega
      rw [en] at hA
      exact ⟨D, n, _, rfl, .inl hA, ⟨bb, cc, le, b1, b2⟩, fun v H2 e2 hv => q _ _ (e1.trans e2) hv⟩
abbrev s__law_seen : Stmt := topS 71
abbrev n__law_seen : List Str := ["_law_chances_here", "_law_x", "_law_loads", "_law_at"]
theorem sc__law_seen : FnScope n__law_seen ["_law_chances_here", "_law_x"] (defScope s__law_seen) := ⟨rfl, rfl, rfl, by decide +kernel, rfl, by decide +kernel, by decide +kernel⟩
/-- shares of so many numbers, and how big they are -/
structure ShOk (b n : Nat) (q : Nat → Rat) : Prop where
  ch : Chan n q
  cm : Com b n q
  b5 : b ≤ 520
  n5 : n ≤ 5
theorem ShOk.q {b n : Nat} {q : Nat → Rat} (h : ShOk b n q) {k : Nat} (hk : k ≤ n) : Bd 520 (q k) := (Sz.bd (h.cm.at hk)).mono h.b5
theorem ShOk.ld {b n : Nat} {q : Nat → Rat} (h : ShOk b n q) {x : Rat} (bx : Bd 4 x) : Com 540 n (ld q x) := Com.mono (Com.load h.cm bx.sz) (by have := h.n5; have := h.b5; omega)
theorem ShOk.l1 {b n : Nat} {q : Nat → Rat} (h : ShOk b n q) {x : Rat} (bx : Bd 4 x) {k : Nat} (hk : k ≤ n) : Bd 540 (KM.ld q x k) := Sz.bd ((h.ld bx).at hk)
theorem ShOk.l2 {b n : Nat} {q : Nat → Rat} (h : ShOk b n q) {x : Rat} (bx : Bd 4 x) {k : Nat} (hk : k ≤ n + 1) : Bd 543 (sm k (KM.ld q x)) := Sz.bd (Com.sum (h.ld bx) hk (by have := h.n5; omega))
theorem ShOk.k1 {b n : Nat} {q : Nat → Rat} (h : ShOk b n q) {x : Rat} (bx : Bd 4 x) {k : Nat} (hk : k ≤ n) : Bd 543 (KM.ld q x k * ((k : Nat) : Rat)) := Sz.bd ((Com.num (h.ld bx) (by have := h.n5; omega)).at hk)
theorem ShOk.k2 {b n : Nat} {q : Nat → Rat} (h : ShOk b n q) {x : Rat} (bx : Bd 4 x) {k : Nat} (hk : k ≤ n + 1) : Bd 546 (sm k fun i => KM.ld q x i * ((i : Nat) : Rat)) := Sz.bd (Com.sum (Com.num (h.ld bx) (by have := h.n5; omega)) hk (by have := h.n5; omega))
theorem ShOk.sn {b n : Nat} {q : Nat → Rat} (h : ShOk b n q) {x : Rat} (x0 : 0 < x) (bx : Bd 4 x) : Bd 1089 (seen n q x) := by
  have t0 := tot_pos h.ch x0
  exact Bd.div (h.k2 bx (Nat.le_refl _)) (h.l2 bx (Nat.le_refl _)) (by unfold tot at t0; grind)
def sp_lseen (K : PySem.W.Frag) : Sp := fun vs H Q _ => ∃ (v xv : V) (n b : Nat) (q : Nat → Rat) (x : Rat), vs = [v, xv] ∧ ShV K n q v H ∧ ShOk b n q ∧ Fr K x xv H ∧ 0 < x ∧ Bd 4 x ∧ Gives (Fr K (seen n q x)) H Q
theorem ok__law_seen (T : Tx K mg) : FnOk P w K mg base CX0 6 (fAt mg "_law_seen") (fdAt K mg "_law_seen") ["_law_chances_here", "_law_x"] (sp_lseen K) := by
  refine T.d__law_seen.F.ok sc__law_seen (fun vs H Q E h => ?_) (fun cdv A outer s H vs Q E hr h => ?_)
  · obtain ⟨v, xv, n, b, q, x, rfl, _⟩ := h
    rfl
  · obtain ⟨v, xv, n, b, g, x, rfl, ⟨a, rfl, xs, a1, a2, a3⟩, ok, hx, x0, bx, q⟩ := h
    have n5 := ok.n5
    refine ⟨_, (pss_cons (ps_setLc (i := 2) (own := [("_law_at", 3)]) rfl sc__law_seen.nd rfl rfl (sw_true rfl rfl rfl (by decide +kernel)) (pi_range1 (by rfl) T.n_range (pa_cons (pe_callB call_len_seq (by rfl) T.n_len (by decide +kernel) (pa_cons (pv 0) pa_nil)) pa_nil)) (blkOk_by (own := [("_law_at", 3)]) (N := n__law_seen) (sc := defScope s__law_seen) (by decide +kernel)) (fun _ _ _ _ _ => pg_name (i := 3) sc__law_seen.nd rfl (Or.inl rfl)) (fun _ _ _ _ _ => pts_nil) (fun _ _ _ _ _ => pcall (ok__law_prod T) T.d__law_prod hr (by decide) (by rfl) (pa_cons (pe_ix (kx_tup (K := K) rfl) (pv 0) (pv 3) (fun _ _ => rfl)) (pa_cons (pcall (ok__law_pow T) T.d__law_pow hr (by decide) (by rfl) (pa_cons (pv 1) (pa_cons (pv 3) pa_nil))) pa_nil))))
  (pss_one (ps_ret (pcall (ok__law_per T) T.d__law_per hr (by decide) (by rfl) (pa_cons (pcall (ok__law_sum_of T) T.d__law_sum_of hr (by decide) (by rfl) (pa_cons (pv 2) (pa_cons (pe_listRg rfl (by rfl) T.n_list (prg_1 (by rfl) T.n_range (pe_callB call_len_seq (by rfl) T.n_len (by decide +kernel) (pa_cons (pv 2) pa_nil)))) pa_nil))) (pa_cons (pcall (ok__law_all T) T.d__law_all hr (by decide) (by rfl) (pa_cons (pv 2) pa_nil)) pa_nil)))))), ?_⟩
    refine ⟨_, rfl, a, xs, rfl, .inr a1, _, rfl, by omega, by omega, fun D hD => lc_all (walk_range (lo := 0) (n := ((xs.length : Nat) : Int).toNat)) (by omega) hD (fun i => Fr K (KM.ld g x i)) (fun _ _ => fr_stay) (fun _ _ => fr_stayD) (fun _ _ => trivial) ?_ ?_⟩
    · rintro k z H1 H2 Rk hk e1 ⟨acc, hacc⟩ ⟨rfl, hz⟩ rk
      obtain rfl : z = .int ((k : Nat) : Int) := by rw [hz]; simp
      have hk : k < n + 1 := by omega
      obtain ⟨u, hu, fu⟩ := a3 k hk
      exact ⟨rfl, _, rfl, _, rfl, _, _, k, _, rfl, rfl, sqt_mono e1 a1, atI_nat hu, _, rfl, _, rfl, xv, x, k, rfl, hx.mono e1, bx.mono (by decide), by omega, fun y H3 e3 hy => ⟨u, y, _, _, 520, 4 * k + 1, rfl, fu.mono (e1.trans e3), hy, ok.q (by omega), bd_pow bx (by decide), by omega, trivial, fun y2 H4 e4 hy2 => rk _ _ (e3.trans e4) hy2⟩⟩
    · rintro H1 e1 hA
      have en : ((xs.length : Nat) : Int).toNat = n + 1 := by omega
      rw [en] at hA
      obtain ⟨ls, l1, l2, l3⟩ := id hA
      refine ⟨_, rfl, _, rfl, D, ls, rfl, .inl (SqL.of l1), _, rfl, RgOk.of_le (by omega) (by omega) (by omega) (by omega), fun p hp => ?_⟩
      have ep := same_new (o := .lst (rgV 0 ((ls.length : Nat) : Int))) hp
      have e1p := e1.trans ep
      have s1 : ∀ i, i < n + 1 → Bd 540 (KM.ld g x i) := fun i hi => ok.l1 bx (by omega)
      refine ⟨D, p, n + 1, _, rfl, hA.mono ep fun _ _ => fr_stay, nums_rg (by omega) upd_same, by omega, fun i hi => (s1 i hi).mono (by decide), ⟨543, 546, by decide, fun i hi => ok.k1 bx (by omega), fun i hi => ok.k2 bx (by omega)⟩, fun v1 H2 e2 h2 => ?_⟩
      refine ⟨_, rfl, D, n + 1, _, rfl, .inl (hA.mono (ep.trans e2) fun _ _ => fr_stay), ⟨540, 543, by decide, s1, fun i hi => ok.l2 bx (by omega)⟩, fun v2 H3 e3 h3 => ?_⟩
      have t0 := tot_pos ok.ch x0
      exact ⟨v1, v2, _, _, 546, 543, rfl, h2.mono e3, h3, ok.k2 bx (Nat.le_refl _), ok.l2 bx (Nat.le_refl _), by decide, t0, fun v H4 e4 hv => q _ _ (e1p.trans (e2.trans (e3.trans e4))) hv⟩
end
end K86
set_option Elab.async false
set_option linter.all false
set_option maxRecDepth 100000
set_option maxHeartbeats 4000000
set_option exponentiation.threshold 20000
/-! Amounts and shares that are drawn. -/
namespace K86
open PySem PySem.Spec PyProof.Rows L2 KM
theorem iq_eq {n m : Int} (hm : 0 < m) : (n : Rat) / (m : Rat) * (m : Rat) = (n : Rat) := by
  have := ne0 hm
  grind
theorem iq_bd {n m : Int} {b : Nat} (hm : 0 < m) (h1 : m.natAbs < 2 ^ b) (h2 : n.natAbs < 2 ^ b) : Bd b ((n : Rat) / (m : Rat)) := Sz.bd ⟨n, m, hm, h1, h2, iq_eq hm⟩
theorem iq_pos {n m : Int} (hm : 0 < m) (hn : 0 < n) : 0 < (n : Rat) / (m : Rat) := by
  rw [Rat.div_def]
  exact Rat.mul_pos (Rat.intCast_pos.mpr hn) (Rat.inv_pos.mpr (Rat.intCast_pos.mpr hm))
/-- one of some whole numbers -/
theorem pick_nat {ns : List Nat} {lo hi : Nat} (h : ∀ n, n ∈ ns → lo ≤ n ∧ n ≤ hi) {v : V} (hv : v ∈ ns.map fun n => V.int ((n : Nat) : Int)) : ∃ t : Nat, v = .int ((t : Nat) : Int) ∧ lo ≤ t ∧ t ≤ hi := by
  obtain ⟨n, h1, h2⟩ := List.mem_map.mp hv
  exact ⟨n, h2.symm, h n h1⟩
theorem StK.new {S p : Addr} {k : Nat} {H : Hp} {o : HO} (h : StK S k H) (hp : H p = none) : StK S k (upd H p o) := h.same (same_new hp)
section
variable {P : Program} {w : World} {K : PySem.W.Frag} {mg : Str → Option Value} {base : Heap}
abbrev s__law_mild : Stmt := topS 68
abbrev n__law_mild : List Str := ["_law_store_here"]
theorem sc__law_mild : FnScope n__law_mild ["_law_store_here"] (defScope s__law_mild) := ⟨rfl, rfl, rfl, by decide +kernel, rfl, by decide +kernel, by decide +kernel⟩
def sp_mild (K : PySem.W.Frag) : Sp := fun vs H Q _ => ∃ (S : Addr) (k : Nat), vs = [.ref S] ∧ StK S k H ∧ k ≤ 90000 ∧ ∀ v r H', Drawn S (k + 4) H H' → Fr K r v H' → 0 < r → Bd 4 r → Q v H'
theorem ok__law_mild (T : Tx K mg) : FnOk P w K mg base CX0 3 (fAt mg "_law_mild") (fdAt K mg "_law_mild") ["_law_store_here"] (sp_mild K) := by
  refine T.d__law_mild.F.ok sc__law_mild (fun vs H Q E h => ?_) (fun cdv A outer s H vs Q E hr h => ?_)
  · obtain ⟨S, k, rfl, _⟩ := h
    rfl
  · obtain ⟨S, k, rfl, hS, hk, q⟩ := h
    refine ⟨_, (pss_one (ps_ret (pcall (ok__law_ratio T) T.d__law_ratio hr (by decide) (by rfl) (pa_cons (pe_op op_add (pe_int) (pcall (ok__law_take T) T.d__law_take hr (by decide) (by rfl) (pa_cons (pv 0) (pa_cons (pcall (ok__law_pick T) T.d__law_pick hr (by decide) (by rfl) (pa_cons (pv 0) (pa_cons (pe_lst (pa_cons (pe_int) (pa_cons (pe_int) (pa_cons (pe_int) (pa_cons (pe_int) pa_nil))))) pa_nil))) pa_nil)))) (pa_cons (pe_op op_add (pe_int) (pcall (ok__law_take T) T.d__law_take hr (by decide) (by rfl) (pa_cons (pv 0) (pa_cons (pcall (ok__law_pick T) T.d__law_pick hr (by decide) (by rfl) (pa_cons (pv 0) (pa_cons (pe_lst (pa_cons (pe_int) (pa_cons (pe_int) (pa_cons (pe_int) (pa_cons (pe_int) pa_nil))))) pa_nil))) pa_nil)))) pa_nil))))), ?_⟩
    refine ⟨_, rfl, _, rfl, by show 4 ≤ sizeLine; decide, fun p hp => ⟨S, p, _, k, rfl, upd_same, hS.ne hp, by decide, by decide, hS.new hp, by omega, fun v H1 hv d1 => ?_⟩⟩
    obtain ⟨t, rfl, t1, t9⟩ := pick_nat (ns := [1, 2, 4, 9]) (lo := 1) (hi := 9) (by decide) hv
    refine ⟨S, t, k + 1, rfl, d1.st, by omega, by omega, by omega, fun r H2 hr2 d2 => ⟨_, _, rfl, rfl, ?_⟩⟩
    refine ⟨_, rfl, _, rfl, by show 4 ≤ sizeLine; decide, fun p2 hp2 => ⟨S, p2, _, k + 2, rfl, upd_same, d2.st.ne hp2, by decide, by decide, d2.st.new hp2, by omega, fun v2 H3 hv2 d3 => ?_⟩⟩
    obtain ⟨t2, rfl, t21, t29⟩ := pick_nat (ns := [1, 1, 2, 4]) (lo := 1) (hi := 4) (by decide) hv2
    refine ⟨S, t2, k + 3, rfl, d3.st, by omega, by omega, by omega, fun r2 H4 hr4 d4 => ⟨_, _, rfl, rfl, ?_⟩⟩
    refine ⟨_, _, rfl, by omega, by omega, fun v5 H5 e5 h5 => ?_⟩
    exact q v5 _ H5 ((((Drawn.pre (same_new hp) d1).trans d2).trans ((Drawn.pre (same_new hp2) d3).trans d4)).same e5) h5 (iq_pos (by omega) (by omega)) (iq_bd (by omega) (by omega) (by omega))
abbrev s__law_part : Stmt := topS 69
abbrev n__law_part : List Str := ["_law_store_here", "_law_under"]
theorem sc__law_part : FnScope n__law_part ["_law_store_here"] (defScope s__law_part) := ⟨rfl, rfl, rfl, by decide +kernel, rfl, by decide +kernel, by decide +kernel⟩
def sp_part (K : PySem.W.Frag) : Sp := fun vs H Q _ => ∃ (S : Addr) (k : Nat), vs = [.ref S] ∧ StK S k H ∧ k ≤ 90000 ∧ ∀ (v : V) (a b : Nat) H', Drawn S (k + 3) H H' → Fr K (((a : Nat) : Rat) / ((b : Nat) : Rat)) v H' → a ≤ b → 0 < b → b ≤ 300 → Q v H'
theorem ok__law_part (T : Tx K mg) : FnOk P w K mg base CX0 3 (fAt mg "_law_part") (fdAt K mg "_law_part") ["_law_store_here"] (sp_part K) := by
  refine T.d__law_part.F.ok sc__law_part (fun vs H Q E h => ?_) (fun cdv A outer s H vs Q E hr h => ?_)
  · obtain ⟨S, k, rfl, _⟩ := h
    rfl
  · obtain ⟨S, k, rfl, hS, hk, q⟩ := h
    refine ⟨_, (pss_cons (ps_set (i := 1) sc__law_part.nd rfl (Or.inl rfl) (pe_op op_add (pe_int) (pcall (ok__law_take T) T.d__law_take hr (by decide) (by rfl) (pa_cons (pv 0) (pa_cons (pcall (ok__law_pick T) T.d__law_pick hr (by decide) (by rfl) (pa_cons (pv 0) (pa_cons (pe_lst (pa_cons (pe_int) (pa_cons (pe_int) (pa_cons (pe_int) (pa_cons (pe_int) (pa_cons (pe_int) (pa_cons (pe_int) pa_nil))))))) pa_nil))) pa_nil)))))
  (pss_one (ps_ret (pcall (ok__law_ratio T) T.d__law_ratio hr (by decide) (by rfl) (pa_cons (pcall (ok__law_take T) T.d__law_take hr (by decide) (by rfl) (pa_cons (pv 0) (pa_cons (pe_op op_add (pv 1) (pe_int)) pa_nil))) (pa_cons (pv 1) pa_nil)))))), ?_⟩
    refine ⟨_, rfl, _, rfl, by show 6 ≤ sizeLine; decide, fun p hp => ⟨S, p, _, k, rfl, upd_same, hS.ne hp, by decide, by decide, hS.new hp, by omega, fun v H1 hv d1 => ?_⟩⟩
    obtain ⟨t, rfl, t1, t9⟩ := pick_nat (ns := [1, 2, 5, 9, 9, 300]) (lo := 1) (hi := 300) (by decide) hv
    refine ⟨S, t, k + 1, rfl, d1.st, by omega, by omega, by omega, fun r H2 hr2 d2 => ⟨_, _, rfl, rfl, ?_⟩⟩
    refine ⟨_, rfl, _, rfl, _, _, rfl, rfl, S, r + 2, k + 2, ?_, d2.st, by omega, by omega, by omega, fun r2 H3 hr3 d3 => ?_⟩
    · have e : (fun i j : Int => V.int (i + j)) ((fun i j : Int => i + j) 1 ((r : Nat) : Int)) 1 = V.int (((r + 2 : Nat)) : Int) := congrArg V.int (by show (1 : Int) + ((r : Nat) : Int) + 1 = _; omega)
      exact congrArg (fun z => [V.ref S, z]) e
    · refine ⟨_, rfl, _, _, rfl, by omega, by omega, fun v5 H5 e5 h5 => ?_⟩
      have d13 := (((Drawn.pre (same_new hp) d1).trans d2).trans d3).same e5
      exact q v5 r2 (1 + r) H5 d13 (by
        have e : (((1 + r : Nat)) : Rat) = ((1 + ((r : Nat) : Int) : Int) : Rat) := by rw [← Rat.intCast_natCast, Int.natCast_add]; rfl
        rw [e]
        exact h5) (by omega) (by omega) (by omega)
end
end K86
set_option Elab.async false
set_option linter.all false
set_option maxRecDepth 100000
set_option maxHeartbeats 4000000
set_option exponentiation.threshold 20000
/-! Shares of the numbers that are drawn. -/
namespace K86
open PySem PySem.Spec PyProof.Rows L2 KM
theorem smn_first (f : Nat → Nat) : ∀ n, smn (n + 1) f = f 0 + smn n fun j => f (j + 1)
  | 0 => by simp [smn]
  | n + 1 => by
    have := smn_first f n
    show smn (n + 1) f + f (n + 1) = f 0 + (smn n (fun j => f (j + 1)) + f (n + 1))
    omega
theorem smn_getD : ∀ ns : List Nat, smn ns.length (fun j => ns.getD j 0) = ns.sum
  | [] => rfl
  | a :: ns => by
    rw [List.length_cons, smn_first]
    show a + smn ns.length (fun j => ns.getD j 0) = (a :: ns).sum
    rw [smn_getD ns, List.sum_cons]
abbrev wh (ns : List Nat) : List Int := ns.map fun n => ((n : Nat) : Int)
theorem wh_sum : ∀ ns : List Nat, (wh ns).sum = ((ns.sum : Nat) : Int)
  | [] => rfl
  | a :: ns => by
    have := wh_sum ns
    unfold wh at this ⊢
    rw [List.map_cons, List.sum_cons, List.sum_cons, this, Int.natCast_add]
theorem set_sum {ns : List Nat} {r : Nat} (h : r < ns.length) : 0 < (ns.set r 1).sum := by
  induction ns generalizing r with
  | nil => simp at h
  | cons a ns ih =>
    cases r with
    | zero => rw [List.set_cons_zero, List.sum_cons]; omega
    | succ r =>
      have := ih (r := r) (by simpa using h)
      rw [List.set_cons_succ, List.sum_cons]; omega
theorem kc_sum {X : Cx} {K : PySem.W.Frag} (h : X.K = K) (hc : X.calm = true) : CallR X (.builtin "sum") (rSum K) := h ▸ cr_sum hc
/-- whole numbers that stand at F -/
def Wh (F : Addr) (ns : List Nat) : Hp → Prop := fun H => H F = some (.lst ((wh ns).map V.int))
theorem Drawn.at {S F : Addr} {k : Nat} {H H1 : Hp} {o : HO} (d : Drawn S k H H1) (hF : H F = none) (ne : F ≠ S) : Drawn S k H (upd H1 F o) := by
  refine ⟨fun b u hb e => ?_, ?_⟩
  · have : b ≠ F := by rintro rfl; rw [hF] at e; cases e
    rw [upd_ne this]
    exact d.kp b u hb e
  · obtain ⟨a, b, c, h1, h2, h3⟩ := d.st
    exact ⟨a, b, c, by rw [upd_ne (fun z => ne z.symm)]; exact h1, h2, h3⟩
theorem if_join {c : Bool} {ts : TS} {κ : Ends} {σ : L2.St} {H : Hp} (P : Hp → Prop) (key : ∀ H1, P H1 → κ.nx σ H1) (h : ∀ nx' : L2.St → Hp → Prop, (∀ H1, P H1 → nx' σ H1) → if c = true then ts { κ with nx := nx' } σ H else tNext { κ with nx := nx' } σ H) :
    if c = true then ts κ σ H else tNext κ σ H := h κ.nx key
section
variable {P : Program} {w : World} {K : PySem.W.Frag} {mg : Str → Option Value} {base : Heap}
abbrev s__law_chances : Stmt := topS 70
abbrev n__law_chances : List Str := ["_law_store_here", "_law_count", "_law_some", "_law_lap", "_law_each"]
theorem sc__law_chances : FnScope n__law_chances ["_law_store_here", "_law_count"] (defScope s__law_chances) := ⟨rfl, rfl, rfl, by decide +kernel, rfl, by decide +kernel, by decide +kernel⟩
def sp_chances (K : PySem.W.Frag) : Sp := fun vs H Q _ => ∃ (S : Addr) (n k : Nat), vs = [.ref S, .int (n : Nat)] ∧ StK S k H ∧ n ≤ 5 ∧ k ≤ 80000 ∧ ∀ v q H', Drawn S (k + n + 2) H H' → ShV K n q v H' → ShOk 6 n q → Q v H'
theorem ok__law_chances (T : Tx K mg) : FnOk P w K mg base CX0 3 (fAt mg "_law_chances") (fdAt K mg "_law_chances") ["_law_store_here", "_law_count"] (sp_chances K) := by
  refine T.d__law_chances.F.ok sc__law_chances (fun vs H Q E h => ?_) (fun cdv A outer s H vs Q E hr h => ?_)
  · obtain ⟨S, n, k, rfl, _⟩ := h
    rfl
  · obtain ⟨S, n, k, rfl, hS, hn, hk, q⟩ := h
    refine ⟨_, (pss_cons (ps_set (i := 2) sc__law_chances.nd rfl (Or.inr rfl) (pe_lst pa_nil))
  (pss_cons (ps_for PassesOwn.never rfl (pi_range1 (by rfl) T.n_range (pa_cons (pe_op op_add (pv 1) (pe_int)) pa_nil)) (pg_name (i := 3) sc__law_chances.nd rfl (Or.inl rfl)) (pss_one (ps_expr (pe_bm PySem.F.plainAttrs_list PySem.F.slot_list_append PySem.F.type_list_append mt_append (pv 2) (pa_cons (pcall (ok__law_pick T) T.d__law_pick hr (by decide) (by rfl) (pa_cons (pv 0) (pa_cons (pe_lst (pa_cons (pe_int) (pa_cons (pe_int) (pa_cons (pe_int) (pa_cons (pe_int) (pa_cons (pe_int) (pa_cons (pe_int) pa_nil))))))) pa_nil))) pa_nil)))))
  (pss_cons (ps_if (pt_cmpR op_eq (pe_callB (cr_sum rfl) (by rfl) T.n_sum (by decide +kernel) (pa_cons (pv 2) pa_nil)) (pe_int) (nomark _)) (pss_one (ps_asg (pe_int) (pg_sub (pv 2) (pcall (ok__law_take T) T.d__law_take hr (by decide) (by rfl) (pa_cons (pv 0) (pa_cons (pe_op op_add (pv 1) (pe_int)) pa_nil))) set_list))) pss_nil)
  (pss_one (ps_ret (pe_callTy call_tuple_of (by rfl) T.n_tuple (by decide +kernel) (pa_cons (pe_lc (own := [("_law_each", 4)]) rfl sc__law_chances.nd (pi_list (pv 2)) (blkOk_by (own := [("_law_each", 4)]) (N := n__law_chances) (sc := defScope s__law_chances) (by decide +kernel)) (fun _ _ _ _ _ => pg_name (i := 4) sc__law_chances.nd rfl (Or.inl rfl)) (fun _ _ _ _ _ => pts_nil) (fun _ _ _ _ _ => pcall (ok__law_ratio T) T.d__law_ratio hr (by decide) (by rfl) (pa_cons (pv 4) (pa_cons (pe_callB (kc_sum (K := K) rfl rfl) (by rfl) T.n_sum (by decide +kernel) (pa_cons (pv 2) pa_nil)) pa_nil)))) pa_nil))))))), ?_⟩
    refine ⟨by show 0 ≤ sizeLine; decide, fun F hF => ?_⟩
    have ne : F ≠ S := hS.ne hF
    have d0 : Drawn S k H (upd H F (.lst [])) := ⟨Same.keep (same_new hF), hS.new hF⟩
    refine ⟨_, rfl, _, _, rfl, rfl, _, rfl, by omega, by omega, for_range (lo := 0) (n := (((n : Nat) : Int) + 1).toNat) (fun i σ H' => Drawn S (k + i) H H' ∧ ∃ ns y, σ = [some (.ref S), some (.int (n : Nat)), some (.ref F), y, none] ∧ ns.length = i ∧ (∀ t, t ∈ ns → t ≤ 7) ∧ Wh F ns H') ⟨d0, [], none, rfl, rfl, (fun t ht => absurd ht List.not_mem_nil), upd_same⟩ ?_ ?_⟩
    · rintro i σ H1 hi ⟨d1, ns, y, rfl, n1, n2, n3⟩
      have nF : H F = none := hF
      refine ⟨_, rfl, .inl ⟨rfl, _, SqL.of n3⟩, _, rfl, by show 6 ≤ sizeLine; decide, fun p hp => ⟨S, p, _, k + i, rfl, upd_same, d1.st.ne hp, by decide, by decide, d1.st.new hp, by omega, fun v H3 hv d3 => ?_⟩⟩
      obtain ⟨t, rfl, t1, t7⟩ := pick_nat (ns := [0, 1, 1, 2, 3, 7]) (lo := 0) (hi := 7) (by decide) hv
      have n3' : H3 F = some (.lst ((wh ns).map V.int)) := d3.kp F _ ne (by rw [upd_ne (by rintro rfl; rw [show H1 F = _ from n3] at hp; cases hp)]; exact n3)
      refine ⟨F, _, _, rfl, rfl, n3', by rw [List.length_map, List.length_map, n1]; exact Nat.lt_of_lt_of_le (by omega : i < 1000) (by decide), ?_⟩
      have d4 := (d1.trans (Drawn.pre (same_new hp) d3)).at (o := .lst ((wh ns).map V.int ++ [.int ((t : Nat) : Int)])) hF ne
      refine ⟨d4, ns ++ [t], some (.int (0 + (i : Int))), rfl, by rw [List.length_append, n1]; rfl, fun u hu => ?_, ?_⟩
      · rcases List.mem_append.mp hu with h | h
        · exact n2 u h
        · rw [List.mem_singleton.mp h]; exact t7
      · show upd H3 F _ F = _
        rw [upd_same]
        unfold wh
        rw [List.map_append, List.map_append]
        rfl
    · rintro σ H1 ⟨d1, ns, y, rfl, n1, n2, n3⟩
      refine ⟨_, rfl, F, wh ns, rfl, SqL.of n3, rfl, _, rfl, ?_⟩
      have nn : ∀ {r : Nat} {H2 : Hp}, Drawn S (k + (((n : Nat) : Int) + 1).toNat + 1) H1 H2 → Drawn S (k + n + 2) H H2 := fun d => (d1.trans d).mono (by omega)
      refine if_join (fun H2 => Drawn S (k + n + 2) H H2 ∧ ∃ ns, ns.length = n + 1 ∧ (∀ t, t ∈ ns → t ≤ 7) ∧ Wh F ns H2 ∧ 0 < ns.sum) (fun H2 ⟨d2, ns, n1, n2, n3, n4⟩ => ?_) (fun nx' key => ?_)
      · have s7 := smn_le (f := fun j => ns.getD j 0) (b := 7) (n := n + 1) fun j hj => n2 _ (by
          rw [List.getD_eq_getElem?_getD, List.getElem?_eq_getElem (by omega)]
          exact List.getElem_mem _)
        have sg := smn_getD ns
        rw [n1] at sg
        have nl : ((wh ns).map V.int).length = n + 1 := by rw [List.length_map, List.length_map, n1]
        refine ⟨_, rfl, F, rfl, ⟨_, SqL.of n3⟩, fun D hD => lc_all (walk_list (K := K) (a := F) (xs := (wh ns).map V.int)) (by omega) hD (fun j => Fr K (((ns.getD j 0 : Nat) : Rat) / ((ns.sum : Nat) : Rat))) (fun _ _ => fr_stay) (fun _ _ => fr_stayD) (fun H' e => SqL.of (e _ _ n3)) ?_ ?_⟩
        · rintro j z H3 H4 Rk hj e3 ⟨acc, hacc⟩ ⟨rfl, hz⟩ rk
          have hj' : j < ns.length := by omega
          obtain rfl : z = .int ((ns.getD j 0 : Nat) : Int) := by
            unfold wh at hz
            rw [List.getElem?_map, List.getElem?_map, List.getElem?_eq_getElem hj'] at hz
            rw [List.getD_eq_getElem?_getD, List.getElem?_eq_getElem hj']
            exact (Option.some.inj hz).symm
          refine ⟨rfl, _, rfl, _, rfl, F, wh ns, rfl, SqL.of (e3 _ _ n3), _, _, rfl, ?_, ?_, fun y H5 e5 hy => rk _ _ e5 ?_⟩
          · rw [wh_sum]; omega
          · rw [wh_sum, Int.natAbs_natCast]
            exact Nat.lt_of_lt_of_le (show ns.sum < 2 ^ 6 by omega) (Nat.pow_le_pow_right (by decide) (by decide))
          · rw [wh_sum] at hy
            exact hy
        · rintro H3 e3 hA
          rw [nl] at hA
          obtain ⟨us, u1, u2, u3⟩ := hA
          refine ⟨_, _, rfl, .inl ⟨.inl (.inl u1), fun t ht => ?_⟩⟩
          have et := same_new (o := .tup us) ht
          refine q _ _ _ (d2.same (e3.trans et)) ⟨t, rfl, us, SqT.of upd_same, by omega, fun i hi => by
            obtain ⟨u, h1, h2⟩ := u3 i (by omega)
            exact ⟨u, h1, h2.mono et⟩⟩ ⟨parts_chan (f := fun j => ns.getD j 0) sg n4, parts_com (f := fun j => ns.getD j 0) (fun j hj => n2 _ (by
              rw [List.getD_eq_getElem?_getD, List.getElem?_eq_getElem (by omega)]
              exact List.getElem_mem _)) hn sg n4, by decide, hn⟩
      · by_cases c : V.int (wh ns).sum = V.int 0
        · rw [decide_eq_true c]
          have d1' : Drawn S (k + n + 1) H H1 := d1.mono (by omega)
          refine ⟨_, rfl, _, rfl, _, rfl, _, _, rfl, rfl, S, n + 1, k + n + 1, rfl, d1'.st, by omega, by omega, by omega, fun r H2 hr2 d2 => ?_⟩
          have n3' := d2.kp F _ ne n3
          refine ⟨F, _, ((r : Nat) : Int), r, rfl, rfl, n3', ixn (by rw [List.length_map, List.length_map, n1]; omega), ?_⟩
          refine key _ ⟨(d1'.trans d2).at hF ne, ns.set r 1, by rw [List.length_set, n1]; omega, fun t ht => ?_, ?_, set_sum (by omega)⟩
          · rcases List.mem_or_eq_of_mem_set ht with h | h
            · exact n2 t h
            · omega
          · show upd H2 F _ F = _
            rw [upd_same]
            unfold wh
            rw [List.map_set, List.map_set]
            rfl
        · rw [decide_eq_false c]
          have c' : ns.sum ≠ 0 := fun z => c (by rw [wh_sum, z]; rfl)
          exact key _ ⟨d1.mono (by omega), ns, by omega, n2, n3, by omega⟩
end
end K86
set_option Elab.async false
set_option linter.all false
set_option maxRecDepth 100000
set_option maxHeartbeats 4000000
set_option exponentiation.threshold 20000
/-! A look that is drawn. -/
namespace K86
open PySem PySem.Spec PyProof.Rows L2 KM
/-- a test's two ends, each met once -/
theorem ifs_join {c : TT} {t u : TS} {D : Ends} {σ : L2.St} {H : Hp} (PA PB : Hp → Prop) (ha : ∀ H1, PA H1 → t D σ H1) (hb : ∀ H1, PB H1 → u D σ H1)
    (test : ∀ G : Bool → Hp → Prop, (∀ H1, PA H1 → G true H1) → (∀ H1, PB H1 → G false H1) → c σ H G) : tIfS c t u D σ H :=
  test _ (fun H1 p => by rw [if_pos rfl]; exact ha H1 p) fun H1 p => by rw [if_neg (by decide)]; exact hb H1 p
theorem ife_join {c : TT} {ta tb : TE} {σ : L2.St} {H : Hp} {Q : VK} (PA PB : Hp → Prop) (ha : ∀ H1, PA H1 → ta σ H1 Q) (hb : ∀ H1, PB H1 → tb σ H1 Q)
    (test : ∀ G : Bool → Hp → Prop, (∀ H1, PA H1 → G true H1) → (∀ H1, PB H1 → G false H1) → c σ H G) : tIf c ta tb σ H Q :=
  test _ (fun H1 p => by rw [if_pos rfl]; exact ha H1 p) fun H1 p => by rw [if_neg (by decide)]; exact hb H1 p
/-- behind a statement: what goes on from P goes on -/
theorem st_to {t : TS} {D : Ends} {σ : L2.St} {H : Hp} (P : L2.St → Hp → Prop) (key : ∀ σ1 H1, P σ1 H1 → D.nx σ1 H1) (h : ∀ nx' : L2.St → Hp → Prop, (∀ σ1 H1, P σ1 H1 → nx' σ1 H1) → t { D with nx := nx' } σ H) : t D σ H := h D.nx key
theorem ex_to {t : TE} {σ : L2.St} {H : Hp} {Q : VK} (P : VK) (key : ∀ v H1, P v H1 → Q v H1) (h : ∀ Q' : VK, (∀ v H1, P v H1 → Q' v H1) → t σ H Q') : t σ H Q := h Q key
theorem Drawn.stay {S : Addr} {k j : Nat} {H H' : Hp} {P : VP} {v : V} (d : Drawn S k H H') (hS : StK S j H) (st : StayD S P) (h : P v H) : P v H' :=
  let ⟨xs, e⟩ := hS.lst; st v H H' xs e d.kp h
theorem shv_stayD {K : PySem.W.Frag} {n : Nat} {q : Nat → Rat} {D : Addr} : StayD D (ShV K n q) := fun _ _ _ _ hD e ⟨a, h0, vs, h1, h2, h3⟩ =>
  ⟨a, h0, vs, sqt_keep hD e h1, h2, fun i hi => let ⟨v, e1, e2⟩ := h3 i hi; ⟨v, e1, fr_stayD _ _ _ _ hD e e2⟩⟩
theorem part_n {a b n : Nat} (hab : a ≤ b) (hb : 0 < b) (h3 : b ≤ 300) (hn : n ≤ 5) : 0 ≤ ((a : Nat) : Rat) / ((b : Nat) : Rat) * ((n : Nat) : Rat) ∧ ((a : Nat) : Rat) / ((b : Nat) : Rat) * ((n : Nat) : Rat) ≤ ((n : Nat) : Rat) ∧ Bd 45 (((a : Nat) : Rat) / ((b : Nat) : Rat) * ((n : Nat) : Rat)) ∧ Bd 9 (((a : Nat) : Rat) / ((b : Nat) : Rat)) := by
  have q0 : 0 ≤ ((a : Nat) : Rat) / ((b : Nat) : Rat) := div_nn (natR0 _) (natRp hb)
  have q1 := quo_le hb hab
  have n0 := natR0 n
  have z : Bd 9 (((a : Nat) : Rat) / ((b : Nat) : Rat)) := Sz.bd (quo_sz hb (by omega) (by omega))
  refine ⟨Rat.mul_nonneg q0 n0, ?_, (z.mul (bd_nat (k := n) (by omega))).mono (by decide), z⟩
  have := Rat.mul_le_mul_of_nonneg_right q1 n0
  grind
section
variable {P : Program} {w : World} {K : PySem.W.Frag} {mg : Str → Option Value} {base : Heap}
abbrev s__law_view : Stmt := topS 72
abbrev n__law_view : List Str := ["_law_store_here", "_law_count", "_law_chances_here", "_law_x", "_law_way", "_law_here", "_law_one", "_law_two", "_law_low2", "_law_high2"]
theorem sc__law_view : FnScope n__law_view ["_law_store_here", "_law_count", "_law_chances_here"] (defScope s__law_view) := ⟨rfl, rfl, rfl, by decide +kernel, rfl, by decide +kernel, by decide +kernel⟩
def sp_lview (K : PySem.W.Frag) : Sp := fun vs H Q _ => ∃ (S : Addr) (n k b : Nat) (v : V) (q : Nat → Rat), vs = [.ref S, .int (n : Nat), v] ∧ ShV K n q v H ∧ ShOk b n q ∧ 1 ≤ n ∧ StK S k H ∧ k ≤ 70000 ∧ ∀ u L H', Drawn S (k + 20) H H' → LkV K L u H' → LkOk n L → Q u H'
theorem ok__law_view (T : Tx K mg) : FnOk P w K mg base CX0 7 (fAt mg "_law_view") (fdAt K mg "_law_view") ["_law_store_here", "_law_count", "_law_chances_here"] (sp_lview K) := by
  refine T.d__law_view.F.ok sc__law_view (fun vs H Q E h => ?_) (fun cdv A outer s H vs Q E hr h => ?_)
  · obtain ⟨S, n, k, b, v, g, rfl, _⟩ := h
    rfl
  · obtain ⟨S, n, k, b, v, g, rfl, hv, ok, n1, hS, hk, q⟩ := h
    have n5 := ok.n5
    refine ⟨_, (pss_cons (ps_par (i := 3) (j := 4) rfl sc__law_view.nd rfl rfl (by decide) rfl rfl (pa_cons (pcall (ok__law_mild T) T.d__law_mild hr (by decide) (by rfl) (pa_cons (pv 0) pa_nil)) (pa_cons (pcall (ok__law_take T) T.d__law_take hr (by decide) (by rfl) (pa_cons (pv 0) (pa_cons (pe_int) pa_nil))) pa_nil)) (by rfl))
  (pss_cons (ps_set (i := 5) sc__law_view.nd rfl (Or.inl rfl) (pcall (ok__law_seen T) T.d__law_seen hr (by decide) (by rfl) (pa_cons (pv 2) (pa_cons (pv 3) pa_nil))))
  (pss_cons (ps_if (PW.pt (pw_or (pt_cmpR op_eq (pv 4) (pe_int) (nomark _)) (pw_or1 (pt_cmpR op_gt (pe_ix ix_tup (pv 5) (pe_int) (fun _ _ => rfl)) (pe_op op_pow (pe_int) (pe_int)) (nomark _))))) (pss_cons (ps_par (i := 6) (j := 7) rfl sc__law_view.nd rfl rfl (by decide) rfl rfl (pa_cons (pcall (ok__law_prod T) T.d__law_prod hr (by decide) (by rfl) (pa_cons (pcall (ok__law_part T) T.d__law_part hr (by decide) (by rfl) (pa_cons (pv 0) pa_nil)) (pa_cons (pe_tup (pa_cons (pv 1) (pa_cons (pe_int) pa_nil))) pa_nil))) (pa_cons (pcall (ok__law_prod T) T.d__law_prod hr (by decide) (by rfl) (pa_cons (pcall (ok__law_part T) T.d__law_part hr (by decide) (by rfl) (pa_cons (pv 0) pa_nil)) (pa_cons (pe_tup (pa_cons (pv 1) (pa_cons (pe_int) pa_nil))) pa_nil))) pa_nil)) (by rfl))
  (pss_one (ps_ret (pe_ifExp (pt_cmpR op_le (pcall (ok__law_cmp T) T.d__law_cmp hr (by decide) (by rfl) (pa_cons (pv 6) (pa_cons (pv 7) pa_nil))) (pe_int) (nomark _)) (pe_tup (pa_cons (pv 3) (pa_cons (pv 6) (pa_cons (pv 7) pa_nil)))) (pe_tup (pa_cons (pv 3) (pa_cons (pv 7) (pa_cons (pv 6) pa_nil)))))))) pss_nil)
  (pss_cons (ps_par (i := 8) (j := 9) rfl sc__law_view.nd rfl rfl (by decide) rfl rfl (pa_cons (pv 5) (pa_cons (pv 5) pa_nil)) (by rfl))
  (pss_cons (ps_if (pt_cmpR op_gt (pv 4) (pe_int) (nomark _)) (pss_cons (ps_set (i := 8) sc__law_view.nd rfl (Or.inl rfl) (pcall (ok__law_prod T) T.d__law_prod hr (by decide) (by rfl) (pa_cons (pv 5) (pa_cons (pcall (ok__law_ratio T) T.d__law_ratio hr (by decide) (by rfl) (pa_cons (pcall (ok__law_take T) T.d__law_take hr (by decide) (by rfl) (pa_cons (pv 0) (pa_cons (pe_int) pa_nil))) (pa_cons (pe_int) pa_nil))) pa_nil))))
  (pss_cons (ps_set (i := 9) sc__law_view.nd rfl (Or.inl rfl) (pcall (ok__law_plus T) T.d__law_plus hr (by decide) (by rfl) (pa_cons (pv 5) (pa_cons (pcall (ok__law_prod T) T.d__law_prod hr (by decide) (by rfl) (pa_cons (pcall (ok__law_less T) T.d__law_less hr (by decide) (by rfl) (pa_cons (pe_tup (pa_cons (pv 1) (pa_cons (pe_int) pa_nil))) (pa_cons (pv 5) pa_nil))) (pa_cons (pcall (ok__law_ratio T) T.d__law_ratio hr (by decide) (by rfl) (pa_cons (pcall (ok__law_take T) T.d__law_take hr (by decide) (by rfl) (pa_cons (pv 0) (pa_cons (pe_int) pa_nil))) (pa_cons (pe_int) pa_nil))) pa_nil))) pa_nil))))
  (pss_one (ps_set (i := 8) sc__law_view.nd rfl (Or.inl rfl) (pe_ifExp (pt_cmpR op_lt (pcall (ok__law_cmp T) T.d__law_cmp hr (by decide) (by rfl) (pa_cons (pv 8) (pa_cons (pv 5) pa_nil))) (pe_int) (nomark _)) (pv 8) (pv 5)))))) pss_nil)
  (pss_one (ps_ret (pe_tup (pa_cons (pv 3) (pa_cons (pv 8) (pa_cons (pv 9) pa_nil))))))))))), ?_⟩
    refine ⟨_, rfl, S, k, rfl, hS, by omega, fun xv x H1 d1 hx x0 bx => ⟨_, rfl, S, 6, k + 4, rfl, d1.st, by decide, by decide, by omega, fun way H2 hway d2 => ⟨_, _, rfl, ?_⟩⟩⟩
    have hv2 := d2.stay d1.st shv_stayD (d1.stay hS shv_stayD hv)
    have hx2 := d2.stay d1.st fr_stayD hx
    refine ⟨_, rfl, _, rfl, v, xv, n, b, g, x, rfl, hv2, ok, hx2, x0, bx, fun hv H3 e3 hh => ?_⟩
    have hx3 := hx2.mono e3
    have d3 : Drawn S (k + 5) H H3 := (d1.trans d2).same e3
    obtain ⟨s0, s1⟩ := seen_span ok.ch x0
    have sb := ok.sn x0 bx
    obtain ⟨h0, rfl, hT⟩ := hh
    generalize hs : seen n g x = r at hT s0 s1 sb
    dsimp only [gName, tSeq]
    refine ifs_join (fun H' => H' = H3) (fun H' => H' = H3 ∧ r.den ≤ 10 ^ 12) ?_ ?_ ?_
    · rintro _ rfl
      refine ⟨_, rfl, S, k + 5, rfl, d3.st, by omega, fun pv a b0 H4 d4 hp ab b1 b3 => ?_⟩
      obtain ⟨o0, o1, ob, o9⟩ := part_n ab b1 b3 n5
      refine ⟨_, rfl, by show 2 ≤ sizeLine; decide, fun p hp1 => ?_⟩
      have ep := same_new (o := .tup [.int ((n : Nat) : Int), .int 1]) hp1
      refine ⟨pv, .ref p, _, _, 9, 11, rfl, hp.mono ep, fr_nat (SqT.of upd_same), o9, bd_nat (by omega), by decide, trivial, fun ov H5 e5 ho => ?_⟩
      have d5 := (d4.same ep).same e5
      refine ⟨_, rfl, S, k + 5 + 3, rfl, d5.st, by omega, fun pv2 a2 b2 H6 d6 hp6 ab2 b02 b32 => ?_⟩
      obtain ⟨t0, t1, tb, t9⟩ := part_n ab2 b02 b32 n5
      refine ⟨_, rfl, by show 2 ≤ sizeLine; decide, fun p2 hp2 => ?_⟩
      have ep2 := same_new (o := .tup [.int ((n : Nat) : Int), .int 1]) hp2
      refine ⟨pv2, .ref p2, _, _, 9, 11, rfl, hp6.mono ep2, fr_nat (SqT.of upd_same), t9, bd_nat (by omega), by decide, trivial, fun tv H7 e7 ht => ?_⟩
      have d7 := (d6.same ep2).same e7
      have dd := (d3.trans (d5.trans d7)).mono (show k + 5 + 3 + 3 ≤ k + 20 by omega)
      have hx7 := d7.stay d5.st fr_stayD (d5.stay d3.st fr_stayD hx3)
      have ho7 := d7.stay d5.st fr_stayD ho
      refine ⟨_, _, rfl, ?_⟩
      refine ⟨_, rfl, _, rfl, ov, tv, _, _, 45, 45, rfl, ho7, ht, ob, tb, by decide, _, _, rfl, rfl, _, rfl, ?_⟩
      have rest : ∀ {lo hi : Rat} {lv hv : V} (p : Addr), H7 p = none → Fr K lo lv H7 → Fr K hi hv H7 → lo ≤ hi → 0 ≤ lo → hi ≤ ((n : Nat) : Rat) → Bd 45 lo → Bd 45 hi → Q (.ref p) (upd H7 p (.tup [xv, lv, hv])) := fun {lo hi lv hv} p hp l1 l2 l3 l4 l5 l6 l7 => by
        have ep := same_new (o := .tup [xv, lv, hv]) hp
        exact q _ ⟨x, lo, hi⟩ _ (dd.same ep) ⟨p, xv, lv, hv, rfl, SqT.of upd_same, hx7.mono ep, l1.mono ep, l2.mono ep⟩ ⟨x0, l4, l3, l5, bx, l6, l7⟩
      by_cases c : cmpR (((a : Nat) : Rat) / ((b0 : Nat) : Rat) * ((n : Nat) : Rat)) (((a2 : Nat) : Rat) / ((b2 : Nat) : Rat) * ((n : Nat) : Rat)) ≤ 0
      · rw [decide_eq_true c]
        exact ⟨_, rfl, _, rfl, _, rfl, by show 3 ≤ sizeLine; decide, fun p hp => rest p hp ho7 ht (cmpR_le' c) o0 t1 ob tb⟩
      · rw [decide_eq_false c]
        exact ⟨_, rfl, _, rfl, _, rfl, by show 3 ≤ sizeLine; decide, fun p hp => rest p hp ht ho7 (by
          rcases (Rat.le_total : _ ∨ (((a : Nat) : Rat) / ((b0 : Nat) : Rat) * ((n : Nat) : Rat)) ≤ (((a2 : Nat) : Rat) / ((b2 : Nat) : Rat) * ((n : Nat) : Rat))) with h | h
          · exact h
          · exact absurd (cmpR_le h) c) t0 o1 tb ob⟩
    · rintro _ ⟨rfl, den⟩
      have hh : Fr K r (.ref h0) _ := ⟨h0, rfl, hT⟩
      refine ⟨_, rfl, _, rfl, _, _, rfl, ?_⟩
      dsimp only [gName, tSeq]
      refine st_to (fun σ1 H1 => ∃ lo hi lv hv, σ1 = [some (.ref S), some (.int (n : Nat)), some v, some xv, some (.int (way : Nat)), some (.ref h0), none, none, some lv, some hv] ∧ Drawn S (k + 7) H H1 ∧ Fr K lo lv H1 ∧ Fr K hi hv H1 ∧ Fr K x xv H1 ∧ lo ≤ hi ∧ 0 ≤ lo ∧ hi ≤ ((n : Nat) : Rat) ∧ Bd 45 lo ∧ Bd 45 hi) ?_ (fun nx' key => ?_)
      · rintro _ H1 ⟨lo, hi, lv, hv, rfl, dd, l1, l2, hx7, l3, l4, l5, l6, l7⟩
        refine ⟨_, rfl, _, rfl, _, rfl, by show 3 ≤ sizeLine; decide, fun p hp => ?_⟩
        have ep := same_new (o := .tup [xv, lv, hv]) hp
        exact q _ ⟨x, lo, hi⟩ _ ((dd.mono (by omega)).same ep) ⟨p, xv, lv, hv, rfl, SqT.of upd_same, hx7.mono ep, l1.mono ep, l2.mono ep⟩ ⟨x0, l4, l3, l5, bx, l6, l7⟩
      · refine ⟨_, rfl, _, _, rfl, rfl, _, rfl, ?_⟩
        have hb : r.den < 2 ^ 45 := Nat.lt_of_le_of_lt den (by decide)
        have r5 : r ≤ 5 := by
          have := natR n5
          have e5 : ((5 : Nat) : Rat) = 5 := rfl
          grind
        have rb : Bd 45 r := Sz.bd (low_sz s0 r5 (by have := r.den_pos; omega) (by omega) (den_eq r))
        by_cases c : (1 : Int) < ((way : Nat) : Int)
        · rw [decide_eq_true c]
          have b3 : ∀ {t : Nat}, t < 8 → Bd 3 (((t : Nat) : Rat) / ((4 : Nat) : Rat)) := fun ht => Sz.bd (quo_sz (by decide) (by decide) ht)
          refine ⟨_, rfl, _, rfl, S, 5, k + 5, rfl, d3.st, by decide, by decide, by omega, fun t1 H4 ht1 d4 => ⟨_, _, rfl, by decide, by decide, fun u1 H5 e5 hu => ?_⟩⟩
          have hu : Fr K (((t1 : Nat) : Rat) / ((4 : Nat) : Rat)) u1 H5 := hu
          have d5 := d4.same e5
          have hh5 := d5.stay d3.st fr_stayD hh
          obtain ⟨w0, wb⟩ := low_look s0 s1 n5 den (show t1 ≤ 4 by omega)
          have wb := Sz.bd wb
          refine ⟨_, _, _, _, 45, 3, rfl, hh5, hu, rb, b3 (by omega), by decide, trivial, fun lv H6 e6 hl => ?_⟩
          have d6 := d5.same e6
          have hh6 := hh5.mono e6
          dsimp only [gName, tSeq]
          refine ⟨_, rfl, _, rfl, by show 2 ≤ sizeLine; decide, fun p hp => ⟨_, rfl, ?_⟩⟩
          have ep := same_new (o := .tup [.int ((n : Nat) : Int), .int 1]) hp
          refine ⟨.ref p, .ref h0, _, _, 11, 45, rfl, fr_nat (SqT.of upd_same), hh6.mono ep, bd_nat (by omega), rb, by decide, trivial, fun gv H7 e7 hg => ?_⟩
          have d7 := (d6.same ep).same e7
          refine ⟨_, rfl, S, 4, k + 6, rfl, d7.st, by decide, by decide, by omega, fun t2 H8 ht2 d8 => ⟨_, _, rfl, by decide, by decide, fun u2 H9 e9 hu2 => ?_⟩⟩
          have hu2 : Fr K (((t2 : Nat) : Rat) / ((4 : Nat) : Rat)) u2 H9 := hu2
          have d9 := d8.same e9
          have gb := Bd.sub (bd_nat (k := n) (by omega)) rb
          refine ⟨gv, u2, _, _, 57, 3, rfl, d9.stay d7.st fr_stayD hg, hu2, gb, b3 (by omega), by decide, trivial, fun mv H10 e10 hm => ?_⟩
          have hh10 := (d9.stay d7.st fr_stayD ((hh6.mono ep).mono e7)).mono e10
          obtain ⟨z0, z1, zb⟩ := high_look s0 s1 n5 den (show t2 ≤ 4 by omega)
          have zb := Sz.bd zb
          refine ⟨.ref h0, mv, _, _, 45, 60, rfl, hh10, hm, rb, gb.mul (b3 (by omega)), by decide, trivial, fun hv2 H11 e11 hhv => ?_⟩
          have d11 := (d9.same e10).same e11
          have hl11 := d11.stay d7.st fr_stayD ((hl.mono ep).mono e7)
          have hh11 := hh10.mono e11
          have hx11 := d11.stay d7.st fr_stayD (((d5.stay d3.st fr_stayD hx3).mono e6).mono ep |>.mono e7)
          have dd := d3.trans (d7.trans d11)
          refine ⟨_, rfl, _, rfl, lv, .ref h0, _, _, 45, 45, rfl, hl11, hh11, wb, rb, by decide, _, _, rfl, rfl, _, rfl, ?_⟩
          by_cases c2 : cmpR (r * (((t1 : Nat) : Rat) / ((4 : Nat) : Rat))) r < 0
          · rw [decide_eq_true c2]
            have lt := cmpR_lt.mp c2
            exact ⟨_, rfl, key _ _ ⟨_, _, lv, hv2, rfl, dd, hl11, hhv, hx11, by grind, w0, z1, wb, zb⟩⟩
          · rw [decide_eq_false c2]
            exact ⟨_, rfl, key _ _ ⟨r, _, .ref h0, hv2, rfl, dd, hh11, hhv, hx11, z0, s0, z1, rb, zb⟩⟩
        · rw [decide_eq_false c]
          exact key _ _ ⟨r, r, _, _, rfl, d3.mono (by omega), hh, hh, hx3, by grind, s0, s1, rb, rb⟩
    · intro G ga gb
      refine ⟨_, rfl, rfl, _, rfl, ?_⟩
      by_cases c : V.int ((way : Nat) : Int) = V.int 0
      · rw [decide_eq_true c]
        exact ga _ rfl
      · rw [decide_eq_false c]
        refine ⟨_, rfl, _, _, 1, _, rfl, rfl, hT, at1, _, _, rfl, rfl, ⟨by decide, by decide, by decide⟩, _, _, rfl, rfl, _, rfl, ?_⟩
        by_cases c2 : (10 : Int) ^ (12 : Int).toNat < (r.den : Int)
        · rw [decide_eq_true c2]
          exact ga _ rfl
        · rw [decide_eq_false c2]
          refine gb _ ⟨rfl, ?_⟩
          have e : (10 : Int) ^ (12 : Int).toNat = 10 ^ 12 := rfl
          rw [e] at c2
          omega
end
end K86
set_option Elab.async false
set_option linter.all false
set_option maxRecDepth 100000
set_option maxHeartbeats 4000000
set_option exponentiation.threshold 20000
/-! Looks that are drawn. -/
namespace K86
open PySem PySem.Spec PyProof.Rows L2 KM
def LookV (K : PySem.W.Frag) (n : Nat) : VP := fun v H => ∃ l, LkV K l v H ∧ LkOk n l
theorem lookv_stay {K : PySem.W.Frag} {n : Nat} : Stay (LookV K n) := fun _ _ _ e ⟨l, h1, h2⟩ => ⟨l, lkv_stay _ _ _ e h1, h2⟩
theorem lookv_stayD {K : PySem.W.Frag} {n : Nat} {D : Addr} : StayD D (LookV K n) := fun _ _ _ _ hD e ⟨l, h1, h2⟩ => ⟨l, lkv_stayD _ _ _ _ hD e h1, h2⟩
/-- looks in a list -/
structure Looks (K : PySem.W.Frag) (n : Nat) (F : Addr) (vs : List V) (H : Hp) : Prop where
  at_ : H F = some (.lst vs)
  all : ∀ v, v ∈ vs → LookV K n v H
theorem Looks.drawn {K : PySem.W.Frag} {n k j : Nat} {S F : Addr} {vs : List V} {H H' : Hp} (h : Looks K n F vs H) (d : Drawn S k H H') (hS : StK S j H) (ne : F ≠ S) : Looks K n F vs H' :=
  ⟨d.kp F _ ne h.at_, fun v hv => d.stay hS lookv_stayD (h.all v hv)⟩
theorem Looks.same {K : PySem.W.Frag} {n : Nat} {F : Addr} {vs : List V} {H H' : Hp} (h : Looks K n F vs H) (e : Same H H') : Looks K n F vs H' :=
  ⟨e _ _ h.at_, fun v hv => lookv_stay _ _ _ e (h.all v hv)⟩
theorem Looks.app {K : PySem.W.Frag} {n : Nat} {F : Addr} {vs : List V} {H : Hp} {v : V} (h : Looks K n F vs H) (hv : LookV K n v H) : Looks K n F (vs ++ [v]) (upd H F (.lst (vs ++ [v]))) :=
  ⟨upd_same, fun u hu => lookv_stayD _ _ _ _ h.at_ keep_upd (by
    rcases List.mem_append.mp hu with z | z
    · exact h.all u z
    · rw [List.mem_singleton.mp z]; exact hv)⟩
/-- looks in a tuple, named one by one -/
theorem looks_of {K : PySem.W.Frag} {n : Nat} {a : Addr} {vs : List V} {H : Hp} (hT : SqT K H a vs) (h : ∀ v, v ∈ vs → LookV K n v H) : ∃ L, LksV K vs.length L (.ref a) H ∧ ∀ i, i < vs.length → LkOk n (L i) := by
  have : ∀ i, ∃ l, i < vs.length → (∃ v, vs[i]? = some v ∧ LkV K l v H) ∧ LkOk n l := fun i => by
    by_cases hi : i < vs.length
    · obtain ⟨l, h1, h2⟩ := h vs[i] (List.getElem_mem hi)
      exact ⟨l, fun _ => ⟨⟨vs[i], List.getElem?_eq_getElem hi, h1⟩, h2⟩⟩
    · exact ⟨⟨0, 0, 0⟩, fun z => absurd z hi⟩
  obtain ⟨L, hL⟩ := Classical.axiomOfChoice this
  exact ⟨L, ⟨a, rfl, vs, hT, rfl, fun i hi => (hL i hi).1⟩, fun i hi => (hL i hi).2⟩
section
variable {P : Program} {w : World} {K : PySem.W.Frag} {mg : Str → Option Value} {base : Heap}
abbrev s__law_views : Stmt := topS 73
abbrev n__law_views : List Str := ["_law_store_here", "_law_count", "_law_most2", "_law_chances_here", "_law_found", "_law_other2", "_law_lap"]
theorem sc__law_views : FnScope n__law_views ["_law_store_here", "_law_count", "_law_most2"] (defScope s__law_views) := ⟨rfl, rfl, rfl, by decide +kernel, rfl, by decide +kernel, by decide +kernel⟩
def ViewsV (K : PySem.W.Frag) (n l : Nat) (L : Nat → Lk) (q : Nat → Rat) : VP := fun v H => ∃ p lv cv, v = .ref p ∧ SqT K H p [lv, cv] ∧ LksV K l L lv H ∧ ShV K n q cv H
def sp_lviews (K : PySem.W.Frag) : Sp := fun vs H Q _ => ∃ (S : Addr) (n k : Nat), vs = [.ref S, .int (n : Nat), .int 3] ∧ StK S k H ∧ 1 ≤ n ∧ n ≤ 5 ∧ k ≤ 50000 ∧ ∀ v l L q H', Drawn S (k + 200) H H' → ViewsV K n l L q v H' → 1 ≤ l → l ≤ 3 → (∀ i, i < l → LkOk n (L i)) → ShOk 6 n q → Q v H'
theorem ok__law_views (T : Tx K mg) : FnOk P w K mg base CX0 8 (fAt mg "_law_views") (fdAt K mg "_law_views") ["_law_store_here", "_law_count", "_law_most2"] (sp_lviews K) := by
  refine T.d__law_views.F.ok sc__law_views (fun vs H Q E h => ?_) (fun cdv A outer s H vs Q E hr h => ?_)
  · obtain ⟨S, n, k, rfl, _⟩ := h
    rfl
  · obtain ⟨S, n, k, rfl, hS, n1, n5, hk, q⟩ := h
    refine ⟨_, (pss_cons (ps_par (i := 3) (j := 4) rfl sc__law_views.nd rfl rfl (by decide) rfl rfl (pa_cons (pcall (ok__law_chances T) T.d__law_chances hr (by decide) (by rfl) (pa_cons (pv 0) (pa_cons (pv 1) pa_nil))) (pa_cons (pe_lst pa_nil) pa_nil)) (by rfl))
  (pss_cons (ps_set (i := 5) sc__law_views.nd rfl (Or.inl rfl) (pe_ifExp (pt_cmpR op_eq (pcall (ok__law_take T) T.d__law_take hr (by decide) (by rfl) (pa_cons (pv 0) (pa_cons (pe_int) pa_nil))) (pe_int) (nomark _)) (pcall (ok__law_chances T) T.d__law_chances hr (by decide) (by rfl) (pa_cons (pv 0) (pa_cons (pv 1) pa_nil))) (pv 3)))
  (pss_cons (ps_for PassesOwn.never rfl (pi_range1 (by rfl) T.n_range (pa_cons (pe_op op_add (pe_int) (pcall (ok__law_take T) T.d__law_take hr (by decide) (by rfl) (pa_cons (pv 0) (pa_cons (pv 2) pa_nil)))) pa_nil)) (pg_name (i := 6) sc__law_views.nd rfl (Or.inl rfl)) (pss_one (ps_expr (pe_bm PySem.F.plainAttrs_list PySem.F.slot_list_append PySem.F.type_list_append mt_append (pv 4) (pa_cons (pcall (ok__law_view T) T.d__law_view hr (by decide) (by rfl) (pa_cons (pv 0) (pa_cons (pv 1) (pa_cons (pe_ifExp (pt_cmpR op_lt (pv 6) (pe_int) (nomark _)) (pv 3) (pv 5)) pa_nil)))) pa_nil)))))
  (pss_cons (ps_if (PW.pt (pw_and (pt_cmpR op_lt (pe_callB call_len_seq (by rfl) T.n_len (by decide +kernel) (pa_cons (pv 4) pa_nil)) (pv 2) (nomark _)) (pw_and1 (pt_cmpR op_eq (pcall (ok__law_take T) T.d__law_take hr (by decide) (by rfl) (pa_cons (pv 0) (pa_cons (pe_int) pa_nil))) (pe_int) (nomark _))))) (pss_one (ps_expr (pe_bm PySem.F.plainAttrs_list PySem.F.slot_list_append PySem.F.type_list_append mt_append (pv 4) (pa_cons (pe_ix ix_list (pv 4) (pe_int) (fun _ _ => rfl)) pa_nil)))) pss_nil)
  (pss_one (ps_ret (pe_tup (pa_cons (pe_callTy call_tuple_of (by rfl) T.n_tuple (by decide +kernel) (pa_cons (pv 4) pa_nil)) (pa_cons (pv 3) pa_nil))))))))), ?_⟩
    refine ⟨_, rfl, _, rfl, S, n, k, rfl, hS, n5, by omega, fun cv g H1 d1 hc ok => ⟨by show 0 ≤ sizeLine; decide, fun F hF => ⟨_, _, rfl, ?_⟩⟩⟩
    have ne : F ≠ S := d1.st.ne hF
    have hFH : H F = none := by
      cases z : H F with
      | none => rfl
      | some o =>
        have := d1.kp F o ne z
        rw [hF] at this
        cases this
    have ep := same_new (o := .lst []) hF
    have d2 := d1.same ep
    have hc2 := shv_stay _ _ _ ep hc
    have k2 : Looks K n F [] (upd H1 F (.lst [])) := ⟨upd_same, fun v hv => absurd hv List.not_mem_nil⟩
    dsimp only [gName, tSeq, tAsg]
    refine ex_to (t := tIf _ _ _) (fun v H' => ∃ g2, Drawn S (k + 2 * n + 5) H H' ∧ ShV K n g cv H' ∧ ShV K n g2 v H' ∧ ShOk 6 n g2 ∧ Looks K n F [] H') ?_ (fun Q' key => ?_)
    · rintro ov H3 ⟨g2, d3, hc3, ho3, ok2, k3⟩
      refine ⟨_, rfl, _, rfl, S, 3, k + 2 * n + 5, rfl, d3.st, by decide, by decide, by omega, fun r H4 hr4 d4 => ⟨_, _, rfl, rfl, _, rfl, by omega, by omega, ?_⟩⟩
      refine for_range (lo := 0) (n := ((1 : Int) + ((r : Nat) : Int)).toNat) (fun i σ H' => Drawn S (k + 2 * n + 6 + 20 * i) H H' ∧ ShV K n g cv H' ∧ ShV K n g2 ov H' ∧ ∃ vs y, σ = [some (.ref S), some (.int (n : Nat)), some (.int 3), some cv, some (.ref F), some ov, y] ∧ vs.length = i ∧ Looks K n F vs H') ⟨d3.trans d4, d4.stay d3.st shv_stayD hc3, d4.stay d3.st shv_stayD ho3, [], none, rfl, rfl, k3.drawn d4 d3.st ne⟩ ?_ ?_
      · rintro i σ H5 hi ⟨d5, hc5, ho5, vs, y, rfl, v1, k5⟩
        refine ⟨_, rfl, .inl ⟨rfl, _, SqL.of k5.at_⟩, _, rfl, _, rfl, ?_⟩
        refine ex_to (t := tIf _ _ _) (fun v H' => H' = H5 ∧ ∃ q3, ShV K n q3 v H5 ∧ ShOk 6 n q3) ?_ (fun Q' key => ?_)
        · rintro v _ ⟨rfl, q3, hv, okv⟩
          refine ⟨S, n, k + 2 * n + 6 + 20 * i, 6, v, q3, rfl, hv, okv, n1, d5.st, by omega, fun u L6 H6 d6 hu hL => ?_⟩
          have k6 := k5.drawn d6 d5.st ne
          have d56 := d5.trans d6
          refine ⟨F, vs, u, rfl, rfl, k6.at_, by rw [v1]; exact Nat.lt_of_lt_of_le (by omega : i < 1000) (by decide), ?_⟩
          refine ⟨(d56.mono (by omega)).at hFH ne, shv_stayD _ _ _ _ k6.at_ keep_upd (d6.stay d5.st shv_stayD hc5), shv_stayD _ _ _ _ k6.at_ keep_upd (d6.stay d5.st shv_stayD ho5), vs ++ [u], some (.int (0 + (i : Int))), rfl, by rw [List.length_append, v1]; rfl, k6.app ⟨L6, hu, hL⟩⟩
        · refine ⟨_, rfl, _, _, rfl, rfl, _, rfl, ?_⟩
          by_cases c : (0 : Int) + (i : Int) < 2
          · rw [decide_eq_true c]
            exact ⟨_, rfl, key _ _ ⟨rfl, g, hc5, ok⟩⟩
          · rw [decide_eq_false c]
            exact ⟨_, rfl, key _ _ ⟨rfl, g2, ho5, ok2⟩⟩
      · rintro σ H5 ⟨d5, hc5, ho5, vs, y, rfl, v1, k5⟩
        have v1' : 1 ≤ vs.length ∧ vs.length ≤ 3 := by omega
        have d5 := d5.mono (show k + 2 * n + 6 + 20 * (((1 : Int) + ((r : Nat) : Int)).toNat) ≤ k + 100 by omega)
        dsimp only [gName, tSeq]
        refine st_to (t := tIfS _ _ _) (fun σ1 H1 => ∃ vs, σ1 = [some (.ref S), some (.int (n : Nat)), some (.int 3), some cv, some (.ref F), some ov, y] ∧ Drawn S (k + 101) H H1 ∧ ShV K n g cv H1 ∧ Looks K n F vs H1 ∧ 1 ≤ vs.length ∧ vs.length ≤ 3) ?_ (fun nx' key => ?_)
        · rintro _ H6 ⟨vs, rfl, d6, hc6, k6, v1, v3⟩
          refine ⟨_, rfl, F, vs, rfl, .inl ⟨SqL.of k6.at_, fun l hl => ?_⟩⟩
          have e1 := same_new (o := .tup vs) hl
          refine ⟨_, rfl, by show 2 ≤ sizeLine; decide, fun p hp => ?_⟩
          have e2 := same_new (o := .tup [.ref l, cv]) hp
          have e12 := e1.trans e2
          obtain ⟨L, hL, okL⟩ := looks_of (a := l) (sqt_mono e2 (SqT.of upd_same)) fun v hv => lookv_stay _ _ _ e12 (k6.all v hv)
          exact q _ vs.length L g _ ((d6.mono (by omega)).same e12) ⟨p, _, _, rfl, SqT.of upd_same, hL, shv_stay _ _ _ e12 hc6⟩ v1 v3 okL ok
        · refine ⟨_, rfl, F, vs, rfl, .inl (SqL.of k5.at_), _, rfl, _, _, rfl, rfl, _, rfl, ?_⟩
          by_cases c : ((vs.length : Nat) : Int) < 3
          · rw [decide_eq_true c]
            refine ⟨_, rfl, S, 6, k + 100, rfl, d5.st, by decide, by decide, by omega, fun r2 H6 hr6 d6 => ⟨rfl, _, rfl, ?_⟩⟩
            have d56 := d5.trans d6
            have hc6 := d6.stay d5.st shv_stayD hc5
            have k6 := k5.drawn d6 d5.st ne
            by_cases c2 : V.int ((r2 : Nat) : Int) = V.int 0
            · rw [decide_eq_true c2]
              have e0 : vs[0]? = some vs[0] := List.getElem?_eq_getElem (by omega)
              refine ⟨_, rfl, .inl ⟨rfl, _, SqL.of k6.at_⟩, _, rfl, _, _, 0, vs[0], rfl, rfl, SqL.of k6.at_, atI_nat (j := 0) e0, ?_⟩
              refine ⟨F, vs, vs[0], rfl, rfl, k6.at_, by exact Nat.lt_of_lt_of_le (by omega : vs.length < 1000) (by decide), ?_⟩
              refine key _ _ ⟨vs ++ [vs[0]], rfl, (d56.mono (by omega)).at hFH ne, shv_stayD _ _ _ _ k6.at_ keep_upd hc6, k6.app (k6.all _ (List.getElem_mem _)), by rw [List.length_append]; omega, by rw [List.length_append]; show vs.length + 1 ≤ 3; omega⟩
            · rw [decide_eq_false c2]
              exact key _ _ ⟨vs, rfl, d56.mono (by omega), hc6, k6, v1'.1, v1'.2⟩
          · rw [decide_eq_false c]
            exact key _ _ ⟨vs, rfl, d5.mono (by omega), hc5, k5, v1'.1, v1'.2⟩
    · refine ⟨_, rfl, S, 3, k + n + 2, rfl, d2.st, by decide, by decide, by omega, fun r H3 hr3 d3 => ⟨rfl, _, rfl, ?_⟩⟩
      have d23 := d2.trans d3
      have hc3 := d3.stay d2.st shv_stayD hc2
      have k3 := k2.drawn d3 d2.st ne
      by_cases c : V.int ((r : Nat) : Int) = V.int 0
      · rw [decide_eq_true c]
        refine ⟨_, rfl, _, rfl, S, n, k + n + 3, rfl, d23.st, n5, by omega, fun ov g2 H4 d4 ho ok2 => ?_⟩
        exact key _ _ ⟨g2, (d23.trans d4).mono (by omega), d4.stay d23.st shv_stayD hc3, ho, ok2, k3.drawn d4 d23.st ne⟩
      · rw [decide_eq_false c]
        exact ⟨_, rfl, key _ _ ⟨g, d23.mono (by omega), hc3, hc3, ok, k3⟩⟩
end
end K86
set_option Elab.async false
set_option linter.all false
set_option maxRecDepth 100000
set_option maxHeartbeats 4000000
set_option exponentiation.threshold 20000
/-! What the law asks of a view, of shares. -/
namespace K86
open PySem PySem.Spec PyProof.Rows L2 KM
theorem all_bls {n : Nat} {us : List V} (h : us.length = n) (h3 : ∀ i, i < n → ∃ v, us[i]? = some v ∧ v = V.bl true) : us = (List.replicate n true).map V.bl ∧ (List.replicate n true).all id = true := by
  refine ⟨List.ext_getElem? fun i => ?_, ?_⟩
  · by_cases hi : i < n
    · obtain ⟨u, h1, rfl⟩ := h3 i hi
      rw [h1, List.getElem?_map, List.getElem?_replicate, if_pos hi]
      rfl
    · rw [List.getElem?_eq_none (by omega), List.getElem?_eq_none (by rw [List.length_map, List.length_replicate]; omega)]
  · rw [List.all_eq_true]
    intro x hx
    exact (List.mem_replicate.mp hx).2
section
variable {P : Program} {w : World} {K : PySem.W.Frag} {mg : Str → Option Value} {base : Heap}
abbrev s__law_is_kept : Stmt := topS 74
abbrev n__law_is_kept : List Str := ["_law_view_here", "_law_chances_here", "_law_here"]
theorem sc__law_is_kept : FnScope n__law_is_kept ["_law_view_here", "_law_chances_here"] (defScope s__law_is_kept) := ⟨rfl, rfl, rfl, by decide +kernel, rfl, by decide +kernel, by decide +kernel⟩
/-- what a look asks of shares -/
def Kept (n : Nat) (l : Lk) (q : Nat → Rat) : Prop := l.lo ≤ seen n q l.x ∧ seen n q l.x ≤ l.hi
instance {n : Nat} {l : Lk} {q : Nat → Rat} : Decidable (Kept n l q) := by unfold Kept; infer_instance
def sp_kept (K : PySem.W.Frag) : Sp := fun vs H Q _ => ∃ (v c : V) (n b : Nat) (l : Lk) (q : Nat → Rat), vs = [v, c] ∧ LkV K l v H ∧ LkOk n l ∧ ShV K n q c H ∧ ShOk b n q ∧ ∀ H', Same H H' → Q (.bl (decide (Kept n l q))) H'
theorem ok__law_is_kept (T : Tx K mg) : FnOk P w K mg base CX0 7 (fAt mg "_law_is_kept") (fdAt K mg "_law_is_kept") ["_law_view_here", "_law_chances_here"] (sp_kept K) := by
  refine T.d__law_is_kept.F.ok sc__law_is_kept (fun vs H Q E h => ?_) (fun cdv A outer s H vs Q E hr h => ?_)
  · obtain ⟨v, c, n, b, l, q, rfl, _⟩ := h
    rfl
  · obtain ⟨v, c, n, b, l, g, rfl, ⟨a, v0, v1, v2, rfl, hT, h0, h1, h2⟩, lo, hc, ok, q⟩ := h
    refine ⟨_, (pss_cons (ps_set (i := 2) sc__law_is_kept.nd rfl (Or.inl rfl) (pcall (ok__law_seen T) T.d__law_seen hr (by decide) (by rfl) (pa_cons (pv 1) (pa_cons (pe_ix ix_tup (pv 0) (pe_int) (fun _ _ => rfl)) pa_nil))))
  (pss_one (ps_ret (pe_and (pe_cmpR op_le (pcall (ok__law_cmp T) T.d__law_cmp hr (by decide) (by rfl) (pa_cons (pe_ix ix_tup (pv 0) (pe_int) (fun _ _ => rfl)) (pa_cons (pv 2) pa_nil))) (pe_int) (nomark _)) (pe_one (pe_cmpR op_le (pcall (ok__law_cmp T) T.d__law_cmp hr (by decide) (by rfl) (pa_cons (pv 2) (pa_cons (pe_ix ix_tup (pv 0) (pe_int) (fun _ _ => rfl)) pa_nil))) (pe_int) (nomark _))))))), ?_⟩
    refine ⟨_, rfl, _, rfl, _, _, 0, _, rfl, rfl, hT, at0, c, v0, n, b, g, l.x, rfl, hc, ok, h0, lo.pos, lo.bx, fun sv H1 e1 hs => ?_⟩
    have sb := ok.sn lo.pos lo.bx
    refine ⟨_, rfl, _, _, 1, _, rfl, rfl, sqt_mono e1 hT, at1, _, rfl, v1, sv, _, _, 45, 1089, rfl, h1.mono e1, hs, lo.bl, sb, by decide, _, _, rfl, rfl, ?_⟩
    refine ⟨_, rfl, ?_⟩
    by_cases c1 : cmpR l.lo (seen n g l.x) ≤ 0
    · rw [decide_eq_true c1]
      refine ⟨_, rfl, _, rfl, _, _, 2, _, rfl, rfl, sqt_mono e1 hT, at2, sv, v2, _, _, 1089, 45, rfl, hs, h2.mono e1, sb, lo.bh, by decide, _, _, rfl, rfl, ?_⟩
      have e : decide (cmpR (seen n g l.x) l.hi ≤ 0) = decide (Kept n l g) := by
        refine decide_eq_decide.mpr ⟨fun h => ⟨cmpR_le' c1, cmpR_le' h⟩, fun h => cmpR_le h.2⟩
      have := q H1 e1
      rw [← e] at this
      exact this
    · rw [decide_eq_false c1]
      have e : decide (Kept n l g) = false := decide_eq_false fun h => c1 (cmpR_le h.1)
      have := q H1 e1
      rw [e] at this
      exact this
abbrev s__law_is_whole : Stmt := topS 75
abbrev n__law_is_whole : List Str := ["_law_each"]
theorem sc__law_is_whole : FnScope n__law_is_whole ["_law_each"] (defScope s__law_is_whole) := ⟨rfl, rfl, rfl, by decide +kernel, rfl, by decide +kernel, by decide +kernel⟩
theorem ok__law_is_whole (T : Tx K mg) : FnOk P w K mg base CX0 1 (fAt mg "_law_is_whole") (fdAt K mg "_law_is_whole") ["_law_each"] (sp_whole K) := by
  refine T.d__law_is_whole.F.ok sc__law_is_whole (fun vs H Q E h => ?_) (fun cdv A outer s H vs Q E hr h => ?_)
  · obtain ⟨n, rfl, _⟩ := h
    rfl
  · obtain ⟨n, rfl, q⟩ := h
    refine ⟨_, (pss_one (ps_ret (pe_and (pe_callB call_isi (by rfl) T.n_isinstance (by decide +kernel) (pa_cons (pv 0) (pa_cons (pe_bltn (v := .ty "int") (by rfl) T.n_int (by decide +kernel) rfl) pa_nil))) (pe_one (pe_not (pe_callB call_isi (by rfl) T.n_isinstance (by decide +kernel) (pa_cons (pv 0) (pa_cons (pe_bltn (v := .ty "bool") (by rfl) T.n_bool (by decide +kernel) rfl) pa_nil)))))))), ?_⟩
    refine ⟨_, rfl, _, _, _, _, true, rfl, .ty "int", .base (.int n), kit_ty (by decide +kernel), true, rfl, ?_⟩
    exact ⟨_, rfl, _, _, _, _, false, rfl, .ty "bool", .base (.int n), kit_ty (by decide +kernel), false, rfl, q⟩
abbrev s__law_are_parts : Stmt := topS 76
abbrev n__law_are_parts : List Str := ["_law_some", "_law_count", "_law_each"]
theorem sc__law_are_parts : FnScope n__law_are_parts ["_law_some", "_law_count"] (defScope s__law_are_parts) := ⟨rfl, rfl, rfl, by decide +kernel, rfl, by decide +kernel, by decide +kernel⟩
/-- so many fractions from 0 on -/
def FrsV (K : PySem.W.Frag) (m : Nat) : VP := fun v H => ∃ (a : Addr) (g : Nat → Rat), v = .ref a ∧ ArT K m (fun i => Fr K (g i)) a H ∧ ∀ i, i < m → 0 ≤ g i
def sp_parts (K : PySem.W.Frag) : Sp := fun vs H Q _ => ∃ (v : V) (m : Nat), vs = [v, .int (m : Nat)] ∧ FrsV K m v H ∧ Q (.bl true) H
theorem ok__law_are_parts (T : Tx K mg) : FnOk P w K mg base CX0 2 (fAt mg "_law_are_parts") (fdAt K mg "_law_are_parts") ["_law_some", "_law_count"] (sp_parts K) := by
  refine T.d__law_are_parts.F.ok sc__law_are_parts (fun vs H Q E h => ?_) (fun cdv A outer s H vs Q E hr h => ?_)
  · obtain ⟨v, m, rfl, _⟩ := h
    rfl
  · obtain ⟨v, m, rfl, ⟨a, g, rfl, ⟨xs, a1, a2, a3⟩, g0⟩, q⟩ := h
    refine ⟨_, (pss_cons (ps_if (PW.pt (pw_or (pt_not (pt_val (pe_callB call_isi (by rfl) T.n_isinstance (by decide +kernel) (pa_cons (pv 0) (pa_cons (pe_bltn (v := .ty "tuple") (by rfl) T.n_tuple (by decide +kernel) rfl) pa_nil))))) (pw_or1 (pt_cmpR op_ne (pe_callB call_len_seq (by rfl) T.n_len (by decide +kernel) (pa_cons (pv 0) pa_nil)) (pv 1) (nomark _))))) (pss_one (ps_ret (pe_bl))) pss_nil)
  (pss_cons (ps_for PassesOwn.never rfl (pi_tup (pv 0)) (pg_name (i := 2) sc__law_are_parts.nd rfl (Or.inl rfl)) (pss_cons (ps_if (PW.pt (pw_or (pt_not (pt_val (pe_callB call_isi (by rfl) T.n_isinstance (by decide +kernel) (pa_cons (pv 2) (pa_cons (pe_bltn (v := .ty "tuple") (by rfl) T.n_tuple (by decide +kernel) rfl) pa_nil))))) (pw_or (pt_cmpR op_ne (pe_callB call_len_seq (by rfl) T.n_len (by decide +kernel) (pa_cons (pv 2) pa_nil)) (pe_int) (nomark _)) (pw_or (pt_not (pt_val (pcall (ok__law_is_whole T) T.d__law_is_whole hr (by decide) (by rfl) (pa_cons (pe_ix ix_tup (pv 2) (pe_int) (fun _ _ => rfl)) pa_nil)))) (pw_or1 (pt_not (pt_val (pcall (ok__law_is_whole T) T.d__law_is_whole hr (by decide) (by rfl) (pa_cons (pe_ix ix_tup (pv 2) (pe_int) (fun _ _ => rfl)) pa_nil))))))))) (pss_one (ps_ret (pe_bl))) pss_nil)
  (pss_one (ps_if (PW.pt (pw_or (pt_cmpR op_le (pe_ix ix_tup (pv 2) (pe_int) (fun _ _ => rfl)) (pe_int) (nomark _)) (pw_or (pt_cmpR op_lt (pe_ix ix_tup (pv 2) (pe_int) (fun _ _ => rfl)) (pe_int) (nomark _)) (pw_or1 (pt_cmpR op_ne (pcall (ok__law_gcd T) T.d__law_gcd hr (by decide) (by rfl) (pa_cons (pe_ix ix_tup (pv 2) (pe_int) (fun _ _ => rfl)) (pa_cons (pe_ix ix_tup (pv 2) (pe_int) (fun _ _ => rfl)) pa_nil))) (pe_int) (nomark _)))))) (pss_one (ps_ret (pe_bl))) pss_nil))))
  (pss_one (ps_ret (pe_bl))))), ?_⟩
    refine ⟨_, rfl, _, _, _, _, true, rfl, .ty "tuple", ty_tup a1, kit_ty (by decide +kernel), true, rfl, ?_⟩
    refine ⟨_, rfl, a, _, rfl, .inr a1, _, rfl, rfl, _, rfl, ?_⟩
    have e0 : (!decide (V.int (xs.length : Nat) = V.int ((m : Nat) : Int))) = false := by rw [a2, decide_eq_true rfl]; rfl
    rw [e0]
    refine ⟨_, rfl, a, rfl, ⟨_, a1⟩, for_tup (K := K) (xs := xs) (fun i σ H' => H' = H ∧ ∃ y, σ = [some (.ref a), some (.int (m : Nat)), y]) ⟨rfl, none, rfl⟩ ?_ ?_ ?_⟩
    · rintro i σ H' _ ⟨rfl, _⟩
      exact a1
    · rintro i x σ H' hx ⟨rfl, y, rfl⟩
      have hi : i < m := by
        have := (List.getElem?_eq_some_iff.mp hx).1
        omega
      obtain ⟨x', hx', a0, rfl, hT⟩ := a3 i hi
      obtain rfl : x = .ref a0 := Option.some.inj (hx.symm.trans hx')
      refine ⟨_, rfl, _, _, _, _, true, rfl, .ty "tuple", ty_tup hT, kit_ty (by decide +kernel), true, rfl, ?_⟩
      refine ⟨_, rfl, a0, _, rfl, .inr hT, rfl, _, rfl, ?_⟩
      have e2 : (!decide (V.int (([V.int (g i).num, V.int (((g i).den : Nat) : Int)] : List V).length : Nat) = V.int 2)) = false := by rw [decide_eq_true (show V.int (([V.int (g i).num, V.int (((g i).den : Nat) : Int)] : List V).length : Nat) = V.int 2 from rfl)]; rfl
      rw [e2]
      refine ⟨_, rfl, _, _, 0, _, rfl, rfl, hT, at0, _, rfl, _, rfl, ?_⟩
      refine ⟨_, rfl, _, _, 1, _, rfl, rfl, hT, at1, _, rfl, _, rfl, ?_⟩
      refine ⟨_, rfl, _, _, 1, _, rfl, rfl, hT, at1, _, _, rfl, rfl, _, rfl, ?_⟩
      have dp := (g i).den_pos
      rw [decide_eq_false (show ¬ (((g i).den : Nat) : Int) ≤ 0 by omega)]
      refine ⟨_, rfl, _, _, 0, _, rfl, rfl, hT, at0, _, _, rfl, rfl, _, rfl, ?_⟩
      have np := Rat.num_nonneg.mpr (g0 i hi)
      rw [decide_eq_false (show ¬ (g i).num < 0 by omega)]
      refine ⟨_, rfl, _, _, 0, _, rfl, rfl, hT, at0, _, rfl, _, _, 1, _, rfl, rfl, hT, at1, _, _, rfl, rfl, _, rfl, ?_⟩
      have e3 : Nat.gcd (g i).num.natAbs (((g i).den : Nat) : Int).natAbs = 1 := by rw [Int.natAbs_natCast]; exact (g i).reduced
      have e4 : (!decide (V.int ((Nat.gcd (g i).num.natAbs (((g i).den : Nat) : Int).natAbs : Nat) : Int) = V.int 1)) = false := by rw [e3, decide_eq_true (show V.int ((1 : Nat) : Int) = V.int 1 from rfl)]; rfl
      rw [e4]
      exact ⟨rfl, some (.ref a0), rfl⟩
    · rintro σ H' ⟨rfl, y, rfl⟩
      exact q
abbrev s__law_are_fit : Stmt := topS 77
abbrev n__law_are_fit : List Str := ["_law_some", "_law_count", "_law_views2", "_law_each"]
theorem sc__law_are_fit : FnScope n__law_are_fit ["_law_some", "_law_count", "_law_views2"] (defScope s__law_are_fit) := ⟨rfl, rfl, rfl, by decide +kernel, rfl, by decide +kernel, by decide +kernel⟩
def sp_fit (K : PySem.W.Frag) : Sp := fun vs H Q _ => ∃ (c lv : V) (n l b : Nat) (L : Nat → Lk) (q : Nat → Rat), vs = [c, .int (n : Nat), lv] ∧ ShV K n q c H ∧ ShOk b n q ∧ LksV K l L lv H ∧ l ≤ 4 ∧ (∀ i, i < l → LkOk n (L i)) ∧ (∀ i, i < l → Kept n (L i) q) ∧ ∀ H', Same H H' → Q (.bl true) H'
theorem ok__law_are_fit (T : Tx K mg) : FnOk P w K mg base CX0 8 (fAt mg "_law_are_fit") (fdAt K mg "_law_are_fit") ["_law_some", "_law_count", "_law_views2"] (sp_fit K) := by
  refine T.d__law_are_fit.F.ok sc__law_are_fit (fun vs H Q E h => ?_) (fun cdv A outer s H vs Q E hr h => ?_)
  · obtain ⟨c, lv, n, l, b, L, q, rfl, _⟩ := h
    rfl
  · obtain ⟨c, lv, n, l, b, L, g, rfl, hc, ok, ⟨la, rfl, ls, l1, l2, l3⟩, l4, lok, kept, q⟩ := h
    have n5 := ok.n5
    refine ⟨_, (pss_cons (ps_if (PW.pt (pw_or (pt_not (pt_val (pcall (ok__law_are_parts T) T.d__law_are_parts hr (by decide) (by rfl) (pa_cons (pv 0) (pa_cons (pe_op op_add (pv 1) (pe_int)) pa_nil))))) (pw_or1 (pt_cmpR (op_neD hr.units) (pcall (ok__law_all T) T.d__law_all hr (by decide) (by rfl) (pa_cons (pv 0) pa_nil)) (pe_tup (pa_cons (pe_int) (pa_cons (pe_int) pa_nil))) (nomark _))))) (pss_one (ps_ret (pe_bl))) pss_nil)
  (pss_one (ps_ret (pe_callB (cr_all rfl) (by rfl) T.n_all (by decide +kernel) (pa_cons (pe_lc (own := [("_law_each", 3)]) rfl sc__law_are_fit.nd (pi_tup (pv 2)) (blkOk_by (own := [("_law_each", 3)]) (N := n__law_are_fit) (sc := defScope s__law_are_fit) (by decide +kernel)) (fun _ _ _ _ _ => pg_name (i := 3) sc__law_are_fit.nd rfl (Or.inl rfl)) (fun _ _ _ _ _ => pts_nil) (fun _ _ _ _ _ => pcall (ok__law_is_kept T) T.d__law_is_kept hr (by decide) (by rfl) (pa_cons (pv 3) (pa_cons (pv 0) pa_nil)))) pa_nil))))), ?_⟩
    obtain ⟨a, rfl, hA⟩ := id hc
    refine ⟨_, rfl, _, rfl, _, _, rfl, rfl, .ref a, n + 1, rfl, ⟨a, g, rfl, hA, fun i hi => ok.ch.nn i (by omega)⟩, _, rfl, ?_⟩
    have s2 : ∀ i, i < n + 1 → Bd 523 (sm i g) := fun i hi => (Sz.bd (Com.sum ok.cm (by omega) (by omega))).mono (by have := ok.b5; omega)
    refine ⟨_, rfl, a, n + 1, g, rfl, .inr hA, ⟨520, 523, by decide, fun i hi => ok.q (by omega), s2⟩, fun v1 H1 e1 h1 => ?_⟩
    rw [ok.ch.one] at h1
    obtain ⟨a1, rfl, hT1⟩ := h1
    refine ⟨by show 2 ≤ sizeLine; decide, fun p hp => ?_⟩
    have ep := same_new (o := .tup [.int 1, .int 1]) hp
    have e1p := e1.trans ep
    refine ⟨.tuple [.int 1, .int 1], .tuple [.int 1, .int 1], .tup (sqt_mono ep hT1) (.cons (.int 1) (.cons (.int 1) .nil)), .tup (SqT.of upd_same) (.cons (.int 1) (.cons (.int 1) .nil)), rfl, rfl, _, rfl, ?_⟩
    have e0 : (!PyData.eqv (.tuple [.int 1, .int 1]) (.tuple [.int 1, .int 1])) = false := by decide
    rw [e0]
    have l1' := sqt_mono e1p l1
    refine ⟨_, rfl, la, rfl, ⟨_, l1'⟩, fun D hD => lc_all (walk_tup (K := K) (a := la) (xs := ls)) (by omega) hD (fun _ v _ => v = .bl true) (fun _ _ _ _ _ _ h => h) (fun _ _ _ _ _ _ _ _ h => h) (fun H' e => sqt_mono e l1') ?_ ?_⟩
    · rintro k z H3 H4 Rk hk e3 ⟨acc, hacc⟩ ⟨rfl, hz⟩ rk
      have hk : k < l := by omega
      obtain ⟨z', hz', fz⟩ := l3 k hk
      obtain rfl : z = z' := Option.some.inj (hz.symm.trans hz')
      refine ⟨rfl, _, rfl, _, rfl, z, .ref a, n, b, L k, g, rfl, lkv_stay _ _ _ (e1p.trans e3) fz, lok k hk, shv_stay _ _ _ (e1p.trans e3) hc, ok, fun H5 e5 => ?_⟩
      rw [decide_eq_true (kept k hk)]
      exact rk _ _ e5 rfl
    · rintro H3 e3 ⟨us, u1, u2, u3⟩
      obtain ⟨hu, ha⟩ := all_bls u2 u3
      rw [hu] at u1
      refine ⟨D, _, rfl, SqL.of u1, ?_⟩
      rw [ha]
      exact q _ (e1p.trans e3)
end
end K86
set_option Elab.async false
set_option linter.all false
set_option maxRecDepth 100000
set_option maxHeartbeats 4000000
set_option exponentiation.threshold 20000
/-! The pulls of weights; a number's share. -/
namespace K86
open PySem PySem.Spec PyProof.Rows L2 KM
/-- one look's pull -/
def pl1 (L : Nat → Lk) (x : Rat) (g : Nat → Rat) (k i : Nat) : Rat := (g (2 * i) * ((k : Nat) - (L i).lo) + g (2 * i + 1) * ((L i).hi - (k : Nat))) * ((L i).x / x) ^ k
theorem pull_pl (l : Nat) (L : Nat → Lk) (x : Rat) (g : Nat → Rat) (k : Nat) : pull l L x g k = sm l (pl1 L x g k) := rfl
structure PlOk (n l : Nat) (L : Nat → Lk) (x : Rat) (g : Nat → Rat) : Prop where
  n5 : n ≤ 5
  l3 : l ≤ 3
  x0 : 0 < x
  bx : Bd 4 x
  ok : ∀ i, i < l → LkOk n (L i)
  g0 : ∀ i, i < 2 * l → 0 ≤ g i
  gb : ∀ i, i < 2 * l → Bd 1000 (g i)
section
variable {n l : Nat} {L : Nat → Lk} {x : Rat} {g : Nat → Rat}
theorem PlOk.by_ (p : PlOk n l L x g) {i : Nat} (hi : i < l) : Bd 8 ((L i).x / x) := Bd.div (p.ok i hi).bx p.bx (by have := p.x0; grind)
theorem PlOk.pw (p : PlOk n l L x g) {i k : Nat} (hi : i < l) (hk : k ≤ n) : Bd 41 (((L i).x / x) ^ k) := (bd_pow (p.by_ hi) (by decide)).mono (by have := p.n5; omega)
theorem PlOk.low (p : PlOk n l L x g) {i k : Nat} (hi : i < l) (hk : k ≤ n) : Bd 57 (((k : Nat) : Rat) - (L i).lo) := Bd.sub (bd_nat (by have := p.n5; omega)) (p.ok i hi).bl
theorem PlOk.high (p : PlOk n l L x g) {i k : Nat} (hi : i < l) (hk : k ≤ n) : Bd 57 ((L i).hi - ((k : Nat) : Rat)) := Bd.sub (p.ok i hi).bh (bd_nat (by have := p.n5; omega))
theorem PlOk.w1 (p : PlOk n l L x g) {i k : Nat} (hi : i < l) (hk : k ≤ n) : Bd 1057 (g (2 * i) * (((k : Nat) : Rat) - (L i).lo)) := (p.gb _ (by omega)).mul (p.low hi hk)
theorem PlOk.w2 (p : PlOk n l L x g) {i k : Nat} (hi : i < l) (hk : k ≤ n) : Bd 1057 (g (2 * i + 1) * ((L i).hi - ((k : Nat) : Rat))) := (p.gb _ (by omega)).mul (p.high hi hk)
theorem PlOk.one (p : PlOk n l L x g) {i k : Nat} (hi : i < l) (hk : k ≤ n) : Bd 2156 (pl1 L x g k i) := ((p.w1 hi hk).add (p.w2 hi hk)).mul (p.pw hi hk)
theorem PlOk.sum (p : PlOk n l L x g) {k : Nat} (hk : k ≤ n) : ∀ i, i ≤ l → Bd (1 + 2157 * i) (sm i (pl1 L x g k))
  | 0, _ => bd_zero (by decide)
  | i + 1, h => by
    rw [sm_succ]
    exact ((p.sum hk i (by omega)).add (p.one (by omega) hk)).mono (by omega)
theorem PlOk.all (p : PlOk n l L x g) {k : Nat} (hk : k ≤ n) : Bd 6472 (pull l L x g k) := (p.sum hk l (Nat.le_refl _)).mono (by have := p.l3; omega)
end
section
variable {P : Program} {w : World} {K : PySem.W.Frag} {mg : Str → Option Value} {base : Heap}
abbrev s__law_part_at : Stmt := topS 79
abbrev n__law_part_at : List Str := ["_law_chances_here", "_law_x", "_law_k", "_law_loads", "_law_at"]
theorem sc__law_part_at : FnScope n__law_part_at ["_law_chances_here", "_law_x", "_law_k"] (defScope s__law_part_at) := ⟨rfl, rfl, rfl, by decide +kernel, rfl, by decide +kernel, by decide +kernel⟩
def sp_partat (K : PySem.W.Frag) : Sp := fun vs H Q _ => ∃ (v xv : V) (n b k : Nat) (q : Nat → Rat) (x : Rat), vs = [v, xv, .int (k : Nat)] ∧ ShV K n q v H ∧ ShOk b n q ∧ Fr K x xv H ∧ 0 < x ∧ Bd 4 x ∧ k ≤ n ∧ Gives (Fr K (fwd n q x k)) H Q
theorem ok__law_part_at (T : Tx K mg) : FnOk P w K mg base CX0 5 (fAt mg "_law_part_at") (fdAt K mg "_law_part_at") ["_law_chances_here", "_law_x", "_law_k"] (sp_partat K) := by
  refine T.d__law_part_at.F.ok sc__law_part_at (fun vs H Q E h => ?_) (fun cdv A outer s H vs Q E hr h => ?_)
  · obtain ⟨v, xv, n, b, k, q, x, rfl, _⟩ := h
    rfl
  · obtain ⟨v, xv, n, b, m, g, x, rfl, ⟨a, rfl, xs, a1, a2, a3⟩, ok, hx, x0, bx, hm, q⟩ := h
    have n5 := ok.n5
    refine ⟨_, (pss_cons (ps_setLc (i := 3) (own := [("_law_at", 4)]) rfl sc__law_part_at.nd rfl rfl (sw_true rfl rfl rfl (by decide +kernel)) (pi_range1 (by rfl) T.n_range (pa_cons (pe_callB call_len_seq (by rfl) T.n_len (by decide +kernel) (pa_cons (pv 0) pa_nil)) pa_nil)) (blkOk_by (own := [("_law_at", 4)]) (N := n__law_part_at) (sc := defScope s__law_part_at) (by decide +kernel)) (fun _ _ _ _ _ => pg_name (i := 4) sc__law_part_at.nd rfl (Or.inl rfl)) (fun _ _ _ _ _ => pts_nil) (fun _ _ _ _ _ => pcall (ok__law_prod T) T.d__law_prod hr (by decide) (by rfl) (pa_cons (pe_ix (kx_tup (K := K) rfl) (pv 0) (pv 4) (fun _ _ => rfl)) (pa_cons (pcall (ok__law_pow T) T.d__law_pow hr (by decide) (by rfl) (pa_cons (pv 1) (pa_cons (pv 4) pa_nil))) pa_nil))))
  (pss_one (ps_ret (pcall (ok__law_per T) T.d__law_per hr (by decide) (by rfl) (pa_cons (pe_ix ix_list (pv 3) (pv 2) (fun _ _ => rfl)) (pa_cons (pcall (ok__law_all T) T.d__law_all hr (by decide) (by rfl) (pa_cons (pv 3) pa_nil)) pa_nil)))))), ?_⟩
    refine ⟨_, rfl, a, xs, rfl, .inr a1, _, rfl, by omega, by omega, fun D hD => lc_all (walk_range (lo := 0) (n := ((xs.length : Nat) : Int).toNat)) (by omega) hD (fun i => Fr K (KM.ld g x i)) (fun _ _ => fr_stay) (fun _ _ => fr_stayD) (fun _ _ => trivial) ?_ ?_⟩
    · rintro k z H1 H2 Rk hk e1 ⟨acc, hacc⟩ ⟨rfl, hz⟩ rk
      obtain rfl : z = .int ((k : Nat) : Int) := by rw [hz]; simp
      have hk : k < n + 1 := by omega
      obtain ⟨u, hu, fu⟩ := a3 k hk
      exact ⟨rfl, _, rfl, _, rfl, _, _, k, _, rfl, rfl, sqt_mono e1 a1, atI_nat hu, _, rfl, _, rfl, xv, x, k, rfl, hx.mono e1, bx.mono (by decide), by omega, fun y H3 e3 hy => ⟨u, y, _, _, 520, 4 * k + 1, rfl, fu.mono (e1.trans e3), hy, ok.q (by omega), bd_pow bx (by decide), by omega, trivial, fun y2 H4 e4 hy2 => rk _ _ (e3.trans e4) hy2⟩⟩
    · rintro H1 e1 hA
      have en : ((xs.length : Nat) : Int).toNat = n + 1 := by omega
      rw [en] at hA
      obtain ⟨ls, l1, l2, l3⟩ := id hA
      obtain ⟨u, hu, fu⟩ := l3 m (by omega)
      refine ⟨_, rfl, _, rfl, _, _, m, u, rfl, rfl, SqL.of l1, atI_nat hu, _, rfl, D, n + 1, _, rfl, .inl hA, ⟨540, 543, by decide, fun i hi => ok.l1 bx (by omega), fun i hi => ok.l2 bx (by omega)⟩, fun v2 H3 e3 h3 => ?_⟩
      exact ⟨u, v2, _, _, 540, 543, rfl, fu.mono e3, h3, ok.l1 bx hm, ok.l2 bx (Nat.le_refl _), by decide, tot_pos ok.ch x0, fun v H4 e4 hv => q _ _ (e1.trans (e3.trans e4)) hv⟩
abbrev s__law_pulls : Stmt := topS 78
abbrev n__law_pulls : List Str := ["_law_some", "_law_views2", "_law_x", "_law_count", "_law_found", "_law_k", "_law_total2", "_law_at", "_law_by", "_law_want", "_law_each"]
theorem sc__law_pulls : FnScope n__law_pulls ["_law_some", "_law_views2", "_law_x", "_law_count"] (defScope s__law_pulls) := ⟨rfl, rfl, rfl, by decide +kernel, rfl, by decide +kernel, by decide +kernel⟩
def sp_pulls (K : PySem.W.Frag) : Sp := fun vs H Q _ => ∃ (wv lv xv : V) (n l : Nat) (L : Nat → Lk) (x : Rat) (g : Nat → Rat), vs = [wv, lv, xv, .int (n : Nat)] ∧ PrsV K l g wv H ∧ LksV K l L lv H ∧ Fr K x xv H ∧ PlOk n l L x g ∧ ∀ F H', Same H H' → ArL (n + 1) (fun k => Fr K (pull l L x g k)) F H' → Q (.ref F) H'
theorem ok__law_pulls (T : Tx K mg) : FnOk P w K mg base CX0 4 (fAt mg "_law_pulls") (fdAt K mg "_law_pulls") ["_law_some", "_law_views2", "_law_x", "_law_count"] (sp_pulls K) := by
  refine T.d__law_pulls.F.ok sc__law_pulls (fun vs H Q E h => ?_) (fun cdv A outer s H vs Q E hr h => ?_)
  · obtain ⟨wv, lv, xv, n, l, L, x, g, rfl, _⟩ := h
    rfl
  · obtain ⟨wv, lv, xv, n, l, L, x, g, rfl, ⟨wa, rfl, ws, w1, w2, w3⟩, ⟨la, rfl, ls, l1, l2, l3⟩, hx, p, q⟩ := h
    have n5 := p.n5
    have p3 := p.l3
    refine ⟨_, (pss_cons (ps_if (PW.pt (pw_or (pt_not (pt_val (pe_callB call_isi (by rfl) T.n_isinstance (by decide +kernel) (pa_cons (pv 0) (pa_cons (pe_bltn (v := .ty "tuple") (by rfl) T.n_tuple (by decide +kernel) rfl) pa_nil))))) (pw_or (pt_cmpR op_ne (pe_callB call_len_seq (by rfl) T.n_len (by decide +kernel) (pa_cons (pv 0) pa_nil)) (pe_callB call_len_seq (by rfl) T.n_len (by decide +kernel) (pa_cons (pv 1) pa_nil)) (nomark _)) (pw_or1 (pt_not (pt_val (pe_callB (cr_all rfl) (by rfl) T.n_all (by decide +kernel) (pa_cons (pe_lc (own := [("_law_each", 10)]) rfl sc__law_pulls.nd (pi_tup (pv 0)) (blkOk_by (own := [("_law_each", 10)]) (N := n__law_pulls) (sc := defScope s__law_pulls) (by decide +kernel)) (fun _ _ _ _ _ => pg_name (i := 10) sc__law_pulls.nd rfl (Or.inl rfl)) (fun _ _ _ _ _ => pts_nil) (fun _ _ _ _ _ => pcall (ok__law_are_parts T) T.d__law_are_parts hr (by decide) (by rfl) (pa_cons (pv 10) (pa_cons (pe_int) pa_nil)))) pa_nil)))))))) (pss_one (ps_ret (pe_non))) pss_nil)
  (pss_cons (ps_set (i := 4) sc__law_pulls.nd rfl (Or.inl rfl) (pe_lst pa_nil))
  (pss_cons (ps_for PassesOwn.never rfl (pi_range1 (by rfl) T.n_range (pa_cons (pe_op op_add (pv 3) (pe_int)) pa_nil)) (pg_name (i := 5) sc__law_pulls.nd rfl (Or.inl rfl)) (pss_cons (ps_set (i := 6) sc__law_pulls.nd rfl (Or.inl rfl) (pe_tup (pa_cons (pe_int) (pa_cons (pe_int) pa_nil))))
  (pss_cons (ps_for PassesOwn.never rfl (pi_range1 (by rfl) T.n_range (pa_cons (pe_callB call_len_seq (by rfl) T.n_len (by decide +kernel) (pa_cons (pv 1) pa_nil)) pa_nil)) (pg_name (i := 7) sc__law_pulls.nd rfl (Or.inl rfl)) (pss_cons (ps_set (i := 8) sc__law_pulls.nd rfl (Or.inl rfl) (pcall (ok__law_pow T) T.d__law_pow hr (by decide) (by rfl) (pa_cons (pcall (ok__law_per T) T.d__law_per hr (by decide) (by rfl) (pa_cons (pe_ix ix_tup (pe_ix ix_tup (pv 1) (pv 7) (fun _ _ => rfl)) (pe_int) (fun _ _ => rfl)) (pa_cons (pv 2) pa_nil))) (pa_cons (pv 5) pa_nil))))
  (pss_cons (ps_set (i := 9) sc__law_pulls.nd rfl (Or.inl rfl) (pcall (ok__law_prod T) T.d__law_prod hr (by decide) (by rfl) (pa_cons (pe_ix ix_tup (pe_ix ix_tup (pv 0) (pv 7) (fun _ _ => rfl)) (pe_int) (fun _ _ => rfl)) (pa_cons (pcall (ok__law_less T) T.d__law_less hr (by decide) (by rfl) (pa_cons (pe_tup (pa_cons (pv 5) (pa_cons (pe_int) pa_nil))) (pa_cons (pe_ix ix_tup (pe_ix ix_tup (pv 1) (pv 7) (fun _ _ => rfl)) (pe_int) (fun _ _ => rfl)) pa_nil))) pa_nil))))
  (pss_cons (ps_set (i := 9) sc__law_pulls.nd rfl (Or.inl rfl) (pcall (ok__law_plus T) T.d__law_plus hr (by decide) (by rfl) (pa_cons (pv 9) (pa_cons (pcall (ok__law_prod T) T.d__law_prod hr (by decide) (by rfl) (pa_cons (pe_ix ix_tup (pe_ix ix_tup (pv 0) (pv 7) (fun _ _ => rfl)) (pe_int) (fun _ _ => rfl)) (pa_cons (pcall (ok__law_less T) T.d__law_less hr (by decide) (by rfl) (pa_cons (pe_ix ix_tup (pe_ix ix_tup (pv 1) (pv 7) (fun _ _ => rfl)) (pe_int) (fun _ _ => rfl)) (pa_cons (pe_tup (pa_cons (pv 5) (pa_cons (pe_int) pa_nil))) pa_nil))) pa_nil))) pa_nil))))
  (pss_one (ps_set (i := 6) sc__law_pulls.nd rfl (Or.inl rfl) (pcall (ok__law_plus T) T.d__law_plus hr (by decide) (by rfl) (pa_cons (pv 6) (pa_cons (pcall (ok__law_prod T) T.d__law_prod hr (by decide) (by rfl) (pa_cons (pv 9) (pa_cons (pv 8) pa_nil))) pa_nil)))))))))
  (pss_one (ps_expr (pe_bm PySem.F.plainAttrs_list PySem.F.slot_list_append PySem.F.type_list_append mt_append (pv 4) (pa_cons (pv 6) pa_nil)))))))
  (pss_one (ps_ret (pv 4)))))), ?_⟩
    refine ⟨_, rfl, _, _, _, _, true, rfl, .ty "tuple", ty_tup w1, kit_ty (by decide +kernel), true, rfl, ?_⟩
    refine ⟨_, rfl, wa, _, rfl, .inr w1, _, rfl, la, _, rfl, .inr l1, rfl, _, rfl, ?_⟩
    have e0 : (!decide (V.int (ws.length : Nat) = V.int (ls.length : Nat))) = false := by rw [w2, l2, decide_eq_true rfl]; rfl
    rw [e0]
    refine ⟨_, rfl, wa, rfl, ⟨_, w1⟩, fun D hD => lc_all (walk_tup (K := K) (a := wa) (xs := ws)) (by omega) hD (fun _ v _ => v = .bl true) (fun _ _ _ _ _ _ h => h) (fun _ _ _ _ _ _ _ _ h => h) (fun H' e => sqt_mono e w1) ?_ ?_⟩
    · rintro k z H3 H4 Rk hk e3 ⟨acc, hacc⟩ ⟨rfl, hz⟩ rk
      have hk : k < l := by omega
      obtain ⟨z', hz', pa, v0, v1, hpa, hT, f0, f1⟩ := w3 k hk
      obtain rfl : z = z' := Option.some.inj (hz.symm.trans hz')
      subst hpa
      refine ⟨rfl, _, rfl, .ref pa, 2, rfl, ⟨pa, fun i => if i = 0 then g (2 * k) else g (2 * k + 1), rfl, ⟨[v0, v1], sqt_mono e3 hT, rfl, fun i hi => ?_⟩, fun i hi => ?_⟩, rk _ _ (Same.refl _) rfl⟩
      · match i, hi with
        | 0, _ => exact ⟨v0, rfl, f0.mono e3⟩
        | 1, _ => exact ⟨v1, rfl, f1.mono e3⟩
      · show 0 ≤ if i = 0 then g (2 * k) else g (2 * k + 1)
        split
        · exact p.g0 _ (by omega)
        · exact p.g0 _ (by omega)
    · rintro H3 e3 ⟨us, u1, u2, u3⟩
      obtain ⟨hu, ha⟩ := all_bls u2 u3
      rw [hu] at u1
      refine ⟨D, _, rfl, SqL.of u1, ?_⟩
      rw [ha]
      refine ⟨_, rfl, ?_⟩
      refine ⟨by show 0 ≤ sizeLine; decide, fun F hF => ?_⟩
      have hFH := free_back e3 hF
      refine ⟨_, rfl, _, _, rfl, rfl, _, rfl, by omega, by omega, for_range (lo := 0) (n := (((n : Nat) : Int) + 1).toNat) (fun i σ H' => Same H H' ∧ ArL i (fun k => Fr K (pull l L x g k)) F H' ∧ ∃ y5 y6 y7 y8 y9, σ = [some (.ref wa), some (.ref la), some xv, some (.int (n : Nat)), some (.ref F), y5, y6, y7, y8, y9, none]) ⟨e3.trans (same_new hF), ⟨[], upd_same, rfl, fun i hi => by omega⟩, none, none, none, none, none, rfl⟩ ?_ ?_⟩
      · rintro k σ H4 hk ⟨e4, hA, y5, y6, y7, y8, y9, rfl⟩
        have hk : k ≤ n := by omega
        simp only [Int.zero_add]
        refine ⟨by show 2 ≤ sizeLine; decide, fun pz hpz => ?_⟩
        have ez := same_new (o := .tup [.int 0, .int 1]) hpz
        have e4z := e4.trans ez
        refine ⟨_, rfl, la, ls, rfl, .inr (sqt_mono e4z l1), _, rfl, by omega, by omega, for_range (lo := 0) (n := ((ls.length : Nat) : Int).toNat) (fun j σ H' => Same H4 H' ∧ ∃ tv y7 y8 y9, σ = [some (.ref wa), some (.ref la), some xv, some (.int (n : Nat)), some (.ref F), some (.int (k : Nat)), some tv, y7, y8, y9, none] ∧ Fr K (sm j (pl1 L x g k)) tv H') ⟨ez, _, y7, y8, y9, rfl, fr_zero_new (SqT.of upd_same)⟩ ?_ ?_⟩
        · rintro j σ H5 hj ⟨e5, tv, y7, y8, y9, rfl, ht⟩
          have hj : j < l := by omega
          simp only [Int.zero_add]
          have e05 := e4.trans e5
          obtain ⟨lkv, hlk, a0, v0, v1, v2, rfl, hT, f0, f1, f2⟩ := l3 j hj
          obtain ⟨pv, hpv, pa, g0, g1, rfl, hTp, h0, h1⟩ := w3 j hj
          refine ⟨_, rfl, _, rfl, _, _, j, _, rfl, rfl, sqt_mono e05 l1, atI_nat hlk, _, _, 0, _, rfl, rfl, sqt_mono e05 hT, at0, ?_⟩
          have lk := p.ok j hj
          refine ⟨_, rfl, v0, xv, _, _, 4, 4, rfl, f0.mono e05, hx.mono e05, lk.bx, p.bx, by decide, p.x0, fun b1 H6 e6 hb1 => ?_⟩
          refine ⟨_, rfl, b1, _, k, rfl, hb1, (p.by_ hj).mono (by decide), by omega, fun byv H7 e7 hby => ?_⟩
          have e07 := e05.trans (e6.trans e7)
          have e57 := e5.trans (e6.trans e7)
          refine ⟨_, rfl, _, rfl, _, _, j, _, rfl, rfl, sqt_mono e07 w1, atI_nat hpv, _, _, 0, _, rfl, rfl, sqt_mono e07 hTp, at0, ?_⟩
          refine ⟨_, rfl, by show 2 ≤ sizeLine; decide, fun p1 hp1 => ?_⟩
          have ep1 := same_new (o := .tup [.int ((k : Nat) : Int), .int 1]) hp1
          have e0p := e07.trans ep1
          refine ⟨_, rfl, _, rfl, _, _, j, _, rfl, rfl, sqt_mono e0p l1, atI_nat hlk, _, _, 1, _, rfl, rfl, sqt_mono e0p hT, at1, ?_⟩
          refine ⟨.ref p1, v1, _, _, 11, 45, rfl, fr_nat (SqT.of upd_same), f1.mono e0p, bd_nat (by omega), lk.bl, by decide, trivial, fun u1 H8 e8 hu1 => ?_⟩
          have e08 := e0p.trans e8
          refine ⟨g0, u1, _, _, 1000, 57, rfl, h0.mono e08, hu1, p.gb _ (by omega), p.low hj hk, by decide, trivial, fun wv1 H9 e9 hw1 => ?_⟩
          have e09 := e08.trans e9
          have e79 := ep1.trans (e8.trans e9)
          refine ⟨_, rfl, _, rfl, _, rfl, _, _, j, _, rfl, rfl, sqt_mono e09 w1, atI_nat hpv, _, _, 1, _, rfl, rfl, sqt_mono e09 hTp, at1, ?_⟩
          refine ⟨_, rfl, _, rfl, _, _, j, _, rfl, rfl, sqt_mono e09 l1, atI_nat hlk, _, _, 2, _, rfl, rfl, sqt_mono e09 hT, at2, ?_⟩
          refine ⟨_, rfl, by show 2 ≤ sizeLine; decide, fun p2 hp2 => ?_⟩
          have ep2 := same_new (o := .tup [.int ((k : Nat) : Int), .int 1]) hp2
          have e0q := e09.trans ep2
          refine ⟨v2, .ref p2, _, _, 45, 11, rfl, f2.mono e0q, fr_nat (SqT.of upd_same), lk.bh, bd_nat (by omega), by decide, trivial, fun u2 H10 e10 hu2 => ?_⟩
          have e010 := e0q.trans e10
          refine ⟨g1, u2, _, _, 1000, 57, rfl, h1.mono e010, hu2, p.gb _ (by omega), p.high hj hk, by decide, trivial, fun wv2 H11 e11 hw2 => ?_⟩
          have e911 := ep2.trans (e10.trans e11)
          refine ⟨wv1, wv2, _, _, 1057, 1057, rfl, hw1.mono e911, hw2, p.w1 hj hk, p.w2 hj hk, by decide, trivial, fun wv3 H12 e12 hw3 => ?_⟩
          have e712 := e79.trans (e911.trans e12)
          have e512 := (e6.trans e7).trans e712
          refine ⟨_, rfl, _, rfl, _, rfl, wv3, byv, _, _, 2115, 41, rfl, hw3, hby.mono e712, (p.w1 hj hk).add (p.w2 hj hk), p.pw hj hk, by decide, trivial, fun uv H13 e13 hu => ?_⟩
          refine ⟨tv, uv, _, _, 4315, 2156, rfl, ht.mono (e512.trans e13), hu, (p.sum hk j (by omega)).mono (by omega), p.one hj hk, by decide, trivial, fun tv2 H14 e14 ht2 => ?_⟩
          exact ⟨e5.trans (e512.trans (e13.trans e14)), tv2, some (.int (j : Nat)), some byv, some wv3, rfl, ht2⟩
        · rintro σ H5 ⟨e5, tv, y7, y8, y9, rfl, ht⟩
          have en : ((ls.length : Nat) : Int).toNat = l := by omega
          rw [en] at ht
          obtain ⟨fs, f1, f2, f3⟩ := hA
          have f1' := e5 _ _ f1
          refine ⟨_, rfl, .inl ⟨rfl, _, SqL.of f1'⟩, _, rfl, F, fs, tv, rfl, rfl, f1', by rw [f2]; exact Nat.lt_of_lt_of_le (by omega : k < 1000) (by decide), ?_⟩
          refine ⟨same_mut (e4.trans e5) hFH, arl_app f2 f3 upd_same (fr_stayD _ _ _ _ f1' keep_upd ht) (fun i hi u hu => fr_stayD _ _ _ _ f1' keep_upd (hu.mono e5)), some (.int (k : Nat)), some tv, y7, y8, y9, rfl⟩
      · rintro σ H4 ⟨e4, hA, y5, y6, y7, y8, y9, rfl⟩
        have en : (((n : Nat) : Int) + 1).toNat = n + 1 := by omega
        rw [en] at hA
        exact ⟨_, rfl, q F _ e4 hA⟩
end
end K86
set_option Elab.async false
set_option linter.all false
set_option maxRecDepth 100000
set_option maxHeartbeats 4000000
set_option exponentiation.threshold 20000
/-! Values as data, and that their text is short. -/
namespace K86
open PySem PySem.Spec PyProof.Rows L2 KM
theorem dpAll_of {K : PySem.W.Frag} {H : Hp} : ∀ {xs : List V} {ds : List PyData}, xs.length = ds.length → (∀ i, i < xs.length → ∃ v d, xs[i]? = some v ∧ ds[i]? = some d ∧ Dp K H v d) → DpAll K H xs ds
  | [], [], _, _ => .nil
  | x :: xs, d :: ds, h, f => by
    obtain ⟨v, e, h1, h2, h3⟩ := f 0 (by simp)
    simp only [List.getElem?_cons_zero, Option.some.injEq] at h1 h2
    subst h1 h2
    refine .cons h3 (dpAll_of (by simpa using h) fun i hi => ?_)
    obtain ⟨v, e, h1, h2, h3⟩ := f (i + 1) (by simpa using hi)
    exact ⟨v, e, by simpa using h1, by simpa using h2, h3⟩
theorem dp_art {K : PySem.W.Frag} {H : Hp} {n : Nat} {P : Nat → VP} {f : Nat → PyData} {a : Addr} (h : ArT K n P a H) (hf : ∀ i v, i < n → P i v H → Dp K H v (f i)) : Dp K H (.ref a) (.tuple ((List.range n).map f)) := by
  obtain ⟨vs, h1, h2, h3⟩ := h
  refine .tup h1 (dpAll_of (by rw [h2]; simp) fun i hi => ?_)
  obtain ⟨v, e1, e2⟩ := h3 i (by omega)
  exact ⟨v, f i, e1, by rw [List.getElem?_map, List.getElem?_range (by omega)]; rfl, hf i v (by omega) e2⟩
def frD (r : Rat) : PyData := .tuple [.int r.num, .int (r.den : Int)]
def shD (n : Nat) (q : Nat → Rat) : PyData := .tuple ((List.range (n + 1)).map fun k => frD (q k))
def prD (l : Nat) (g : Nat → Rat) : PyData := .tuple ((List.range l).map fun i => .tuple [frD (g (2 * i)), frD (g (2 * i + 1))])
def lkD (l : Lk) : PyData := .tuple [frD l.x, frD l.lo, frD l.hi]
section
variable {K : PySem.W.Frag} {H : Hp}
theorem dp_fr {r : Rat} {v : V} (h : Fr K r v H) : Dp K H v (frD r) := by
  obtain ⟨a, rfl, h⟩ := h
  exact .tup h (.cons (.int _) (.cons (.int _) .nil))
theorem dp_sh {n : Nat} {q : Nat → Rat} {v : V} (h : ShV K n q v H) : Dp K H v (shD n q) := by
  obtain ⟨a, rfl, h⟩ := h
  exact dp_art h fun i v _ h => dp_fr h
theorem dp_pr {l : Nat} {g : Nat → Rat} {v : V} (h : PrsV K l g v H) : Dp K H v (prD l g) := by
  obtain ⟨a, rfl, h⟩ := h
  refine dp_art h fun i v _ ⟨p, v0, v1, e, hT, h0, h1⟩ => ?_
  subst e
  exact .tup hT (.cons (dp_fr h0) (.cons (dp_fr h1) .nil))
theorem dp_lks {l : Nat} {L : Nat → Lk} {v : V} (h : LksV K l L v H) : Dp K H v (.tuple ((List.range l).map fun i => lkD (L i))) := by
  obtain ⟨a, rfl, h⟩ := h
  refine dp_art h fun i v _ ⟨p, v0, v1, v2, e, hT, h0, h1, h2⟩ => ?_
  subst e
  exact .tup hT (.cons (dp_fr h0) (.cons (dp_fr h1) (.cons (dp_fr h2) .nil)))
end
theorem lkD_depth (l : Lk) : (lkD l).depth ≤ 6 := by
  simp only [lkD, frD, PyData.depth, PyData.depthAll]
  omega
theorem lkD_can (l : Lk) : (lkD l).canLay0 = true := by
  simp only [lkD, frD, PyData.canLay0, PyData.canLayAll0, Bool.and_self]
theorem lks_shaped (L : Nat → Lk) (l : Nat) : SeqAt.shaped (.tuple ((List.range l).map fun i => lkD (L i))) = true := by
  have all : ∀ is : List Nat, PyData.depthAll (is.map fun i => lkD (L i)) ≤ 7 ∧ PyData.canLayAll0 (is.map fun i => lkD (L i)) = true := fun is => by
    induction is with
    | nil => exact ⟨by simp only [List.map_nil, PyData.depthAll]; omega, by simp only [List.map_nil, PyData.canLayAll0]⟩
    | cons i is ih =>
      have := lkD_depth (L i)
      refine ⟨?_, ?_⟩
      · simp only [List.map_cons, PyData.depthAll]
        omega
      · simp only [List.map_cons, PyData.canLayAll0, lkD_can, ih.2, Bool.and_self]
  obtain ⟨h1, h2⟩ := all (List.range l)
  unfold SeqAt.shaped
  rw [Bool.and_eq_true, decide_eq_true_eq]
  refine ⟨by simp only [PyData.canLay0, h2], ?_⟩
  simp only [PyData.depth]
  omega
/-- data whose text is short -/
structure Fine (k m : Nat) (d : PyData) : Prop where
  sh : d.showable = true
  nd : d.hasDict = false
  dp : d.depth ≤ k
  ls : d.leavesShort 1921 = true
  bk : d.bulk ≤ m
structure FineAll (k m : Nat) (ds : List PyData) : Prop where
  sh : PyData.showableAll ds = true
  nd : PyData.hasDictAll ds = false
  dp : PyData.depthAll ds ≤ k
  ls : PyData.leavesShortAll 1921 ds = true
  bk : PyData.bulkAll ds ≤ m
theorem FineAll.nil : FineAll 0 0 [] := ⟨rfl, rfl, Nat.le_refl _, rfl, Nat.le_refl _⟩
theorem FineAll.cons {k m j : Nat} {d : PyData} {ds : List PyData} (h : Fine k m d) (hs : FineAll k j ds) : FineAll k (m + 1 + j) (d :: ds) := by
  obtain ⟨a1, a2, a3, a4, a5⟩ := h
  obtain ⟨b1, b2, b3, b4, b5⟩ := hs
  refine ⟨?_, ?_, ?_, ?_, ?_⟩
  · simp only [PyData.showableAll, a1, b1, Bool.and_self]
  · simp only [PyData.hasDictAll, a2, b2, Bool.or_self]
  · simp only [PyData.depthAll]; omega
  · simp only [PyData.leavesShortAll, a4, b4, Bool.and_self]
  · simp only [PyData.bulkAll]; omega
theorem FineAll.k0 {k m : Nat} {ds : List PyData} (h : FineAll 0 m ds) : FineAll k m ds := ⟨h.sh, h.nd, Nat.le_trans h.dp (Nat.zero_le _), h.ls, h.bk⟩
theorem FineAll.all {k m : Nat} : ∀ {ds : List PyData}, (∀ d, d ∈ ds → Fine k m d) → FineAll k (ds.length * (m + 1)) ds
  | [], _ => by
    have := FineAll.nil.k0 (k := k)
    exact ⟨this.sh, this.nd, this.dp, this.ls, by rw [List.length_nil, Nat.zero_mul]; exact this.bk⟩
  | d :: ds, h => by
    have a := FineAll.cons (h d List.mem_cons_self) (FineAll.all fun e he => h e (List.mem_cons_of_mem _ he))
    rw [List.length_cons, Nat.succ_mul, Nat.add_comm]
    exact a
theorem Fine.tup {k m : Nat} {ds : List PyData} (h : FineAll k m ds) : Fine (k + 1) m (.tuple ds) := by
  obtain ⟨b1, b2, b3, b4, b5⟩ := h
  refine ⟨?_, ?_, ?_, ?_, ?_⟩
  · simp only [PyData.showable, b1]
  · simp only [PyData.hasDict, b2]
  · simp only [PyData.depth]; omega
  · simp only [PyData.leavesShort, b4]
  · simp only [PyData.bulk]; omega
theorem Fine.lst {k m : Nat} {ds : List PyData} (h : FineAll k m ds) : Fine (k + 1) m (.list ds) := by
  obtain ⟨b1, b2, b3, b4, b5⟩ := h
  refine ⟨?_, ?_, ?_, ?_, ?_⟩
  · simp only [PyData.showable, b1]
  · simp only [PyData.hasDict, b2]
  · simp only [PyData.depth]; omega
  · simp only [PyData.leavesShort, b4]
  · simp only [PyData.bulk]; omega
theorem Fine.mono {j k m n : Nat} {d : PyData} (h : Fine j m d) (h1 : j ≤ k) (h2 : m ≤ n) : Fine k n d := ⟨h.sh, h.nd, Nat.le_trans h.dp h1, h.ls, Nat.le_trans h.bk h2⟩
theorem Fine.int {i : Int} (h : i.natAbs < 2 ^ 1200) : Fine 2 0 (.int i) := by
  have l : i.natAbs.log2 < 1920 := log2_lt (by decide) (Nat.lt_of_lt_of_le h (Nat.pow_le_pow_right (by decide) (by decide)))
  refine ⟨?_, ?_, ?_, ?_, ?_⟩
  · simp only [PyData.showable, decide_eq_true l]
  · simp only [PyData.hasDict]
  · simp only [PyData.depth]; omega
  · have := int_text_len_1921 l
    simp only [PyData.leavesShort, PyData.shown]
    exact decide_eq_true this
  · simp only [PyData.bulk]; omega
theorem Fine.line {k m : Nat} {d : PyData} (h : Fine k m d) (hm : m ≤ 1000) : d.shown.length ≤ sizeLine := by
  have := PyData.shown_le_bulk 1921 (by decide) d h.ls
  have hb := h.bk
  have e : sizeLine = 16777216 := by decide
  rw [e]
  have : (1921 + 2) * d.bulk ≤ 1923 * 1000 := Nat.mul_le_mul_left _ (by omega)
  omega
theorem fine_fr {r : Rat} (h : Bd 1200 r) : Fine 3 2 (frD r) :=
  (Fine.tup (.cons (.int h.1) (.cons (.int (by rw [Int.natAbs_natCast]; exact h.2)) (FineAll.nil.k0 (k := 2))))).mono (by decide) (by decide)
theorem fine_sh {n : Nat} {q : Nat → Rat} (hn : n ≤ 5) (h : ∀ k, k ≤ n → Bd 1200 (q k)) : Fine 4 18 (shD n q) := by
  refine (Fine.tup (FineAll.all (k := 3) (m := 2) fun d hd => ?_)).mono (by decide) (by rw [List.length_map, List.length_range]; omega)
  obtain ⟨k, h1, rfl⟩ := List.mem_map.mp hd
  exact fine_fr (h k (by have := List.mem_range.mp h1; omega))
theorem fine_pr {l : Nat} {g : Nat → Rat} (hl : l ≤ 4) (h : ∀ k, k < 2 * l → Bd 1200 (g k)) : Fine 5 28 (prD l g) := by
  refine (Fine.tup (FineAll.all (k := 4) (m := 6) fun d hd => ?_)).mono (by decide) (by rw [List.length_map, List.length_range]; omega)
  obtain ⟨k, h1, rfl⟩ := List.mem_map.mp hd
  have hk := List.mem_range.mp h1
  exact (Fine.tup (.cons (fine_fr (h _ (by omega))) (.cons (fine_fr (h _ (by omega))) (FineAll.nil.k0 (k := 3))))).mono (by decide) (by decide)
end K86
set_option Elab.async false
set_option linter.all false
set_option maxRecDepth 100000
set_option maxHeartbeats 4000000
set_option exponentiation.threshold 20000
/-! Defs that are only called where no text is being made: a promise, a rule, a call of the law. -/
namespace K86
open PySem PySem.Spec PyProof.Rows L2 KM
/-- what a def promises, called where no repr runs -/
structure FnG (prog : Program) (wd : World) (fr : PySem.W.Frag) (nm : Str → Option Value) (bs : Heap) (lv : Nat) (ad : Addr) (fn : FuncData) (ps : List Str) (sp : Sp) : Prop where
  many : ∀ vs H Q E, sp vs H Q E → vs.length = ps.length
  does : ∀ (A : Around), A.guards = some [] → ∀ (out : List Env) (st : Shared) (H : Hp) (ar : Args) (us : List Value) (vs : List V) (Q : VK) (E : XK), Room lv A → Env0 prog wd fr nm bs A out st H → BindsTo st fn ar (ps.zip us) →
    Vals vs us → sp vs H Q E → codeAny (model prog wd) A (.call (.ref ad) ar) (CR CX0 out prog wd H st Q E) st
section
variable {prog : Program} {wd : World} {fr : PySem.W.Frag} {nm : Str → Option Value} {bs : Heap}
/-- the rule for a def that is only called so -/
theorem fun_g {x qual : Str} {sm : Stmt} {ad : Addr} {fn : FuncData} {N ps : List Str} {lv : Nat} {sp : Sp} (F : Fun fr x qual sm ad fn) (S : FnScope N ps (defScope sm)) (many : ∀ vs H Q E, sp vs H Q E → vs.length = ps.length)
    (inner : ∀ (cv : Value) (A : Around) (out : List Env) (st : Shared) (H : Hp) (vs : List V) (Q : VK) (E : XK), A.guards = some [] → Room lv (A.deeper (envOfC qual (defScope sm) st.heap.objs.size ad cv)) → sp vs H Q E →
      ∃ t, PSs (cxOf CX0 prog wd fr nm bs N qual (defScope sm) ad cv A out st H E).nox (defBody sm) t ∧ t { nx := fun _ G => Q .non G, rt := Q } (start N vs) H) : FnG prog wd fr nm bs (lv + 1) ad fn ps sp := by
  obtain ⟨oc, od, kd, dc, pmv, ann, cv, ctv, sl, rfl, found, coded⟩ := F.ex
  refine ⟨many, fun A gd out st H ar us vs Q E room e0 hb hv hs => ?_⟩
  have len_vs := many vs H Q E hs
  have frIn : fr.In st.heap := e0.mod.kin.keeps fun a o z => (e0.bs a o z).1
  have free : st.heap.NoLimit := e0.mod.nolimit.keeps fun a o z => (e0.bs a o z).1
  have kinds : ∀ z ∈ ps.zip us, (defScope sm).names.lookup z.1 = some .local ∨ ((defScope sm).names.lookup z.1 = some .cell ∧ ((cellsFrom (st.heap.objs.size + 1) (defScope sm).names []).lookup z.1).isSome = true) := fun z hz =>
    (S.par z.1 (List.of_mem_zip (a := z.1) (b := z.2) hz).1).imp id fun c => ⟨c, PySem.W.cellsFrom_some _ _ _ (.inl c)⟩
  refine codeAny_call_function room.depth (frIn _ _ found) rfl S.co S.gen rfl (PySem.W.codeRec_of frIn coded) (hb _ _ _ _ ?_)
  refine wpAny_newFunctionEnv_cells S.kind kinds fun ev hev s2 made => ?_
  cases hev
  refine ⟨free.keeps made.toInCall.keep, codeAny_func ?_⟩
  obtain ⟨t, ht, hq⟩ := inner cv A out st H vs Q E gd (room.deeper _) hs
  have I := inv_start (CX := CX0) (E := E) S room.hd e0 len_vs hv made
  refine wpAny_mono (ht.nox.run [] s2 (start N vs) H _ I hq) (fun fl s3 hf => ?_) fun _ _ z => z
  match fl, hf with
  | .ret u, ⟨v, σ2, H2, J, rv, q⟩ => exact ⟨v, H2, J.os, J.bare, J.base, J.hok, rv, q⟩
  | .next, ⟨σ2, H2, J, q⟩ => exact ⟨.non, H2, J.os, J.bare, J.base, J.hok, rfl, q⟩
  | .brk, ⟨_, _, _, q⟩ => exact q.elim
  | .cont, ⟨_, _, _, q⟩ => exact q.elim
end
section
variable {X : Cx}
/-- a call of such a def -/
theorem gcall {nm : Str} {i k j : Nat} {ps : List Str} {sp : Sp} {e : Expr} {es : List Expr} {t : TA} {p pos : Pos} (G : FnG X.prog X.w X.K X.mg X.base k (fAt X.mg nm) (fdAt X.K X.mg nm) ps sp) (gd : X.A.guards = some []) (D : Df X.K X.mg nm i ps) (hr : Room j X.A) (hkj : k ≤ j) (hg : Gl X nm)
    (ha : PA X (e :: es) t) (hdb : (nm == ("__debug__" : Str)) = false := by decide) (he : starEach (e :: es) X.env = (false, eval e X.env) :: starEach es X.env := by rfl) (hpl : (backTo pos (starEach es X.env)).any (·.1) = false := by rfl) :
    PE X (.Call (.Name nm p) (e :: es) [] pos) (tCall sp [] E0 t) := by
  refine ⟨fun pins st σ H Q I h => wpAny_Call_Name_kw (ld_glob I hg D.m (PySem.W.callWith_K (h₀ := X.base) I.ok.mod.kin D.F.kp (thn (ha.run pos pins st σ H _ I h) fun us s1 ⟨vs, H1, I1, rv, q⟩ => ⟨I1.kIn, ?_⟩) he hpl) hdb)⟩
  have rv2 : Vals (vs ++ []) (us ++ []) := rv.append .nil
  have hl : (us ++ []).length = ps.length := by rw [← rv2.length]; exact G.many _ _ _ _ q
  refine wpAny_call (codeAny_mono (G.does X.A gd X.stack s1 H1 ⟨us, []⟩ (us ++ []) (vs ++ []) Q E0 (hr.mono hkj) I1.env0 (D.b s1 us I1.kIn hl) rv2 q) fun r s2 hq => ?_)
  match r, hq with
  | .error _, hq => exact hq.elim
  | .ok (.ret u), hq => exact I1.after hq
end
section
/-- the script, known to the object, and nothing else -/
def Bare (a : Addr) (zint : List Int) (o : Obj) : Hp := fun b => if b = a then some (.frz o (.lst (zint.map V.int))) else none
/-- the law's call, from what its def promises at the heap behind the top -/
theorem law_g {prog : Program} {wd : World} {fr : PySem.W.Frag} {nm mb : Str → Option Value} {lv : Nat} {fa a : Addr} {fn : FuncData} {x : Str} {sp : Sp} {st : Shared} {us : List Value} {zint : List Int}
    (frIn : fr.In st.heap) (names : st.heap.Ns mainGlobals nm) (built : st.heap.Ns builtinsNs mb) (boot : ∀ y : Str, y ≠ "__name__" → mb y = bootBuiltins y) (free : st.heap.NoLimit) (nogen : st.gens = #[])
    (script : st.heap.get? a = some { cls := .type "list", data := .seq us.toArray }) (same : IntsAre us zint) (small : zint.length ≤ sizeLine) (room : Room lv callerA)
    (F : ∀ b : Heap, fr.In b → b.Ns mainGlobals nm → FnG prog wd fr nm b lv fa fn [x] sp) (bind : ∀ (s2 : Shared) (u : Value), BindsTo s2 fn ⟨[u], []⟩ [(x, u)])
    (says : ∀ H : Hp, SqL fr H a (zint.map V.int) → sp [.ref a] H (fun v _ => v = .bl true) E0) :
    codeAny (model prog wd) callerA (.call (.ref fa) ⟨[.ref a], []⟩) (fun r s2 => r = .ok (.ret (.bool true)) ∧ OldK st.heap s2.heap ∧ s2.os = st.os ∧ AllBare s2.gens) st := by
  have vals := vals_ints same
  have lens := same.length
  have go : ∀ H : Hp, (∀ b, H b = none ∨ ∃ o zs, H b = some (.frz o (.lst zs))) → SqL fr H a (zint.map V.int) → HOk prog wd H st.heap → (∀ b, H b ≠ none → b = a) → (H a ≠ none → fr.lookup a = none) →
      codeAny (model prog wd) callerA (.call (.ref fa) ⟨[.ref a], []⟩) (fun r s2 => r = .ok (.ret (.bool true)) ∧ OldK st.heap s2.heap ∧ s2.os = st.os ∧ AllBare s2.gens) st := by
    intro H only hS hok just apart
    have hid : ∀ {b : Addr} {o : Obj}, st.heap.get? b = some o → H b = none → (hidT st.heap H).get? b = some o := fun z n => hidT_get z n
    have nodict : ∀ {b : Addr} {o : Obj} {es : Array DictEntry} {ep : Nat}, st.heap.get? b = some o → o.data = .dict es ep → H b = none := by
      intro b o es ep z d
      by_cases free : H b = none
      · exact free
      · obtain rfl := just b free
        rw [script] at z
        cases z
        cases (show Data.seq us.toArray _ = Data.dict es ep from d)
    have spaces : ∀ {b : Addr} {m : Str → Option Value}, st.heap.Ns b m → (hidT st.heap H).Ns b m := fun {b m} ⟨o, es, ep, z, d, r⟩ => ⟨o, es, ep, hid z (nodict z d), d, r⟩
    have baseIn : fr.In (hidT st.heap H) := by
      intro b o z
      refine hid (frIn b o z) ?_
      by_cases free : H b = none
      · exact free
      · obtain rfl := just b free
        rw [apart free] at z
        cases z
    obtain ⟨mc, m1, m2⟩ := free
    have md : Mod fr nm (hidT st.heap H) := ⟨baseIn, spaces names, ⟨mb, spaces built, boot⟩, ⟨mc, spaces m1, m2⟩⟩
    have e0 : Env0 prog wd fr nm (hidT st.heap H) callerA [] st H := ⟨rfl, md, fun b o z => of_hidT z, Nat.le_of_eq (hidT_size _ _), trivial, fun b hb => absurd (show b ∈ ([] : List Addr) from hb) List.not_mem_nil, hok, .of_eq nogen⟩
    refine codeAny_mono ((F _ baseIn (spaces names)).does callerA rfl [] st H ⟨[.ref a], []⟩ [.ref a] [.ref a] _ _ room e0 (bind st (.ref a)) (.cons rfl .nil) (says H hS)) fun r s2 h => ?_
    match r, h with
    | .error _, h => exact h.elim
    | .ok (.ret u), ⟨v, H2, os, bare, un, hok2, rv, (q : v = .bl true)⟩ =>
      subst q
      obtain rfl : u = Value.bool true := rv
      refine ⟨rfl, OldK.of_keep fun b o z => ?_, os, bare⟩
      rcases only b with n | ⟨ob, zs, n⟩
      · exact un.keep b o z n (fun m => absurd (show b ∈ ([] : List Addr) from m) List.not_mem_nil) List.not_mem_nil
      · have z1 := (hok b _ n).1
        rw [z] at z1
        cases z1
        exact (hok2 b _ (un.frzs b _ _ n)).1
  cases known : fr.lookup a with
  | some o =>
    have z := frIn a o known
    rw [script] at z
    cases z
    exact go (fun _ => none) (fun _ => .inl rfl) (.inr ⟨_, us.toArray, _, known, rfl, rfl, rfl, by rw [List.size_toArray, lens]; exact small, by simpa using vals⟩) (fun b u z => nomatch z) (fun b z => absurd rfl z) fun z => absurd rfl z
  | none =>
    have at_a : Bare a zint { cls := .type "list", data := .seq us.toArray } a = some (.frz { cls := .type "list", data := .seq us.toArray } (.lst (zint.map V.int))) := if_pos rfl
    have off_a : ∀ {b}, b ≠ a → Bare a zint { cls := .type "list", data := .seq us.toArray } b = none := fun hb => if_neg hb
    refine go (Bare a zint { cls := .type "list", data := .seq us.toArray }) (fun b => ?_) (.inl (.inr ⟨_, at_a⟩)) (fun b u z => ?_) (fun b z => ?_) fun _ => known
    · by_cases hb : b = a
      · rw [hb]; exact .inr ⟨_, _, at_a⟩
      · exact .inl (off_a hb)
    · by_cases hb : b = a
      · rw [hb, at_a] at z
        cases z
        rw [hb]
        exact ⟨script, by rw [List.length_map]; exact small, us, _, vals, script⟩
      · rw [off_a hb] at z
        cases z
    · by_cases hb : b = a
      · exact hb
      · exact absurd (off_a hb) z
/-- the law row's end -/
theorem walk_g {l : PySem.W.OpenLaw} {n lv : Nat} {q : Program} {loose : List Str} {XP : (Str → Option Value) → Heap → Prop} {YP : World → Heap → Prop} {d : DefRec} {fr : Params → PySem.W.Frag} {sp : PySem.W.Frag → Sp} {x : Str}
    (most : l.most = some n) (small : n ≤ sizeLine) (plain : d.params.defaults = []) (room : Room lv callerA)
    (holds : ∀ (wd : World) (h : Heap), YP wd h → (fr wd.params).In h)
    (F : ∀ (wd : World) (nm : Str → Option Value) (fa : Addr) (h : Heap), (fr wd.params).In h → h.Ns mainGlobals nm → nm d.name = some (.ref fa) →
      ∃ fn : FuncData, (∀ (s2 : Shared) (u : Value), BindsTo s2 fn ⟨[u], []⟩ [(x, u)]) ∧ ∀ b : Heap, (fr wd.params).In b → b.Ns mainGlobals nm → FnG l.prog wd (fr wd.params) nm b lv fa fn [x] (sp (fr wd.params)))
    (says : ∀ (K : PySem.W.Frag) (H : Hp) (a : Addr) (zint : List Int), zint.length ≤ n → SqL K H a (zint.map V.int) → sp K [.ref a] H (fun v _ => v = .bl true) E0) :
    PySem.W.WalkO q loose XP YP l.row.toRowW d [] (fun f vs => PySem.call f vs) := by
  refine Att.attach_call most plain fun wd st0 st nm mb fa o pm cd doc a us zint G Y ho hd hcd hnm hobj same len nogen => ?_
  have inn := holds wd _ Y
  obtain ⟨fn, bind, hF⟩ := F wd nm fa _ inn G.T.g hnm
  exact law_g inn G.T.g G.T.b G.T.builtins G.T.nolimit nogen hobj same (Nat.le_trans len small) room hF bind fun H hS => says _ H a zint len hS
end
end K86
set_option Elab.async false
set_option linter.all false
set_option maxRecDepth 100000
set_option maxHeartbeats 4000000
set_option exponentiation.threshold 20000
/-! One turn of the law. -/
namespace K86
open PySem PySem.Spec PyProof.Rows L2 KM
def KeptV (K : PySem.W.Frag) (n : Nat) (q : Nat → Rat) : VP := fun v H => ∃ l, LkV K l v H ∧ LkOk n l ∧ Kept n l q
theorem keptv_stay {K : PySem.W.Frag} {n : Nat} {q : Nat → Rat} : Stay (KeptV K n q) := fun _ _ _ e ⟨l, h1, h2⟩ => ⟨l, lkv_stay _ _ _ e h1, h2⟩
theorem keptv_stayD {K : PySem.W.Frag} {n : Nat} {q : Nat → Rat} {D : Addr} : StayD D (KeptV K n q) := fun _ _ _ _ hD e ⟨l, h1, h2⟩ => ⟨l, lkv_stayD _ _ _ _ hD e h1, h2⟩
theorem kepts_of {K : PySem.W.Frag} {n : Nat} {q : Nat → Rat} {a : Addr} {vs : List V} {H : Hp} (hT : SqT K H a vs) (h : ∀ v, v ∈ vs → KeptV K n q v H) : ∃ L, LksV K vs.length L (.ref a) H ∧ ∀ i, i < vs.length → LkOk n (L i) ∧ Kept n (L i) q := by
  have : ∀ i, ∃ l, i < vs.length → (∃ v, vs[i]? = some v ∧ LkV K l v H) ∧ LkOk n l ∧ Kept n l q := fun i => by
    by_cases hi : i < vs.length
    · obtain ⟨l, h1, h2⟩ := h vs[i] (List.getElem_mem hi)
      exact ⟨l, fun _ => ⟨⟨vs[i], List.getElem?_eq_getElem hi, h1⟩, h2⟩⟩
    · exact ⟨⟨0, 0, 0⟩, fun z => absurd z hi⟩
  obtain ⟨L, hL⟩ := Classical.axiomOfChoice this
  exact ⟨L, ⟨a, rfl, vs, hT, rfl, fun i hi => (hL i hi).1⟩, fun i hi => (hL i hi).2⟩
/-- what the law is asked at -/
structure Setup (n l : Nat) (L : Nat → Lk) (q : Nat → Rat) : Prop where
  n1 : 1 ≤ n
  n5 : n ≤ 5
  l1 : 1 ≤ l
  l3 : l ≤ 3
  ok : ∀ i, i < l → LkOk n (L i)
  kept : ∀ i, i < l → Kept n (L i) q
  sh : ShOk 6 n q
theorem Setup.case {n l : Nat} {L : Nat → Lk} {q : Nat → Rat} {x : Rat} (s : Setup n l L q) (x0 : 0 < x) (bx : Bd 4 x) : Case n l L x :=
  ⟨s.n1, s.n5, s.l1, by have := s.l3; omega, x0, bx.sz, fun i hi => (s.ok i hi).pos, fun i hi => (s.ok i hi).bx.sz, fun i hi => (s.ok i hi).bl.sz, fun i hi => (s.ok i hi).bh.sz, q, s.sh.ch, s.kept⟩
theorem Setup.looks {n l : Nat} {L : Nat → Lk} {q : Nat → Rat} (s : Setup n l L q) : LksOk n l L := ⟨s.n1, s.n5, s.l1, by have := s.l3; omega, s.ok⟩
theorem lksv_stayD {K : PySem.W.Frag} {n : Nat} {L : Nat → Lk} {D : Addr} : StayD D (LksV K n L) := fun _ _ _ _ hD e ⟨a, h0, vs, h1, h2, h3⟩ =>
  ⟨a, h0, vs, sqt_keep hD e h1, h2, fun i hi => let ⟨v, e1, e2⟩ := h3 i hi; ⟨v, e1, lkv_stayD _ _ _ _ hD e e2⟩⟩
/-- shares that are told keep all looks -/
structure Told (n l : Nat) (L : Nat → Lk) (q : Nat → Rat) : Prop where
  sh : ShOk 503 n q
  kept : ∀ i, i < l → Kept n (L i) q
theorem Told.keeps {n l : Nat} {L : Nat → Lk} {q : Nat → Rat} (t : Told n l L q) : Keeps n l L q := t.kept
theorem told_of {n l : Nat} {L : Nat → Lk} {x : Rat} {rew : Nat → Rat} {d : Dic} (la : Last n (2 * l) (Am L x) rew d) (C : Case n l L x) (hr : Rew n rew) : Told n l L (Qs n l d x) :=
  ⟨⟨la.qchan C.xp, la.qcom C hr, by decide, C.n5⟩, la.qkeeps C⟩
theorem Setup.told {n l : Nat} {L : Nat → Lk} {q : Nat → Rat} (s : Setup n l L q) : Told n l L q := ⟨⟨s.sh.ch, s.sh.cm.mono (by decide), by decide, s.n5⟩, s.kept⟩
theorem wgt_bd {n l : Nat} {L : Nat → Lk} {x : Rat} {rew : Nat → Rat} {d : Dic} (la : Last n (2 * l) (Am L x) rew d) (C : Case n l L x) (hr : Rew n rew) (u : Nat) : Bd 1000 (wgt (2 * l + 1) n d u) := by
  unfold wgt
  cases e : plc n (fun j => d.N (j + 1)) u with
  | none => exact bd_zero (by decide)
  | some j =>
    have h := (plc_some e).1
    exact bd_neg (Sz.bd (C.size hr la.g (Nat.le_refl _) (by omega)))
theorem end_bd {n l : Nat} {L : Nat → Lk} {x : Rat} {rew : Nat → Rat} {d : Dic} (la : Last n (2 * l) (Am L x) rew d) (C : Case n l L x) (hr : Rew n rew) : Bd 1000 (d.t (2 * l + 1) 0) := Sz.bd (C.size hr la.g (Nat.le_refl _) (Nat.zero_le _))
theorem plok_of {n l : Nat} {L : Nat → Lk} {x : Rat} {q : Nat → Rat} {rew : Nat → Rat} {d : Dic} (s : Setup n l L q) (x0 : 0 < x) (bx : Bd 4 x) (la : Last n (2 * l) (Am L x) rew d) (hr : Rew n rew) : PlOk n l L x (fun i => wgt (2 * l + 1) n d (n + 1 + i)) :=
  ⟨s.n5, s.l3, x0, bx, s.ok, fun i _ => wgt_nn la.dn _, fun i _ => wgt_bd la (s.case x0 bx) hr _⟩
theorem ShOk.fw {b n : Nat} {q : Nat → Rat} (h : ShOk b n q) {x : Rat} (x0 : 0 < x) (bx : Bd 4 x) {k : Nat} (hk : k ≤ n) : Bd 1083 (fwd n q x k) := by
  have t0 := tot_pos h.ch x0
  exact Bd.div (h.l1 bx hk) (h.l2 bx (Nat.le_refl _)) (by unfold tot at t0; grind)
/-- what is held on to -/
structure Held (K : PySem.W.Frag) (n l : Nat) (L : Nat → Lk) (x lo hi : Rat) (q q1 q2 : Nat → Rat) (lv cv xv lov hiv fv mv : V) (H : Hp) : Prop where
  lks : LksV K l L lv H
  ch : ShV K n q cv H
  hx : Fr K x xv H
  lo : Fr K lo lov H
  hi : Fr K hi hiv H
  few : ShV K n q1 fv H
  much : ShV K n q2 mv H
section
variable {K : PySem.W.Frag} {n l : Nat} {L : Nat → Lk} {x lo hi : Rat} {q q1 q2 : Nat → Rat} {lv cv xv lov hiv fv mv : V} {H H' : Hp}
theorem Held.same (h : Held K n l L x lo hi q q1 q2 lv cv xv lov hiv fv mv H) (e : Same H H') : Held K n l L x lo hi q q1 q2 lv cv xv lov hiv fv mv H' :=
  ⟨lksv_mono h.lks e, shv_stay _ _ _ e h.ch, h.hx.mono e, h.lo.mono e, h.hi.mono e, shv_stay _ _ _ e h.few, shv_stay _ _ _ e h.much⟩
theorem Held.drawn {S : Addr} {k j : Nat} (h : Held K n l L x lo hi q q1 q2 lv cv xv lov hiv fv mv H) (d : Drawn S k H H') (hS : StK S j H) : Held K n l L x lo hi q q1 q2 lv cv xv lov hiv fv mv H' :=
  ⟨d.stay hS lksv_stayD h.lks, d.stay hS shv_stayD h.ch, d.stay hS fr_stayD h.hx, d.stay hS fr_stayD h.lo, d.stay hS fr_stayD h.hi, d.stay hS shv_stayD h.few, d.stay hS shv_stayD h.much⟩
end
/-- three kinds of shares -/
theorem trio {n l : Nat} {L : Nat → Lk} {a b c : Nat → Rat} {K : PySem.W.Frag} {u v w : V} {H : Hp} (ta : Told n l L a) (tb : Told n l L b) (tc : Told n l L c) (ha : ShV K n a u H) (hb : ShV K n b v H) (hc : ShV K n c w H) :
    ∃ qs : Nat → Nat → Rat, ∀ i, i < 3 → Told n l L (qs i) ∧ ∃ z, [u, v, w][i]? = some z ∧ ShV K n (qs i) z H := by
  refine ⟨fun i => if i = 0 then a else if i = 1 then b else c, fun i hi => ?_⟩
  match i, hi with
  | 0, _ => exact ⟨ta, u, rfl, ha⟩
  | 1, _ => exact ⟨tb, v, rfl, hb⟩
  | 2, _ => exact ⟨tc, w, rfl, hc⟩
theorem str_ne (z : Str) : (!decide (V.str z = V.str z)) = false := by rw [decide_eq_true rfl]; rfl
section
variable {P : Program} {w : World} {K : PySem.W.Frag} {mg : Str → Option Value} {base : Heap}
abbrev s__law_right : Stmt := topS 80
abbrev n__law_right : List Str := ["_law_store_here", "_law_count", "_law_views2", "_law_chances_here", "_law_x", "_law_low2", "_law_high2", "_law_few", "_law_much", "_law_least", "_law_most2", "_law_down", "_law_up", "_law_k", "_law_here", "_law_span", "_law_parts2", "_law_each"]
theorem sc__law_right : FnScope n__law_right ["_law_store_here"] (defScope s__law_right) := ⟨rfl, rfl, rfl, by decide +kernel, rfl, by decide +kernel, by decide +kernel⟩
def sp_right (_ : PySem.W.Frag) : Sp := fun vs H Q _ => ∃ (S : Addr), vs = [.ref S] ∧ StK S 0 H ∧ ∀ H', Keep S H H' → Q (.bl true) H'
theorem ok__law_right (T : Tx K mg) : FnG P w K mg base 11 (fAt mg "_law_right") (fdAt K mg "_law_right") ["_law_store_here"] (sp_right K) := by
  refine fun_g T.d__law_right.F sc__law_right (fun vs H Q E h => ?_) (fun cdv A outer s H vs Q E hg hr h => ?_)
  · obtain ⟨S, rfl, _⟩ := h
    rfl
  · obtain ⟨S, rfl, hS, q⟩ := h
    refine ⟨_, (pss_cons (ps_set (i := 1) sc__law_right.nd rfl (Or.inl rfl) (pe_op op_add (pe_int) (pcall (ok__law_take T) T.d__law_take hr (by decide) (by rfl) (pa_cons (pv 0) (pa_cons (pe_int) pa_nil)))))
  (pss_cons (ps_asg (pcall (ok__law_views T) T.d__law_views hr (by decide) (by rfl) (pa_cons (pv 0) (pa_cons (pv 1) (pa_cons (pe_int) pa_nil)))) (pg_tup rfl (pgs_cons (pg_name (i := 2) sc__law_right.nd rfl (Or.inl rfl)) (pgs_cons (pg_name (i := 3) sc__law_right.nd rfl (Or.inr rfl)) pgs_nil))))
  (pss_cons (ps_set (i := 2) sc__law_right.nd rfl (Or.inl rfl) (pe_callTy call_tuple_of (by rfl) T.n_tuple (by decide +kernel) (pa_cons (pe_lc (own := [("_law_each", 17)]) rfl sc__law_right.nd (pi_tup (pv 2)) (blkOk_by (own := [("_law_each", 17)]) (N := n__law_right) (sc := defScope s__law_right) (by decide +kernel)) (fun _ _ _ _ _ => pg_name (i := 17) sc__law_right.nd rfl (Or.inl rfl)) (fun _ _ _ _ _ => pts_one (pt_val (pcall (ok__law_is_kept T) T.d__law_is_kept hr (by decide) (by rfl) (pa_cons (pv 17) (pa_cons (pv 3) pa_nil))))) (fun _ _ _ _ _ => pv 17)) pa_nil)))
  (pss_cons (ps_if (pt_cmpR (op_eqD hr.units) (pv 2) (pe_tup pa_nil) (nomark _)) (pss_one (ps_set (i := 2) sc__law_right.nd rfl (Or.inl rfl) (pe_tup (pa_cons (pe_tup (pa_cons (pcall (ok__law_mild T) T.d__law_mild hr (by decide) (by rfl) (pa_cons (pv 0) pa_nil)) (pa_cons (pe_tup (pa_cons (pe_int) (pa_cons (pe_int) pa_nil))) (pa_cons (pe_tup (pa_cons (pv 1) (pa_cons (pe_int) pa_nil))) pa_nil)))) pa_nil)))) pss_nil)
  (pss_cons (ps_set (i := 4) sc__law_right.nd rfl (Or.inr rfl) (pcall (ok__law_mild T) T.d__law_mild hr (by decide) (by rfl) (pa_cons (pv 0) pa_nil)))
  (pss_cons (ps_asg (pcall (ok_fill_range T) T.d_fill_range hr (by decide) (by rfl) (pa_cons (pv 1) (pa_cons (pv 2) (pa_cons (pv 4) pa_nil)))) (pg_tup rfl (pgs_cons (pg_name (i := 5) sc__law_right.nd rfl (Or.inl rfl)) (pgs_cons (pg_name (i := 6) sc__law_right.nd rfl (Or.inl rfl)) pgs_nil))))
  (pss_cons (ps_asg (pcall (ok_range_shares T) T.d_range_shares hr (by decide) (by rfl) (pa_cons (pv 1) (pa_cons (pv 2) (pa_cons (pv 4) pa_nil)))) (pg_tup rfl (pgs_cons (pg_name (i := 7) sc__law_right.nd rfl (Or.inl rfl)) (pgs_cons (pg_name (i := 8) sc__law_right.nd rfl (Or.inl rfl)) pgs_nil))))
  (pss_cons (ps_if (pt_cmpR op_ne (pe_callB (cr_repr hg hr.units) (by rfl) T.n_repr (by decide +kernel) (pa_cons (kcall (ok_range_shares T) T.d_range_shares hr (by decide) (by rfl) T.k_range_shares (pk_cons (pv 1) (pk_cons (pv 2) (pk_cons (pv 4) pk_nil)))) pa_nil)) (pe_callB (cr_repr hg hr.units) (by rfl) T.n_repr (by decide +kernel) (pa_cons (pe_tup (pa_cons (pv 7) (pa_cons (pv 8) pa_nil))) pa_nil)) (nomark _)) (pss_one (ps_ret (pe_bl))) pss_nil)
  (pss_cons (ps_if (PW.pt (pw_or (pt_not (pt_val (pcall (ok__law_are_fit T) T.d__law_are_fit hr (by decide) (by rfl) (pa_cons (pv 7) (pa_cons (pv 1) (pa_cons (pv 2) pa_nil)))))) (pw_or1 (pt_not (pt_val (pcall (ok__law_are_fit T) T.d__law_are_fit hr (by decide) (by rfl) (pa_cons (pv 8) (pa_cons (pv 1) (pa_cons (pv 2) pa_nil))))))))) (pss_one (ps_ret (pe_bl))) pss_nil)
  (pss_cons (ps_if (pt_cmpR op_ne (pe_callB (cr_repr hg hr.units) (by rfl) T.n_repr (by decide +kernel) (pa_cons (pe_lst (pa_cons (pcall (ok__law_seen T) T.d__law_seen hr (by decide) (by rfl) (pa_cons (pv 7) (pa_cons (pv 4) pa_nil))) (pa_cons (pcall (ok__law_seen T) T.d__law_seen hr (by decide) (by rfl) (pa_cons (pv 8) (pa_cons (pv 4) pa_nil))) pa_nil))) pa_nil)) (pe_callB (cr_repr hg hr.units) (by rfl) T.n_repr (by decide +kernel) (pa_cons (pe_lst (pa_cons (pv 5) (pa_cons (pv 6) pa_nil))) pa_nil)) (nomark _)) (pss_one (ps_ret (pe_bl))) pss_nil)
  (pss_cons (ps_asg (pcall (ok_range_weights T) T.d_range_weights hr (by decide) (by rfl) (pa_cons (pv 1) (pa_cons (pv 2) (pa_cons (pv 4) pa_nil)))) (pg_tup rfl (pgs_cons (pg_name (i := 9) sc__law_right.nd rfl (Or.inl rfl)) (pgs_cons (pg_name (i := 10) sc__law_right.nd rfl (Or.inl rfl)) pgs_nil))))
  (pss_cons (ps_if (pt_cmpR op_ne (pe_callB (cr_repr hg hr.units) (by rfl) T.n_repr (by decide +kernel) (pa_cons (kcall (ok_range_weights T) T.d_range_weights hr (by decide) (by rfl) T.k_range_weights (pk_cons (pv 1) (pk_cons (pv 2) (pk_cons (pv 4) pk_nil)))) pa_nil)) (pe_callB (cr_repr hg hr.units) (by rfl) T.n_repr (by decide +kernel) (pa_cons (pe_tup (pa_cons (pv 9) (pa_cons (pv 10) pa_nil))) pa_nil)) (nomark _)) (pss_one (ps_ret (pe_bl))) pss_nil)
  (pss_cons (ps_par (i := 11) (j := 12) rfl sc__law_right.nd rfl rfl (by decide) rfl rfl (pa_cons (pcall (ok__law_pulls T) T.d__law_pulls hr (by decide) (by rfl) (pa_cons (pv 9) (pa_cons (pv 2) (pa_cons (pv 4) (pa_cons (pv 1) pa_nil))))) (pa_cons (pcall (ok__law_pulls T) T.d__law_pulls hr (by decide) (by rfl) (pa_cons (pv 10) (pa_cons (pv 2) (pa_cons (pv 4) (pa_cons (pv 1) pa_nil))))) pa_nil)) (by rfl))
  (pss_cons (ps_if (PW.pt (pw_or (pt_cmpR op_isN (pv 11) (pe_non) (nomark _)) (pw_or1 (pt_cmpR op_isN (pv 12) (pe_non) (nomark _))))) (pss_one (ps_ret (pe_bl))) pss_nil)
  (pss_cons (ps_for PassesOwn.never rfl (pi_range1 (by rfl) T.n_range (pa_cons (pe_op op_add (pv 1) (pe_int)) pa_nil)) (pg_name (i := 13) sc__law_right.nd rfl (Or.inr rfl)) (pss_one (ps_if (PW.pt (pw_or (pt_cmpR op_gt (pcall (ok__law_cmp T) T.d__law_cmp hr (by decide) (by rfl) (pa_cons (pe_ix ix_list (pv 11) (pv 13) (fun _ _ => rfl)) (pa_cons (pcall (ok__law_less T) T.d__law_less hr (by decide) (by rfl) (pa_cons (pe_tup (pa_cons (pv 13) (pa_cons (pe_int) pa_nil))) (pa_cons (pv 5) pa_nil))) pa_nil))) (pe_int) (nomark _)) (pw_or1 (pt_cmpR op_gt (pcall (ok__law_cmp T) T.d__law_cmp hr (by decide) (by rfl) (pa_cons (pe_ix ix_list (pv 12) (pv 13) (fun _ _ => rfl)) (pa_cons (pcall (ok__law_less T) T.d__law_less hr (by decide) (by rfl) (pa_cons (pv 6) (pa_cons (pe_tup (pa_cons (pv 13) (pa_cons (pe_int) pa_nil))) pa_nil))) pa_nil))) (pe_int) (nomark _))))) (pss_one (ps_ret (pe_bl))) pss_nil)))
  (pss_cons (ps_asg (pe_tup (pa_cons (pcall (ok__law_seen T) T.d__law_seen hr (by decide) (by rfl) (pa_cons (pv 3) (pa_cons (pv 4) pa_nil))) (pa_cons (pcall (ok__law_take T) T.d__law_take hr (by decide) (by rfl) (pa_cons (pv 0) (pa_cons (pe_op op_add (pv 1) (pe_int)) pa_nil))) pa_nil))) (pg_tup rfl (pgs_cons (pg_name (i := 14) sc__law_right.nd rfl (Or.inl rfl)) (pgs_cons (pg_name (i := 13) sc__law_right.nd rfl (Or.inr rfl)) pgs_nil))))
  (pss_cons (ps_if (PW.pt (pw_or (pt_cmpR op_gt (pcall (ok__law_cmp T) T.d__law_cmp hr (by decide) (by rfl) (pa_cons (pv 5) (pa_cons (pv 14) pa_nil))) (pe_int) (nomark _)) (pw_or1 (pt_cmpR op_gt (pcall (ok__law_cmp T) T.d__law_cmp hr (by decide) (by rfl) (pa_cons (pv 14) (pa_cons (pv 6) pa_nil))) (pe_int) (nomark _))))) (pss_one (ps_ret (pe_bl))) pss_nil)
  (pss_cons (ps_set (i := 15) sc__law_right.nd rfl (Or.inr rfl) (pcall (ok_number_range T) T.d_number_range hr (by decide) (by rfl) (pa_cons (pv 1) (pa_cons (pv 2) (pa_cons (pv 4) (pa_cons (pv 13) pa_nil))))))
  (pss_cons (ps_setLc (i := 16) (own := [("_law_each", 17)]) rfl sc__law_right.nd rfl rfl (sw_true rfl rfl rfl (by decide +kernel)) (pi_list (pe_lst (pa_cons (pv 3) (pa_cons (pv 7) (pa_cons (pv 8) pa_nil))))) (blkOk_by (own := [("_law_each", 17)]) (N := n__law_right) (sc := defScope s__law_right) (by decide +kernel)) (fun _ _ _ _ _ => pg_name (i := 17) sc__law_right.nd rfl (Or.inl rfl)) (fun _ _ _ _ _ => pts_nil) (fun _ _ _ _ _ => pcall (ok__law_part_at T) T.d__law_part_at hr (by decide) (by rfl) (pa_cons (pv 17) (pa_cons (pv 4) (pa_cons (pv 13) pa_nil)))))
  (pss_one (ps_ret (pe_callB (cr_all rfl) (by rfl) T.n_all (by decide +kernel) (pa_cons (pe_lc (own := [("_law_each", 17)]) rfl sc__law_right.nd (pi_list (pv 16)) (blkOk_by (own := [("_law_each", 17)]) (N := n__law_right) (sc := defScope s__law_right) (by decide +kernel)) (fun _ _ _ _ _ => pg_name (i := 17) sc__law_right.nd rfl (Or.inl rfl)) (fun _ _ _ _ _ => pts_nil) (fun _ _ _ _ _ => pe_and (pe_cmpR op_le (pcall (ok__law_cmp T) T.d__law_cmp hr (by decide) (by rfl) (pa_cons (pe_ix (kx_tup (K := K) rfl) (pv 15) (pe_int) (fun _ _ => rfl)) (pa_cons (pv 17) pa_nil))) (pe_int) (nomark _)) (pe_one (pe_cmpR op_le (pcall (ok__law_cmp T) T.d__law_cmp hr (by decide) (by rfl) (pa_cons (pv 17) (pa_cons (pe_ix (kx_tup (K := K) rfl) (pv 15) (pe_int) (fun _ _ => rfl)) pa_nil))) (pe_int) (nomark _))))) pa_nil))))))))))))))))))))))), ?_⟩
    refine ⟨_, rfl, S, 5, 0, rfl, hS, by decide, by decide, by decide, fun c0 H1 hc d1 => ⟨_, _, rfl, rfl, ?_⟩⟩
    have n1 : 1 ≤ 1 + c0 := by omega
    have n5 : 1 + c0 ≤ 5 := by omega
    refine ⟨_, rfl, _, rfl, S, 1 + c0, 1, rfl, d1.st, n1, n5, by decide, fun v l L g H2 d2 hv l1 l3 okL okq => ?_⟩
    generalize hn : 1 + c0 = n at n1 n5 hv okL okq
    obtain ⟨t, lv, cv, rfl, hT, ⟨la, rfl, ls, s1, s2, s3⟩, hc⟩ := hv
    refine ⟨t, _, rfl, hT, rfl, _, _, rfl, _, _, rfl, rfl, ?_⟩
    have d12 := d1.trans d2
    refine ⟨_, rfl, la, rfl, ⟨_, s1⟩, fun D hD => lc_fil (walk_tup (K := K) (a := la) (xs := ls)) (by omega) hD (fun i => Kept n (L i) g) (fun i => LkV K (L i)) (fun _ _ => lkv_stay) (fun _ _ => lkv_stayD) (fun H' e => sqt_mono e s1) ?_ ?_⟩
    · rintro i x H3 H4 Ry Rn hi e3 ⟨rfl, hx⟩ yes no
      have hi : i < l := by omega
      obtain ⟨x', hx', hl⟩ := s3 i hi
      obtain rfl : x = x' := Option.some.inj (hx.symm.trans hx')
      refine ⟨rfl, _, rfl, _, rfl, x, cv, n, 6, L i, g, rfl, lkv_stay _ _ _ e3 hl, okL i hi, shv_stay _ _ _ e3 hc, okq, fun H5 e5 => ⟨_, rfl, ?_⟩⟩
      by_cases c : Kept n (L i) g
      · rw [decide_eq_true c]
        exact ⟨_, rfl, yes c _ _ e5 (lkv_stay _ _ _ (e3.trans e5) hl)⟩
      · rw [decide_eq_false c]
        exact no c _ e5
    · rintro H3 us e3 u1 u2 u3 _
      refine ⟨_, _, rfl, .inl ⟨SqL.of u1, fun p hp => ?_⟩⟩
      have ep := same_new (o := .tup us) hp
      have e3p := e3.trans ep
      have d3 : Drawn S 201 H (upd H3 p (.tup us)) := d12.same e3p
      have hc3 := shv_stay _ _ _ e3p hc
      have hus : ∀ v, v ∈ us → KeptV K n g v (upd H3 p (.tup us)) := fun v hv => by
        obtain ⟨i, hi, ci, hl⟩ := u3 v hv
        exact ⟨L i, lkv_stay _ _ _ ep hl, okL i (by omega), ci⟩
      dsimp only [gName, tSeq]
      refine st_to (t := tIfS _ _ _) (fun σ1 H1 => ∃ l L lv, σ1 = [some (.ref S), some (.int (n : Nat)), some lv, some cv, none, none, none, none, none, none, none, none, none, none, none, none, none, none] ∧ Drawn S 205 H H1 ∧ LksV K l L lv H1 ∧ ShV K n g cv H1 ∧ Setup n l L g) ?_ (fun nx' key => ?_)
      · clear hus u1 u2 u3 e3 e3p hc3 d3 hp ep hD
        clear hc s3 s2 s1 hT
        rintro _ H4 ⟨l, L, lv, rfl, d4, hl4, hc4, su⟩
        refine ⟨_, rfl, S, 205, rfl, d4.st, by decide, fun xv x H5 d5 hx x0 bx => ?_⟩
        have C := su.case x0 bx
        have lk := su.looks
        have hl5 := d5.stay d4.st lksv_stayD hl4
        have hc5 := d5.stay d4.st shv_stayD hc4
        have dH := d4.trans d5
        refine ⟨_, rfl, _, rfl, _, rfl, n, l, lv, xv, L, x, rfl, hl5, lk, hx, bx, C, fun fv H6 e6 hf => ?_⟩
        obtain ⟨t6, lov, hiv, p1, p2, rfl, hT6, en, hlo, hhi⟩ := hf
        refine ⟨t6, _, rfl, hT6, rfl, _, _, rfl, _, _, rfl, rfl, ?_⟩
        refine ⟨_, rfl, _, rfl, _, rfl, n, l, lv, xv, L, x, rfl, lksv_mono hl5 e6, lk, hx.mono e6, bx, C, fun gv H7 e7 hf => ?_⟩
        obtain ⟨t7, few, much, r1, r2, rfl, hT7, en7, hfew, hmuch⟩ := hf
        obtain rfl := en.lo.uniq en7.lo
        obtain rfl := en.hi.uniq en7.hi
        refine ⟨t7, _, rfl, hT7, rfl, _, _, rfl, _, _, rfl, rfl, ?_⟩
        have rl := rwd_rew su.n5 (sg := -1) (.inr rfl)
        have rh := rwd_rew su.n5 (sg := 1) (.inl rfl)
        have q1 := told_of en.lo C rl
        have q2 := told_of en.hi C rh
        have blo := bd_neg (end_bd en.lo C rl)
        have bhi := end_bd en.hi C rh
        have e67 := e6.trans e7
        have held : Held K n l L x _ _ g _ _ lv cv xv lov hiv few much H7 := ⟨lksv_mono hl5 e67, shv_stay _ _ _ e67 hc5, hx.mono e67, hlo.mono e7, hhi.mono e7, hfew, hmuch⟩
        have dH := dH.same e67
        refine ⟨_, rfl, _, rfl, _, rfl, n, l, lv, xv, L, x, rfl, held.lks, lk, held.hx, bx, C, fun kv H8 e8 hk => ?_⟩
        obtain ⟨t8, f8, m8, r1, r2, rfl, hT8, en8, hf8, hm8⟩ := hk
        obtain rfl := en.lo.uniq en8.lo
        obtain rfl := en.hi.uniq en8.hi
        have held := held.same e8
        have fD := Fine.tup (.cons (fine_sh su.n5 fun k hk => (q1.sh.q hk).mono (show 520 ≤ 1200 by decide)) (.cons (fine_sh su.n5 fun k hk => (q2.sh.q hk).mono (show 520 ≤ 1200 by decide)) (FineAll.nil.k0 (k := 4))))
        refine ⟨t8, _, rfl, .tup hT8 (.cons (dp_sh hf8) (.cons (dp_sh hm8) .nil)), fD.sh, fD.nd, Nat.le_trans fD.dp (by decide), fD.line (by decide), ?_⟩
        refine ⟨_, rfl, _, rfl, by show 2 ≤ sizeLine; decide, fun p9 hp9 => ?_⟩
        have e9 := same_new (o := .tup [few, much]) hp9
        have held := held.same e9
        refine ⟨p9, _, rfl, .tup (SqT.of upd_same) (.cons (dp_sh held.few) (.cons (dp_sh held.much) .nil)), fD.sh, fD.nd, Nat.le_trans fD.dp (by decide), fD.line (by decide), rfl, _, rfl, ?_⟩
        rw [str_ne]
        have dH := (dH.same e8).same e9
        refine ⟨_, rfl, _, rfl, _, rfl, few, lv, n, l, 503, L, _, rfl, held.few, q1.sh, held.lks, by have := su.l3; omega, su.ok, q1.kept, fun H10 e10 => ⟨_, rfl, ?_⟩⟩
        have held := held.same e10
        refine ⟨_, rfl, _, rfl, _, rfl, much, lv, n, l, 503, L, _, rfl, held.much, q2.sh, held.lks, by have := su.l3; omega, su.ok, q2.kept, fun H11 e11 => ⟨_, rfl, ?_⟩⟩
        have held := held.same e11
        have dH := (dH.same e10).same e11
        refine ⟨_, rfl, _, rfl, few, xv, n, 503, _, x, rfl, held.few, q1.sh, held.hx, x0, bx, fun a1 H12 e12 h1 => ?_⟩
        have held := held.same e12
        refine ⟨_, rfl, _, rfl, much, xv, n, 503, _, x, rfl, held.much, q2.sh, held.hx, x0, bx, fun a2 H13 e13 h2 => ?_⟩
        have held := held.same e13
        rw [en.low x0] at h1
        rw [en.high x0] at h2
        refine ⟨by show 2 ≤ sizeLine; decide, fun p14 hp14 => ?_⟩
        have e14 := same_new (o := .lst [a1, a2]) hp14
        have held := held.same e14
        have fE := Fine.lst (.cons (fine_fr (blo.mono (show 1000 ≤ 1200 by decide))) (.cons (fine_fr (bhi.mono (show 1000 ≤ 1200 by decide))) (FineAll.nil.k0 (k := 3))))
        refine ⟨p14, _, rfl, .lst (SqL.of upd_same) (.cons (dp_fr ((h1.mono e13).mono e14)) (.cons (dp_fr (h2.mono e14)) .nil)), fE.sh, fE.nd, Nat.le_trans fE.dp (by decide), fE.line (by decide), ?_⟩
        refine ⟨_, rfl, _, rfl, by show 2 ≤ sizeLine; decide, fun p15 hp15 => ?_⟩
        have e15 := same_new (o := .lst [lov, hiv]) hp15
        have held := held.same e15
        refine ⟨p15, _, rfl, .lst (SqL.of upd_same) (.cons (dp_fr held.lo) (.cons (dp_fr held.hi) .nil)), fE.sh, fE.nd, Nat.le_trans fE.dp (by decide), fE.line (by decide), rfl, _, rfl, ?_⟩
        rw [str_ne]
        have dH := (((dH.same e12).same e13).same e14).same e15
        refine ⟨_, rfl, _, rfl, _, rfl, n, l, lv, xv, L, x, rfl, held.lks, lk, held.hx, bx, C, fun kv H16 e16 hk => ?_⟩
        have held := held.same e16
        obtain ⟨t16, least, most, r1, r2, rfl, hT16, en16, hle, hmo⟩ := hk
        obtain rfl := en.lo.uniq en16.lo
        obtain rfl := en.hi.uniq en16.hi
        refine ⟨t16, _, rfl, hT16, rfl, _, _, rfl, _, _, rfl, rfl, ?_⟩
        refine ⟨_, rfl, _, rfl, _, rfl, n, l, lv, xv, L, x, rfl, held.lks, lk, held.hx, bx, C, fun kv H17 e17 hk => ?_⟩
        have held := held.same e17
        obtain ⟨t17, least2, most2, r1, r2, rfl, hT17, en17, hle2, hmo2⟩ := hk
        obtain rfl := en.lo.uniq en17.lo
        obtain rfl := en.hi.uniq en17.hi
        have l4 : l ≤ 4 := by have := su.l3; omega
        have fW := Fine.tup (.cons (fine_pr l4 fun k _ => (wgt_bd en.lo C rl (n + 1 + k)).mono (show 1000 ≤ 1200 by decide)) (.cons (fine_pr l4 fun k _ => (wgt_bd en.hi C rh (n + 1 + k)).mono (show 1000 ≤ 1200 by decide)) (FineAll.nil.k0 (k := 5))))
        refine ⟨t17, _, rfl, .tup hT17 (.cons (dp_pr hle2) (.cons (dp_pr hmo2) .nil)), fW.sh, fW.nd, Nat.le_trans fW.dp (by decide), fW.line (by decide), ?_⟩
        refine ⟨_, rfl, _, rfl, by show 2 ≤ sizeLine; decide, fun p18 hp18 => ?_⟩
        have e18 := same_new (o := .tup [least, most]) hp18
        have held := held.same e18
        have hle := prsv_stay _ _ _ (e17.trans e18) hle
        have hmo := prsv_stay _ _ _ (e17.trans e18) hmo
        refine ⟨p18, _, rfl, .tup (SqT.of upd_same) (.cons (dp_pr hle) (.cons (dp_pr hmo) .nil)), fW.sh, fW.nd, Nat.le_trans fW.dp (by decide), fW.line (by decide), rfl, _, rfl, ?_⟩
        rw [str_ne]
        have dH := ((dH.same e16).same e17).same e18
        have k1 := plok_of su x0 bx en.lo rl
        have k2 := plok_of su x0 bx en.hi rh
        refine ⟨_, rfl, _, rfl, _, rfl, _, rfl, least, lv, xv, n, l, L, x, _, rfl, hle, held.lks, held.hx, k1, fun F1 H19 e19 hd => ?_⟩
        have held := held.same e19
        have hmo := prsv_stay _ _ _ e19 hmo
        refine ⟨_, rfl, _, rfl, _, rfl, _, rfl, most, lv, xv, n, l, L, x, _, rfl, hmo, held.lks, held.hx, k2, fun F2 H20 e20 hu => ⟨_, _, rfl, ?_⟩⟩
        have held := held.same e20
        have hd := hd.mono e20 fun _ _ => fr_stay
        have dH := (dH.same e19).same e20
        refine ⟨_, rfl, rfl, _, rfl, ?_⟩
        rw [decide_eq_false (by intro z; cases z)]
        refine ⟨_, rfl, rfl, _, rfl, ?_⟩
        rw [decide_eq_false (by intro z; cases z)]
        refine ⟨_, rfl, _, _, rfl, rfl, _, rfl, by omega, by omega, for_range (lo := 0) (n := (((n : Nat) : Int) + 1).toNat) (fun i σ H' => Same H20 H' ∧ ∃ y, σ = [some (.ref S), some (.int (n : Nat)), some lv, some cv, some xv, some lov, some hiv, some few, some much, some least, some most, some (.ref F1), some (.ref F2), y, none, none, none, none]) ⟨Same.refl _, none, rfl⟩ ?_ ?_⟩
        · rintro k σ H21 hk ⟨e21, y, rfl⟩
          have hk : k ≤ n := by omega
          have nk := su.n5
          simp only [Int.zero_add]
          obtain ⟨ds, d1, d2, d3⟩ := hd.mono e21 fun _ _ => fr_stay
          obtain ⟨us, u1, u2, u3⟩ := hu.mono e21 fun _ _ => fr_stay
          obtain ⟨dv, hdv, fdv⟩ := d3 k (by omega)
          obtain ⟨uv, huv, fuv⟩ := u3 k (by omega)
          have held := held.same e21
          refine ⟨_, rfl, _, rfl, _, _, k, dv, rfl, rfl, SqL.of d1, atI_nat hdv, ?_⟩
          refine ⟨_, rfl, by show 2 ≤ sizeLine; decide, fun pa hpa => ⟨_, rfl, ?_⟩⟩
          have ea := same_new (o := .tup [.int ((k : Nat) : Int), .int 1]) hpa
          refine ⟨.ref pa, lov, _, _, 11, 1000, rfl, fr_nat (SqT.of upd_same), (held.same ea).lo, bd_nat (by omega), blo, by decide, trivial, fun w1 H22 e22 hw1 => ?_⟩
          refine ⟨dv, w1, _, _, 6472, 1012, rfl, (fdv.mono ea).mono e22, hw1, k1.all hk, Bd.sub (bd_nat (by omega)) blo, by decide, _, _, rfl, rfl, _, rfl, ?_⟩
          have c1 := cmpR_le (en.down hk)
          rw [decide_eq_false (Int.not_lt.mpr c1)]
          have e22 := ea.trans e22
          refine ⟨_, rfl, _, rfl, _, _, k, uv, rfl, rfl, SqL.of (e22 _ _ u1), atI_nat huv, ?_⟩
          refine ⟨_, rfl, _, rfl, by show 2 ≤ sizeLine; decide, fun pb hpb => ?_⟩
          have eb := same_new (o := .tup [.int ((k : Nat) : Int), .int 1]) hpb
          refine ⟨hiv, .ref pb, _, _, 1000, 11, rfl, ((held.same e22).same eb).hi, fr_nat (SqT.of upd_same), bhi, bd_nat (by omega), by decide, trivial, fun w2 H23 e23 hw2 => ?_⟩
          refine ⟨uv, w2, _, _, 6472, 1012, rfl, ((fuv.mono e22).mono eb).mono e23, hw2, k2.all hk, Bd.sub bhi (bd_nat (by omega)), by decide, _, _, rfl, rfl, _, rfl, ?_⟩
          have c2 := cmpR_le (en.up hk)
          rw [decide_eq_false (Int.not_lt.mpr c2)]
          exact ⟨e21.trans (e22.trans (eb.trans e23)), some (.int (k : Nat)), rfl⟩
        · rintro σ H21 ⟨e21, y, rfl⟩
          have held := held.same e21
          have dH := dH.same e21
          refine ⟨_, rfl, _, rfl, cv, xv, n, 6, g, x, rfl, held.ch, su.sh, held.hx, x0, bx, fun hv H22 e22 hh => ?_⟩
          have held := held.same e22
          have dH := dH.same e22
          refine ⟨_, rfl, _, rfl, _, _, rfl, rfl, S, n + 1, 209, rfl, dH.st, by omega, by omega, by decide, fun r H23 hr dr => ?_⟩
          have held := held.drawn dr dH.st
          have hh := dr.stay dH.st fr_stayD hh
          have dH := dH.trans dr
          have hr : r ≤ n := by omega
          refine ⟨by show 2 ≤ sizeLine; decide, fun p24 hp24 => ?_⟩
          have e24 := same_new (o := .tup [hv, .int ((r : Nat) : Int)]) hp24
          refine ⟨p24, _, rfl, SqT.of upd_same, rfl, _, _, rfl, _, _, rfl, rfl, ?_⟩
          have held := held.same e24
          have hh := hh.mono e24
          have dH := dH.same e24
          have sb := su.sh.sn x0 bx
          have win := en.within C su.sh.ch su.kept
          refine ⟨_, rfl, _, rfl, lov, hv, _, _, 1000, 1089, rfl, held.lo, hh, blo, sb, by decide, _, _, rfl, rfl, _, rfl, ?_⟩
          rw [decide_eq_false (Int.not_lt.mpr (cmpR_le win.1))]
          refine ⟨_, rfl, _, rfl, hv, hiv, _, _, 1089, 1000, rfl, hh, held.hi, sb, bhi, by decide, _, _, rfl, rfl, _, rfl, ?_⟩
          rw [decide_eq_false (Int.not_lt.mpr (cmpR_le win.2))]
          refine ⟨_, rfl, _, rfl, _, rfl, _, rfl, n, l, r, lv, xv, L, x, rfl, held.lks, lk, held.hx, bx, C, hr, fun sv H25 e25 hs => ?_⟩
          have held := held.same e25
          have dH := dH.same e25
          obtain ⟨t25, v0, v1, b1, b2, rfl, hT25, sp, f0, f1⟩ := hs
          have bn1 := bd_neg (end_bd sp.lo C (rwn_rew (.inr rfl)))
          have bn2 := end_bd sp.hi C (rwn_rew (.inl rfl))
          refine ⟨_, rfl, _, rfl, _, rfl, by show 3 ≤ sizeLine; decide, fun p26 hp26 => ?_⟩
          have e26 := same_new (o := .lst [cv, few, much]) hp26
          have held := held.same e26
          have dH := dH.same e26
          obtain ⟨qs, hq⟩ := trio su.told q1 q2 held.ch held.few held.much
          refine ⟨p26, rfl, ⟨_, SqL.of upd_same⟩, fun D hD => lc_all (walk_list (K := K) (a := p26) (xs := [cv, few, much])) (by show 3 ≤ 1000; decide) hD (fun i => Fr K (fwd n (qs i) x r)) (fun _ _ => fr_stay) (fun _ _ => fr_stayD) (fun H' e => SqL.of (e _ _ upd_same)) ?_ ?_⟩
          · rintro k z H27 H28 Rk hk e27 _ ⟨rfl, hz⟩ rk
            obtain ⟨tq, z', hz', sz⟩ := hq k hk
            obtain rfl : z = z' := Option.some.inj (hz.symm.trans hz')
            exact ⟨rfl, _, rfl, _, rfl, _, rfl, z, xv, n, 503, r, _, x, rfl, shv_stay _ _ _ e27 sz, tq.sh, (held.same e27).hx, x0, bx, hr, fun y H e hy => rk _ _ e hy⟩
          · rintro H27 e27 ⟨vs, a1, a2, a3⟩
            have a2 : vs.length = 3 := a2
            have dH := dH.same e27
            have hT27 := sqt_mono (e26.trans e27) hT25
            have g0 := (f0.mono e26).mono e27
            have g1 := (f1.mono e26).mono e27
            refine ⟨_, rfl, D, rfl, ⟨_, SqL.of a1⟩, fun D2 hD2 => lc_all (walk_list (K := K) (a := D) (xs := vs)) (by omega) hD2 (fun _ v _ => v = .bl true) (fun _ _ _ _ _ _ h => h) (fun _ _ _ _ _ _ _ _ h => h) (fun H' e => SqL.of (e _ _ a1)) ?_ ?_⟩
            · rintro k z H28 H29 Rk hk e28 _ ⟨rfl, hz⟩ rk
              have hk : k < 3 := by omega
              obtain ⟨tq, _⟩ := hq k hk
              obtain ⟨z', hz', fz⟩ := a3 k hk
              obtain rfl : z = z' := Option.some.inj (hz.symm.trans hz')
              have wi := sp.within C hr tq.sh.ch tq.kept
              have fb := tq.sh.fw x0 bx hr
              refine ⟨rfl, _, rfl, _, _, 0, _, rfl, rfl, sqt_mono e28 hT27, at0, _, rfl, v0, z, _, _, 1000, 1083, rfl, g0.mono e28, fz.mono e28, bn1, fb, by decide, _, _, rfl, rfl, ?_⟩
              refine ⟨_, rfl, ?_⟩
              rw [decide_eq_true (cmpR_le wi.1)]
              refine ⟨_, rfl, _, rfl, _, _, 1, _, rfl, rfl, sqt_mono e28 hT27, at1, z, v1, _, _, 1083, 1000, rfl, fz.mono e28, g1.mono e28, fb, bn2, by decide, _, _, rfl, rfl, ?_⟩
              exact rk _ _ (Same.refl _) (congrArg V.bl (decide_eq_true (cmpR_le wi.2)))
            · rintro H28 e28 ⟨us, u1, u2, u3⟩
              obtain ⟨hu, ha⟩ := all_bls u2 u3
              rw [hu] at u1
              refine ⟨D2, _, rfl, SqL.of u1, ?_⟩
              rw [ha]
              exact q _ (dH.same e28).kp
      · refine ⟨_, rfl, by show 0 ≤ sizeLine; decide, fun p2 hp2 => ?_⟩
        have ep2 := same_new (o := .tup []) hp2
        have d4 := d3.same ep2
        have hc4 := shv_stay _ _ _ ep2 hc3
        obtain ⟨L2, hL2, ok2⟩ := kepts_of (a := p) (sqt_mono ep2 (SqT.of upd_same)) fun v hv => keptv_stay _ _ _ ep2 (hus v hv)
        refine ⟨_, _, dp_lks hL2, .tup (SqT.of upd_same) .nil, lks_shaped _ _, rfl, _, rfl, ?_⟩
        by_cases c : us.length = 0
        · have e : PyData.eqv (.tuple ((List.range us.length).map fun i => lkD (L2 i))) (.tuple []) = true := by rw [c]; rfl
          rw [e]
          subst hn
          refine ⟨_, rfl, S, 201, rfl, d4.st, by decide, fun xv xm H5 d5 hx x0 bx => ⟨by show 2 ≤ sizeLine; decide, fun p1 hp1 => ⟨_, rfl, by show 2 ≤ sizeLine; decide, fun p2 hp2 => ⟨by show 3 ≤ sizeLine; decide, fun p3 hp3 => ⟨by show 1 ≤ sizeLine; decide, fun p4 hp4 => ?_⟩⟩⟩⟩⟩
          have e1 := same_new (o := .tup [.int ((0 : Nat) : Int), .int 1]) hp1
          have e2 := same_new (o := .tup [.int ((1 + c0 : Nat) : Int), .int 1]) hp2
          have e3 := same_new (o := .tup [xv, .ref p1, .ref p2]) hp3
          have e4 := same_new (o := .tup [.ref p3]) hp4
          have t3 := e1.trans (e2.trans (e3.trans e4))
          have z0 : ((0 : Nat) : Rat) = 0 := rfl
          have sp := seen_span okq.ch x0
          have nn : (0 : Rat) ≤ ((1 + c0 : Nat) : Rat) := by rw [← z0]; exact Rat.natCast_le_natCast.mpr (Nat.zero_le _)
          have lo : LkOk (1 + c0) ⟨xm, ((0 : Nat) : Rat), ((1 + c0 : Nat) : Rat)⟩ := ⟨x0, by show (0 : Rat) ≤ ((0 : Nat) : Rat); rw [z0]; exact Rat.le_refl, by show ((0 : Nat) : Rat) ≤ ((1 + c0 : Nat) : Rat); rw [z0]; exact nn, Rat.le_refl, bx, (bd_nat (k := 0) (by omega)).mono (by decide), (bd_nat (k := 1 + c0) (by omega)).mono (by decide)⟩
          have kp : Kept (1 + c0) ⟨xm, ((0 : Nat) : Rat), ((1 + c0 : Nat) : Rat)⟩ g := ⟨by show ((0 : Nat) : Rat) ≤ _; rw [z0]; exact sp.1, sp.2⟩
          have hl := lkv_stay (K := K) (l := ⟨xm, ((0 : Nat) : Rat), ((1 + c0 : Nat) : Rat)⟩) (.ref p3) _ _ e4 ⟨p3, xv, .ref p1, .ref p2, rfl, SqT.of upd_same, hx.mono (e1.trans (e2.trans e3)), (fr_nat (SqT.of upd_same)).mono (e2.trans e3), (fr_nat (SqT.of upd_same)).mono e3⟩
          refine key _ _ ⟨1, fun _ => ⟨xm, ((0 : Nat) : Rat), ((1 + c0 : Nat) : Rat)⟩, .ref p4, rfl, (d4.trans d5).same t3, ⟨p4, rfl, [.ref p3], SqT.of upd_same, rfl, fun i hi => ⟨.ref p3, ?_, hl⟩⟩, shv_stay _ _ _ t3 (d5.stay d4.st shv_stayD hc4), ⟨n1, n5, by omega, by omega, fun _ _ => lo, fun _ _ => kp, okq⟩⟩
          obtain rfl : i = 0 := by omega
          rfl
        · have e : PyData.eqv (.tuple ((List.range us.length).map fun i => lkD (L2 i))) (.tuple []) = false := by
            obtain ⟨m, hm⟩ : ∃ m, us.length = m + 1 := ⟨us.length - 1, by omega⟩
            rw [hm, List.range_succ_eq_map]
            rfl
          rw [e]
          exact key _ _ ⟨us.length, L2, .ref p, by subst hn; rfl, d4.mono (by decide), hL2, hc4, n1, n5, by omega, by omega, fun i hi => (ok2 i hi).1, fun i hi => (ok2 i hi).2, okq⟩
end
end K86
set_option Elab.async false
set_option linter.all false
set_option maxRecDepth 100000
set_option maxHeartbeats 4000000
set_option exponentiation.threshold 20000
/-! The law. -/
namespace K86
open PySem PySem.Spec PyProof.Rows L2 KM
section
variable {P : Program} {w : World} {K : PySem.W.Frag} {mg : Str → Option Value} {base : Heap}
abbrev s_law : Stmt := topS 81
abbrev n_law : List Str := ["_law_script", "_law_turn"]
theorem sc_law : FnScope n_law ["_law_script"] (defScope s_law) := ⟨rfl, rfl, rfl, by decide +kernel, rfl, by decide +kernel, by decide +kernel⟩
def sp_law (K : PySem.W.Frag) : Sp := fun vs H Q _ => ∃ (a : Addr) (ns : List Int), vs = [.ref a] ∧ SqL K H a (ns.map V.int) ∧ ns.length ≤ 1000 ∧ ∀ H', Q (.bl true) H'
theorem ok_law (T : Tx K mg) : FnG P w K mg base 12 (fAt mg "law") (fdAt K mg "law") ["_law_script"] (sp_law K) := by
  refine fun_g T.d_law.F sc_law (fun vs H Q E h => ?_) (fun cdv A outer s H vs Q E hg hr h => ?_)
  · obtain ⟨a, ns, rfl, _⟩ := h
    rfl
  · obtain ⟨a, ns, rfl, hS, len, q⟩ := h
    refine ⟨_, (pss_one (ps_ret (pe_callB (cr_all rfl) (by rfl) T.n_all (by decide +kernel) (pa_cons (pe_lc (own := [("_law_turn", 1)]) rfl sc_law.nd (pi_range1 (by rfl) T.n_range (pa_cons (pe_int) pa_nil)) (blkOk_by (own := [("_law_turn", 1)]) (N := n_law) (sc := defScope s_law) (by decide +kernel)) (fun _ _ _ _ _ => pg_name (i := 1) sc_law.nd rfl (Or.inl rfl)) (fun _ _ _ _ _ => pts_nil) (fun _ _ _ _ _ => gcall (ok__law_right T) hg T.d__law_right hr (by decide) (by rfl) (pa_cons (pcall (ok__law_store T) T.d__law_store hr (by decide) (by rfl) (pa_cons (pv 0) (pa_cons (pv 1) pa_nil))) pa_nil))) pa_nil)))), ?_⟩
    refine ⟨_, rfl, by omega, by omega, fun D hD => lc_all (walk_range (lo := 0) (n := 2)) (by decide) hD (fun _ v _ => v = .bl true) (fun _ _ _ _ _ _ h => h) (fun _ _ _ _ _ _ _ _ h => h) (fun _ _ => trivial) ?_ ?_⟩
    · rintro k z H1 H2 Rk hk e1 _ ⟨rfl, hz⟩ rk
      obtain rfl : z = .int ((k : Nat) : Int) := by rw [hz]; simp
      refine ⟨rfl, _, rfl, _, rfl, a, k, ns, rfl, sql_mono e1 hS, len, by omega, fun S H3 e3 hS3 st => ?_⟩
      exact ⟨S, rfl, st, fun H4 kp => rk _ _ (fun b o hb => kp b o (fun q => by rw [q, hS3] at hb; cases hb) (e3 b o hb)) rfl⟩
    · rintro H1 e1 ⟨us, u1, u2, u3⟩
      obtain ⟨hu, ha⟩ := all_bls u2 u3
      rw [hu] at u1
      refine ⟨D, _, rfl, SqL.of u1, ?_⟩
      rw [ha]
      exact q _
end
end K86
set_option Elab.async false
set_option linter.all false
set_option maxRecDepth 100000
set_option maxHeartbeats 4000000
/-! What the top has left, by names. -/
namespace K86
open PySem PySem.Spec PyProof.Rows L2 KM
def BindF (x : Str) (i : Nat) (ps : List Str) : Prop := ∀ (kV doc pm : Value) (an : Option Addr) (cdv ct : Value) (us : List Value), us.length = ps.length → bindArgs (PySem.W.fnOf x x (defArgs (topS i)) (defBody (topS i)) (defScope (topS i)) .none kV doc pm an cdv ct) ⟨us, []⟩ = pure (ps.zip us)
theorem b_is_whole : BindF "is_whole" 8 ["value"] := fun _ _ _ _ _ _ us hl => match us, hl with | [_], _ => by kernel_rfl
theorem b_is_between : BindF "is_between" 9 ["value", "low", "high"] := fun _ _ _ _ _ _ us hl => match us, hl with | [_, _, _], _ => by kernel_rfl
theorem b_are_wholes : BindF "are_wholes" 10 ["value", "many"] := fun _ _ _ _ _ _ us hl => match us, hl with | [_, _], _ => by kernel_rfl
theorem b_divisor_of : BindF "divisor_of" 11 ["numbers"] := fun _ _ _ _ _ _ us hl => match us, hl with | [_], _ => by kernel_rfl
theorem b_lowest : BindF "lowest" 12 ["numbers"] := fun _ _ _ _ _ _ us hl => match us, hl with | [_], _ => by kernel_rfl
theorem b_sign_of : BindF "sign_of" 13 ["number"] := fun _ _ _ _ _ _ us hl => match us, hl with | [_], _ => by kernel_rfl
theorem b_is_ratio : BindF "is_ratio" 17 ["value"] := fun _ _ _ _ _ _ us hl => match us, hl with | [_], _ => by kernel_rfl
theorem b_ratio : BindF "ratio" 18 ["top", "low"] := fun _ _ _ _ _ _ us hl => match us, hl with | [_, _], _ => by kernel_rfl
theorem b_plus : BindF "plus" 19 ["one", "two"] := fun _ _ _ _ _ _ us hl => match us, hl with | [_, _], _ => by kernel_rfl
theorem b_minus : BindF "minus" 20 ["one", "two"] := fun _ _ _ _ _ _ us hl => match us, hl with | [_, _], _ => by kernel_rfl
theorem b_times : BindF "times" 21 ["one", "two"] := fun _ _ _ _ _ _ us hl => match us, hl with | [_, _], _ => by kernel_rfl
theorem b_over : BindF "over" 22 ["one", "two"] := fun _ _ _ _ _ _ us hl => match us, hl with | [_, _], _ => by kernel_rfl
theorem b_power : BindF "power" 23 ["one", "many"] := fun _ _ _ _ _ _ us hl => match us, hl with | [_, _], _ => by kernel_rfl
theorem b_total_of : BindF "total_of" 24 ["fractions"] := fun _ _ _ _ _ _ us hl => match us, hl with | [_], _ => by kernel_rfl
theorem b_is_below : BindF "is_below" 25 ["one", "two"] := fun _ _ _ _ _ _ us hl => match us, hl with | [_, _], _ => by kernel_rfl
theorem b_is_amount : BindF "is_amount" 27 ["value"] := fun _ _ _ _ _ _ us hl => match us, hl with | [_], _ => by kernel_rfl
theorem b_check_strength : BindF "check_strength" 28 ["value"] := fun _ _ _ _ _ _ us hl => match us, hl with | [_], _ => by kernel_rfl
theorem b_opposite_of : BindF "opposite_of" 30 ["number"] := fun _ _ _ _ _ _ us hl => match us, hl with | [_], _ => by kernel_rfl
theorem b_exchange : BindF "exchange" 31 ["rows", "place", "column"] := fun _ _ _ _ _ _ us hl => match us, hl with | [_, _, _], _ => by kernel_rfl
theorem b_wrong_name : BindF "wrong_name" 32 ["rows", "names", "others"] := fun _ _ _ _ _ _ us hl => match us, hl with | [_, _, _], _ => by kernel_rfl
theorem b_least_with : BindF "least_with" 33 ["names", "numbers", "sign"] := fun _ _ _ _ _ _ us hl => match us, hl with | [_, _, _], _ => by kernel_rfl
theorem b_crossed : BindF "crossed" 34 ["rows", "names", "others"] := fun _ _ _ _ _ _ us hl => match us, hl with | [_, _, _], _ => by kernel_rfl
theorem b_first_row : BindF "first_row" 35 ["numbers"] := fun _ _ _ _ _ _ us hl => match us, hl with | [_], _ => by kernel_rfl
theorem b_named_numbers : BindF "named_numbers" 36 ["names", "numbers", "start", "many"] := fun _ _ _ _ _ _ us hl => match us, hl with | [_, _, _, _], _ => by kernel_rfl
theorem b_best_shares : BindF "best_shares" 37 ["inequalities", "rewards"] := fun _ _ _ _ _ _ us hl => match us, hl with | [_, _], _ => by kernel_rfl
theorem b_check_look_seats : BindF "check_look_seats" 41 ["value"] := fun _ _ _ _ _ _ us hl => match us, hl with | [_], _ => by kernel_rfl
theorem b_is_look_for : BindF "is_look_for" 42 ["seats", "value"] := fun _ _ _ _ _ _ us hl => match us, hl with | [_, _], _ => by kernel_rfl
theorem b_wrong_look : BindF "wrong_look" 43 ["seats", "value"] := fun _ _ _ _ _ _ us hl => match us, hl with | [_, _], _ => by kernel_rfl
theorem b_check_looks : BindF "check_looks" 44 ["seats", "value"] := fun _ _ _ _ _ _ us hl => match us, hl with | [_, _], _ => by kernel_rfl
theorem b_inequalities_of : BindF "inequalities_of" 45 ["seats", "looks", "strength"] := fun _ _ _ _ _ _ us hl => match us, hl with | [_, _, _], _ => by kernel_rfl
theorem b_paired : BindF "paired" 46 ["weights"] := fun _ _ _ _ _ _ us hl => match us, hl with | [_], _ => by kernel_rfl
theorem b_shares_back : BindF "shares_back" 47 ["shares", "strength"] := fun _ _ _ _ _ _ us hl => match us, hl with | [_, _], _ => by kernel_rfl
theorem b_end_of : BindF "end_of" 48 ["seats", "looks", "strength", "sign"] := fun _ _ _ _ _ _ us hl => match us, hl with | [_, _, _, _], _ => by kernel_rfl
theorem b_both_ends : BindF "both_ends" 49 ["seats", "looks", "strength"] := fun _ _ _ _ _ _ us hl => match us, hl with | [_, _, _], _ => by kernel_rfl
theorem b_fill_range : BindF "fill_range" 50 ["seats", "looks", "strength"] := fun _ _ _ _ _ _ us hl => match us, hl with | [_, _, _], _ => by kernel_rfl
theorem b_range_shares : BindF "range_shares" 51 ["seats", "looks", "strength"] := fun _ _ _ _ _ _ us hl => match us, hl with | [_, _, _], _ => by kernel_rfl
theorem b_range_weights : BindF "range_weights" 52 ["seats", "looks", "strength"] := fun _ _ _ _ _ _ us hl => match us, hl with | [_, _, _], _ => by kernel_rfl
theorem b_number_range : BindF "number_range" 53 ["seats", "looks", "strength", "number"] := fun _ _ _ _ _ _ us hl => match us, hl with | [_, _, _, _], _ => by kernel_rfl
theorem b__law_store : BindF "_law_store" 55 ["_law_script", "_law_turn"] := fun _ _ _ _ _ _ us hl => match us, hl with | [_, _], _ => by kernel_rfl
theorem b__law_take : BindF "_law_take" 56 ["_law_store_here", "_law_top"] := fun _ _ _ _ _ _ us hl => match us, hl with | [_, _], _ => by kernel_rfl
theorem b__law_pick : BindF "_law_pick" 57 ["_law_store_here", "_law_some"] := fun _ _ _ _ _ _ us hl => match us, hl with | [_, _], _ => by kernel_rfl
theorem b__law_gcd : BindF "_law_gcd" 58 ["_law_one", "_law_two"] := fun _ _ _ _ _ _ us hl => match us, hl with | [_, _], _ => by kernel_rfl
theorem b__law_ratio : BindF "_law_ratio" 59 ["_law_n", "_law_m"] := fun _ _ _ _ _ _ us hl => match us, hl with | [_, _], _ => by kernel_rfl
theorem b__law_plus : BindF "_law_plus" 60 ["_law_one", "_law_two"] := fun _ _ _ _ _ _ us hl => match us, hl with | [_, _], _ => by kernel_rfl
theorem b__law_less : BindF "_law_less" 61 ["_law_one", "_law_two"] := fun _ _ _ _ _ _ us hl => match us, hl with | [_, _], _ => by kernel_rfl
theorem b__law_prod : BindF "_law_prod" 62 ["_law_one", "_law_two"] := fun _ _ _ _ _ _ us hl => match us, hl with | [_, _], _ => by kernel_rfl
theorem b__law_per : BindF "_law_per" 63 ["_law_one", "_law_two"] := fun _ _ _ _ _ _ us hl => match us, hl with | [_, _], _ => by kernel_rfl
theorem b__law_cmp : BindF "_law_cmp" 64 ["_law_one", "_law_two"] := fun _ _ _ _ _ _ us hl => match us, hl with | [_, _], _ => by kernel_rfl
theorem b__law_all : BindF "_law_all" 65 ["_law_some"] := fun _ _ _ _ _ _ us hl => match us, hl with | [_], _ => by kernel_rfl
theorem b__law_pow : BindF "_law_pow" 66 ["_law_one", "_law_times"] := fun _ _ _ _ _ _ us hl => match us, hl with | [_, _], _ => by kernel_rfl
theorem b__law_sum_of : BindF "_law_sum_of" 67 ["_law_some", "_law_weights2"] := fun _ _ _ _ _ _ us hl => match us, hl with | [_, _], _ => by kernel_rfl
theorem b__law_mild : BindF "_law_mild" 68 ["_law_store_here"] := fun _ _ _ _ _ _ us hl => match us, hl with | [_], _ => by kernel_rfl
theorem b__law_part : BindF "_law_part" 69 ["_law_store_here"] := fun _ _ _ _ _ _ us hl => match us, hl with | [_], _ => by kernel_rfl
theorem b__law_chances : BindF "_law_chances" 70 ["_law_store_here", "_law_count"] := fun _ _ _ _ _ _ us hl => match us, hl with | [_, _], _ => by kernel_rfl
theorem b__law_seen : BindF "_law_seen" 71 ["_law_chances_here", "_law_x"] := fun _ _ _ _ _ _ us hl => match us, hl with | [_, _], _ => by kernel_rfl
theorem b__law_view : BindF "_law_view" 72 ["_law_store_here", "_law_count", "_law_chances_here"] := fun _ _ _ _ _ _ us hl => match us, hl with | [_, _, _], _ => by kernel_rfl
theorem b__law_views : BindF "_law_views" 73 ["_law_store_here", "_law_count", "_law_most2"] := fun _ _ _ _ _ _ us hl => match us, hl with | [_, _, _], _ => by kernel_rfl
theorem b__law_is_kept : BindF "_law_is_kept" 74 ["_law_view_here", "_law_chances_here"] := fun _ _ _ _ _ _ us hl => match us, hl with | [_, _], _ => by kernel_rfl
theorem b__law_is_whole : BindF "_law_is_whole" 75 ["_law_each"] := fun _ _ _ _ _ _ us hl => match us, hl with | [_], _ => by kernel_rfl
theorem b__law_are_parts : BindF "_law_are_parts" 76 ["_law_some", "_law_count"] := fun _ _ _ _ _ _ us hl => match us, hl with | [_, _], _ => by kernel_rfl
theorem b__law_are_fit : BindF "_law_are_fit" 77 ["_law_some", "_law_count", "_law_views2"] := fun _ _ _ _ _ _ us hl => match us, hl with | [_, _, _], _ => by kernel_rfl
theorem b__law_pulls : BindF "_law_pulls" 78 ["_law_some", "_law_views2", "_law_x", "_law_count"] := fun _ _ _ _ _ _ us hl => match us, hl with | [_, _, _, _], _ => by kernel_rfl
theorem b__law_part_at : BindF "_law_part_at" 79 ["_law_chances_here", "_law_x", "_law_k"] := fun _ _ _ _ _ _ us hl => match us, hl with | [_, _, _], _ => by kernel_rfl
theorem b__law_right : BindF "_law_right" 80 ["_law_store_here"] := fun _ _ _ _ _ _ us hl => match us, hl with | [_], _ => by kernel_rfl
theorem b_law : BindF "law" 81 ["_law_script"] := fun _ _ _ _ _ _ us hl => match us, hl with | [_], _ => by kernel_rfl
def BindN (x : Str) (i : Nat) (ps : List Str) : Prop := ∀ (kV doc pm : Value) (an : Option Addr) (cdv ct : Value) (us : List Value), us.length = ps.length → bindArgs (PySem.W.fnOf x x (defArgs (topS i)) (defBody (topS i)) (defScope (topS i)) .none kV doc pm an cdv ct) ⟨[], ps.zip us⟩ = pure (ps.zip us)
theorem bn_range_shares : BindN "range_shares" 51 ["seats", "looks", "strength"] := fun _ _ _ _ _ _ us hl => match us, hl with | [_, _, _], _ => by kernel_rfl
theorem bn_range_weights : BindN "range_weights" 52 ["seats", "looks", "strength"] := fun _ _ _ _ _ _ us hl => match us, hl with | [_, _, _], _ => by kernel_rfl
section
variable {K : PySem.W.Frag} {h : Heap} {mg : Str → Option Value}
theorem df_ok (X : K.In h) (G : h.Ns mainGlobals mg) {x : Str} {i : Nat} {ps : List Str} {f : Addr} {oc : Value} {od an : Option Addr} {osl : Array (Option Value)} {kV doc pm cdv ct : Value} (a : PySem.W.nsIn K mainGlobals x = some (some (.ref f)))
    (l : K.lookup f = some ⟨oc, od, .func (PySem.W.fnOf x x (defArgs (topS i)) (defBody (topS i)) (defScope (topS i)) .none kV doc pm an cdv ct), osl⟩) (c : PySem.W.codeIn K cdv x = true) (k : PySem.W.keepIn K (.ref f) = true) (b : BindF x i ps) : Df K mg x i ps := df_mk (PySem.W.mg_of X G a) l c k b
theorem fd_eq (X : K.In h) (G : h.Ns mainGlobals mg) {x : Str} {i : Nat} {f : Addr} {oc : Value} {od an : Option Addr} {osl : Array (Option Value)} {kV doc pm cdv ct : Value} (a : PySem.W.nsIn K mainGlobals x = some (some (.ref f)))
    (l : K.lookup f = some ⟨oc, od, .func (PySem.W.fnOf x x (defArgs (topS i)) (defBody (topS i)) (defScope (topS i)) .none kV doc pm an cdv ct), osl⟩) : fdAt K mg x = PySem.W.fnOf x x (defArgs (topS i)) (defBody (topS i)) (defScope (topS i)) .none kV doc pm an cdv ct := by
  have hm := PySem.W.mg_of X G a
  have e1 : fAt mg x = f := by unfold fAt; rw [hm]
  unfold fdAt
  rw [e1, l]
theorem kb_ok (X : K.In h) (G : h.Ns mainGlobals mg) {x : Str} {i : Nat} {ps : List Str} {f : Addr} {oc : Value} {od an : Option Addr} {osl : Array (Option Value)} {kV doc pm cdv ct : Value} (p0 : 0 < ps.length) (a : PySem.W.nsIn K mainGlobals x = some (some (.ref f)))
    (l : K.lookup f = some ⟨oc, od, .func (PySem.W.fnOf x x (defArgs (topS i)) (defBody (topS i)) (defScope (topS i)) .none kV doc pm an cdv ct), osl⟩) (b : BindN x i ps) : KBinds K (fdAt K mg x) ps ps allK allK := by
  rw [fd_eq X G a l]
  exact kb_of p0 fun ws hl => b _ _ _ _ _ _ ws hl
theorem law_bind (X : K.In h) (G : h.Ns mainGlobals mg) {f : Addr} {oc : Value} {od an : Option Addr} {osl : Array (Option Value)} {kV doc pm cdv ct : Value} (a : PySem.W.nsIn K mainGlobals "law" = some (some (.ref f)))
    (l : K.lookup f = some ⟨oc, od, .func (PySem.W.fnOf "law" "law" (defArgs (topS 81)) (defBody (topS 81)) (defScope (topS 81)) .none kV doc pm an cdv ct), osl⟩) (s : Shared) (u : Value) : BindsTo s (fdAt K mg "law") ⟨[u], []⟩ [("_law_script", u)] := by
  rw [fd_eq X G a l]
  exact .of_eq (b_law _ _ _ _ _ _ [u] rfl)
theorem fat_of {x : Str} {f : Addr} (h : mg x = some (.ref f)) : fAt mg x = f := by unfold fAt; rw [h]
theorem glo_ok (X : K.In h) (G : h.Ns mainGlobals mg) {x : Str} {f : Addr} (a : PySem.W.nsIn K mainGlobals x = some (some (.ref f))) : mg x = some (.ref (fAt mg x)) := by
  have hm := PySem.W.mg_of X G a
  rw [fat_of hm]
  exact hm
theorem int_ok (X : K.In h) (G : h.Ns mainGlobals mg) {x : Str} {i : Int} {t : Tok} (a : PySem.W.nsIn K mainGlobals x = some (some (.int i t))) : ∃ t, mg x = some (.int i t) := ⟨t, PySem.W.mg_of X G a⟩
theorem tup_ok (X : K.In h) (G : h.Ns mainGlobals mg) {x : Str} {f : Addr} {od : Option Addr} {osl : Array (Option Value)} {i1 i2 : Int} {t1 t2 m : Nat} (a : PySem.W.nsIn K mainGlobals x = some (some (.ref f)))
    (l : K.lookup f = some ⟨.type "tuple", od, .seq #[.int i1 t1, .int i2 t2] m, osl⟩) (H : Hp) : SqT K H (fAt mg x) [.int i1, .int i2] := by
  rw [fat_of (PySem.W.mg_of X G a)]
  exact .inr ⟨_, _, _, l, rfl, rfl, by show 2 ≤ sizeLine; decide, .cons ⟨_, rfl⟩ (.cons ⟨_, rfl⟩ .nil)⟩
end
theorem walk_law {l : PySem.W.OpenLaw} {q : Program} {loose : List Str} {XP : (Str → Option Value) → Heap → Prop} {YP : World → Heap → Prop} {d : DefRec} {fr : Params → PySem.W.Frag}
    (most : l.most = some 63) (plain : d.params.defaults = []) (holds : ∀ (wd : World) (h : Heap), YP wd h → (fr wd.params).In h)
    (F : ∀ (wd : World) (nm : Str → Option Value) (fa : Addr) (h : Heap), (fr wd.params).In h → h.Ns mainGlobals nm → nm d.name = some (.ref fa) →
      fAt nm "law" = fa ∧ (∀ (s2 : Shared) (u : Value), BindsTo s2 (fdAt (fr wd.params) nm "law") ⟨[u], []⟩ [("_law_script", u)]) ∧ Tx (fr wd.params) nm) :
    PySem.W.WalkO q loose XP YP l.row.toRowW d [] (fun f vs => PySem.call f vs) :=
  walk_g (sp := sp_law) (lv := 12) (x := "_law_script") most (by decide) plain ⟨rfl, by decide, by decide⟩ holds (fun wd nm fa h inn ns hm => by
    obtain ⟨rfl, hb, T⟩ := F wd nm fa h inn ns hm
    exact ⟨_, hb, fun b _ _ => ok_law T⟩) fun K H a zint len hS => ⟨a, zint, rfl, hS, by omega, fun _ => rfl⟩
end K86
open PySem PySem.W PyProof.Rows
set_option maxRecDepth 100000 in
set_option maxHeartbeats 0 in
theorem PySem.Challenge.cw_guestseats_k86_whole_papers_of_ranges_holds : PySem.Challenge.rw_guestseats_k86_whole_papers_of_ranges.Holds := by
  w_on; o_law; k_head; (case hw => w_witness2)
  k_fill
  refine K86.walk_law (l := PySem.Challenge.rw_guestseats_k86_whole_papers_of_ranges) rfl rfl (fun w h Y => PySem.W.kIn_of Y) ?F
  case F =>
    intro w mg fa h KX G hmg
    refine' ⟨K86.fat_of hmg, K86.law_bind KX G ?al ?ll, ?tx⟩
    (case al => k_is); (case ll => k_is)
    case tx =>
      refine' {
        d_is_whole := K86.df_ok KX G ?a8 ?l8 ?c8 ?k8 K86.b_is_whole,
        d_is_between := K86.df_ok KX G ?a9 ?l9 ?c9 ?k9 K86.b_is_between,
        d_are_wholes := K86.df_ok KX G ?a10 ?l10 ?c10 ?k10 K86.b_are_wholes,
        d_divisor_of := K86.df_ok KX G ?a11 ?l11 ?c11 ?k11 K86.b_divisor_of,
        d_lowest := K86.df_ok KX G ?a12 ?l12 ?c12 ?k12 K86.b_lowest,
        d_sign_of := K86.df_ok KX G ?a13 ?l13 ?c13 ?k13 K86.b_sign_of,
        d_is_ratio := K86.df_ok KX G ?a17 ?l17 ?c17 ?k17 K86.b_is_ratio,
        d_ratio := K86.df_ok KX G ?a18 ?l18 ?c18 ?k18 K86.b_ratio,
        d_plus := K86.df_ok KX G ?a19 ?l19 ?c19 ?k19 K86.b_plus,
        d_minus := K86.df_ok KX G ?a20 ?l20 ?c20 ?k20 K86.b_minus,
        d_times := K86.df_ok KX G ?a21 ?l21 ?c21 ?k21 K86.b_times,
        d_over := K86.df_ok KX G ?a22 ?l22 ?c22 ?k22 K86.b_over,
        d_power := K86.df_ok KX G ?a23 ?l23 ?c23 ?k23 K86.b_power,
        d_total_of := K86.df_ok KX G ?a24 ?l24 ?c24 ?k24 K86.b_total_of,
        d_is_below := K86.df_ok KX G ?a25 ?l25 ?c25 ?k25 K86.b_is_below,
        d_is_amount := K86.df_ok KX G ?a27 ?l27 ?c27 ?k27 K86.b_is_amount,
        d_check_strength := K86.df_ok KX G ?a28 ?l28 ?c28 ?k28 K86.b_check_strength,
        d_opposite_of := K86.df_ok KX G ?a30 ?l30 ?c30 ?k30 K86.b_opposite_of,
        d_exchange := K86.df_ok KX G ?a31 ?l31 ?c31 ?k31 K86.b_exchange,
        d_wrong_name := K86.df_ok KX G ?a32 ?l32 ?c32 ?k32 K86.b_wrong_name,
        d_least_with := K86.df_ok KX G ?a33 ?l33 ?c33 ?k33 K86.b_least_with,
        d_crossed := K86.df_ok KX G ?a34 ?l34 ?c34 ?k34 K86.b_crossed,
        d_first_row := K86.df_ok KX G ?a35 ?l35 ?c35 ?k35 K86.b_first_row,
        d_named_numbers := K86.df_ok KX G ?a36 ?l36 ?c36 ?k36 K86.b_named_numbers,
        d_best_shares := K86.df_ok KX G ?a37 ?l37 ?c37 ?k37 K86.b_best_shares,
        d_check_look_seats := K86.df_ok KX G ?a41 ?l41 ?c41 ?k41 K86.b_check_look_seats,
        d_is_look_for := K86.df_ok KX G ?a42 ?l42 ?c42 ?k42 K86.b_is_look_for,
        d_wrong_look := K86.df_ok KX G ?a43 ?l43 ?c43 ?k43 K86.b_wrong_look,
        d_check_looks := K86.df_ok KX G ?a44 ?l44 ?c44 ?k44 K86.b_check_looks,
        d_inequalities_of := K86.df_ok KX G ?a45 ?l45 ?c45 ?k45 K86.b_inequalities_of,
        d_paired := K86.df_ok KX G ?a46 ?l46 ?c46 ?k46 K86.b_paired,
        d_shares_back := K86.df_ok KX G ?a47 ?l47 ?c47 ?k47 K86.b_shares_back,
        d_end_of := K86.df_ok KX G ?a48 ?l48 ?c48 ?k48 K86.b_end_of,
        d_both_ends := K86.df_ok KX G ?a49 ?l49 ?c49 ?k49 K86.b_both_ends,
        d_fill_range := K86.df_ok KX G ?a50 ?l50 ?c50 ?k50 K86.b_fill_range,
        d_range_shares := K86.df_ok KX G ?a51 ?l51 ?c51 ?k51 K86.b_range_shares,
        d_range_weights := K86.df_ok KX G ?a52 ?l52 ?c52 ?k52 K86.b_range_weights,
        d_number_range := K86.df_ok KX G ?a53 ?l53 ?c53 ?k53 K86.b_number_range,
        d__law_store := K86.df_ok KX G ?a55 ?l55 ?c55 ?k55 K86.b__law_store,
        d__law_take := K86.df_ok KX G ?a56 ?l56 ?c56 ?k56 K86.b__law_take,
        d__law_pick := K86.df_ok KX G ?a57 ?l57 ?c57 ?k57 K86.b__law_pick,
        d__law_gcd := K86.df_ok KX G ?a58 ?l58 ?c58 ?k58 K86.b__law_gcd,
        d__law_ratio := K86.df_ok KX G ?a59 ?l59 ?c59 ?k59 K86.b__law_ratio,
        d__law_plus := K86.df_ok KX G ?a60 ?l60 ?c60 ?k60 K86.b__law_plus,
        d__law_less := K86.df_ok KX G ?a61 ?l61 ?c61 ?k61 K86.b__law_less,
        d__law_prod := K86.df_ok KX G ?a62 ?l62 ?c62 ?k62 K86.b__law_prod,
        d__law_per := K86.df_ok KX G ?a63 ?l63 ?c63 ?k63 K86.b__law_per,
        d__law_cmp := K86.df_ok KX G ?a64 ?l64 ?c64 ?k64 K86.b__law_cmp,
        d__law_all := K86.df_ok KX G ?a65 ?l65 ?c65 ?k65 K86.b__law_all,
        d__law_pow := K86.df_ok KX G ?a66 ?l66 ?c66 ?k66 K86.b__law_pow,
        d__law_sum_of := K86.df_ok KX G ?a67 ?l67 ?c67 ?k67 K86.b__law_sum_of,
        d__law_mild := K86.df_ok KX G ?a68 ?l68 ?c68 ?k68 K86.b__law_mild,
        d__law_part := K86.df_ok KX G ?a69 ?l69 ?c69 ?k69 K86.b__law_part,
        d__law_chances := K86.df_ok KX G ?a70 ?l70 ?c70 ?k70 K86.b__law_chances,
        d__law_seen := K86.df_ok KX G ?a71 ?l71 ?c71 ?k71 K86.b__law_seen,
        d__law_view := K86.df_ok KX G ?a72 ?l72 ?c72 ?k72 K86.b__law_view,
        d__law_views := K86.df_ok KX G ?a73 ?l73 ?c73 ?k73 K86.b__law_views,
        d__law_is_kept := K86.df_ok KX G ?a74 ?l74 ?c74 ?k74 K86.b__law_is_kept,
        d__law_is_whole := K86.df_ok KX G ?a75 ?l75 ?c75 ?k75 K86.b__law_is_whole,
        d__law_are_parts := K86.df_ok KX G ?a76 ?l76 ?c76 ?k76 K86.b__law_are_parts,
        d__law_are_fit := K86.df_ok KX G ?a77 ?l77 ?c77 ?k77 K86.b__law_are_fit,
        d__law_pulls := K86.df_ok KX G ?a78 ?l78 ?c78 ?k78 K86.b__law_pulls,
        d__law_part_at := K86.df_ok KX G ?a79 ?l79 ?c79 ?k79 K86.b__law_part_at,
        d__law_right := K86.df_ok KX G ?a80 ?l80 ?c80 ?k80 K86.b__law_right,
        d_law := K86.df_ok KX G ?a81 ?l81 ?c81 ?k81 K86.b_law,
        n_isinstance := PySem.W.mg_none_of KX G ?n_isinstance,
        n_len := PySem.W.mg_none_of KX G ?n_len,
        n_all := PySem.W.mg_none_of KX G ?n_all,
        n_tuple := PySem.W.mg_none_of KX G ?n_tuple,
        n_min := PySem.W.mg_none_of KX G ?n_min,
        n_enumerate := PySem.W.mg_none_of KX G ?n_enumerate,
        n_zip := PySem.W.mg_none_of KX G ?n_zip,
        n_range := PySem.W.mg_none_of KX G ?n_range,
        n_list := PySem.W.mg_none_of KX G ?n_list,
        n_int := PySem.W.mg_none_of KX G ?n_int,
        n_bool := PySem.W.mg_none_of KX G ?n_bool,
        n_sum := PySem.W.mg_none_of KX G ?n_sum,
        n_abs := PySem.W.mg_none_of KX G ?n_abs,
        n_divmod := PySem.W.mg_none_of KX G ?n_divmod,
        n_repr := PySem.W.mg_none_of KX G ?n_repr,
        m_gcd := PySem.W.mg_of KX G ?gcd,
        mMOST_LOOKS := K86.int_ok KX G ?mMOST_LOOKS,
        mMOST_OF_LOOKS := K86.int_ok KX G ?mMOST_OF_LOOKS,
        mZERO := K86.glo_ok KX G ?gZERO,
        tZERO := K86.tup_ok KX G ?tZERO ?uZERO,
        mONE := K86.glo_ok KX G ?gONE,
        tONE := K86.tup_ok KX G ?tONE ?uONE,
        k_range_shares := K86.kb_ok KX G (by decide) ?xrange_shares ?yrange_shares K86.bn_range_shares,
        k_range_weights := K86.kb_ok KX G (by decide) ?xrange_weights ?yrange_weights K86.bn_range_weights }
      (case a8 => k_is); (case l8 => k_is); (case c8 => k_is); (case k8 => k_is); (case a9 => k_is); (case l9 => k_is); (case c9 => k_is); (case k9 => k_is)
      (case a10 => k_is); (case l10 => k_is); (case c10 => k_is); (case k10 => k_is); (case a11 => k_is); (case l11 => k_is); (case c11 => k_is); (case k11 => k_is)
      (case a12 => k_is); (case l12 => k_is); (case c12 => k_is); (case k12 => k_is); (case a13 => k_is); (case l13 => k_is); (case c13 => k_is); (case k13 => k_is)
      (case a17 => k_is); (case l17 => k_is); (case c17 => k_is); (case k17 => k_is); (case a18 => k_is); (case l18 => k_is); (case c18 => k_is); (case k18 => k_is)
      (case a19 => k_is); (case l19 => k_is); (case c19 => k_is); (case k19 => k_is); (case a20 => k_is); (case l20 => k_is); (case c20 => k_is); (case k20 => k_is)
      (case a21 => k_is); (case l21 => k_is); (case c21 => k_is); (case k21 => k_is); (case a22 => k_is); (case l22 => k_is); (case c22 => k_is); (case k22 => k_is)
      (case a23 => k_is); (case l23 => k_is); (case c23 => k_is); (case k23 => k_is); (case a24 => k_is); (case l24 => k_is); (case c24 => k_is); (case k24 => k_is)
      (case a25 => k_is); (case l25 => k_is); (case c25 => k_is); (case k25 => k_is); (case a27 => k_is); (case l27 => k_is); (case c27 => k_is); (case k27 => k_is)
      (case a28 => k_is); (case l28 => k_is); (case c28 => k_is); (case k28 => k_is); (case a30 => k_is); (case l30 => k_is); (case c30 => k_is); (case k30 => k_is)
      (case a31 => k_is); (case l31 => k_is); (case c31 => k_is); (case k31 => k_is); (case a32 => k_is); (case l32 => k_is); (case c32 => k_is); (case k32 => k_is)
      (case a33 => k_is); (case l33 => k_is); (case c33 => k_is); (case k33 => k_is); (case a34 => k_is); (case l34 => k_is); (case c34 => k_is); (case k34 => k_is)
      (case a35 => k_is); (case l35 => k_is); (case c35 => k_is); (case k35 => k_is); (case a36 => k_is); (case l36 => k_is); (case c36 => k_is); (case k36 => k_is)
      (case a37 => k_is); (case l37 => k_is); (case c37 => k_is); (case k37 => k_is); (case a41 => k_is); (case l41 => k_is); (case c41 => k_is); (case k41 => k_is)
      (case a42 => k_is); (case l42 => k_is); (case c42 => k_is); (case k42 => k_is); (case a43 => k_is); (case l43 => k_is); (case c43 => k_is); (case k43 => k_is)
      (case a44 => k_is); (case l44 => k_is); (case c44 => k_is); (case k44 => k_is); (case a45 => k_is); (case l45 => k_is); (case c45 => k_is); (case k45 => k_is)
      (case a46 => k_is); (case l46 => k_is); (case c46 => k_is); (case k46 => k_is); (case a47 => k_is); (case l47 => k_is); (case c47 => k_is); (case k47 => k_is)
      (case a48 => k_is); (case l48 => k_is); (case c48 => k_is); (case k48 => k_is); (case a49 => k_is); (case l49 => k_is); (case c49 => k_is); (case k49 => k_is)
      (case a50 => k_is); (case l50 => k_is); (case c50 => k_is); (case k50 => k_is); (case a51 => k_is); (case l51 => k_is); (case c51 => k_is); (case k51 => k_is)
      (case a52 => k_is); (case l52 => k_is); (case c52 => k_is); (case k52 => k_is); (case a53 => k_is); (case l53 => k_is); (case c53 => k_is); (case k53 => k_is)
      (case a55 => k_is); (case l55 => k_is); (case c55 => k_is); (case k55 => k_is); (case a56 => k_is); (case l56 => k_is); (case c56 => k_is); (case k56 => k_is)
      (case a57 => k_is); (case l57 => k_is); (case c57 => k_is); (case k57 => k_is); (case a58 => k_is); (case l58 => k_is); (case c58 => k_is); (case k58 => k_is)
      (case a59 => k_is); (case l59 => k_is); (case c59 => k_is); (case k59 => k_is); (case a60 => k_is); (case l60 => k_is); (case c60 => k_is); (case k60 => k_is)
      (case a61 => k_is); (case l61 => k_is); (case c61 => k_is); (case k61 => k_is); (case a62 => k_is); (case l62 => k_is); (case c62 => k_is); (case k62 => k_is)
      (case a63 => k_is); (case l63 => k_is); (case c63 => k_is); (case k63 => k_is); (case a64 => k_is); (case l64 => k_is); (case c64 => k_is); (case k64 => k_is)
      (case a65 => k_is); (case l65 => k_is); (case c65 => k_is); (case k65 => k_is); (case a66 => k_is); (case l66 => k_is); (case c66 => k_is); (case k66 => k_is)
      (case a67 => k_is); (case l67 => k_is); (case c67 => k_is); (case k67 => k_is); (case a68 => k_is); (case l68 => k_is); (case c68 => k_is); (case k68 => k_is)
      (case a69 => k_is); (case l69 => k_is); (case c69 => k_is); (case k69 => k_is); (case a70 => k_is); (case l70 => k_is); (case c70 => k_is); (case k70 => k_is)
      (case a71 => k_is); (case l71 => k_is); (case c71 => k_is); (case k71 => k_is); (case a72 => k_is); (case l72 => k_is); (case c72 => k_is); (case k72 => k_is)
      (case a73 => k_is); (case l73 => k_is); (case c73 => k_is); (case k73 => k_is); (case a74 => k_is); (case l74 => k_is); (case c74 => k_is); (case k74 => k_is)
      (case a75 => k_is); (case l75 => k_is); (case c75 => k_is); (case k75 => k_is); (case a76 => k_is); (case l76 => k_is); (case c76 => k_is); (case k76 => k_is)
      (case a77 => k_is); (case l77 => k_is); (case c77 => k_is); (case k77 => k_is); (case a78 => k_is); (case l78 => k_is); (case c78 => k_is); (case k78 => k_is)
      (case a79 => k_is); (case l79 => k_is); (case c79 => k_is); (case k79 => k_is); (case a80 => k_is); (case l80 => k_is); (case c80 => k_is); (case k80 => k_is)
      (case a81 => k_is); (case l81 => k_is); (case c81 => k_is); (case k81 => k_is); (case n_isinstance => k_is); (case n_len => k_is); (case n_all => k_is); (case n_tuple => k_is)
      (case n_min => k_is); (case n_enumerate => k_is); (case n_zip => k_is); (case n_range => k_is); (case n_list => k_is); (case n_int => k_is); (case n_bool => k_is); (case n_sum => k_is)
      (case n_abs => k_is); (case n_divmod => k_is); (case n_repr => k_is); (case gcd => k_is); (case mMOST_LOOKS => k_is); (case mMOST_OF_LOOKS => k_is); (case gZERO => k_is); (case tZERO => k_is)
      (case uZERO => k_is); (case gONE => k_is); (case tONE => k_is); (case uONE => k_is); (case xrange_shares => k_is); (case yrange_shares => k_is); (case xrange_weights => k_is); (case yrange_weights => k_is)
