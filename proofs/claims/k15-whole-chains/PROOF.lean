import PyProof.Rows.All
import Wide.All
import OpenK.AllK
import Wide.FinOn
import HandS.ForMost
import HandS.Wide
import HandS.TupAny
import HandS.Style
import HandS.FStrTup
import PyProof.ReprRoads
import HandS.Codes
import PySem.Challenge.RW_numberpapers_k15_whole_chains
set_option Elab.async false
set_option linter.all false
set_option maxRecDepth 100000
/-! The mathematics of chains of ratios: no program in sight. -/
namespace K15
/-! ### the chain of a / b, b from 0 on, by fuel -/
def chnF : Nat → Int → Int → List Int
  | 0, _, _ => []
  | n + 1, a, b => if b = 0 then [] else (a / b) :: chnF n b (a % b)
def chn (a b : Int) : List Int := chnF (b.natAbs + 1) a b
theorem rem_lt {a b : Int} (h : 0 < b) : 0 ≤ a % b ∧ (a % b).natAbs < b.natAbs := by
  have h1 := Int.emod_nonneg a (show b ≠ 0 by omega)
  have h2 := Int.emod_lt_of_pos a h
  omega
theorem chnF_fuel : ∀ (n m : Nat) (a b : Int), 0 ≤ b → b.natAbs < n → b.natAbs < m → chnF n a b = chnF m a b
  | 0, _, _, _, _, h, _ => absurd h (Nat.not_lt_zero _)
  | _ + 1, 0, _, _, _, _, h => absurd h (Nat.not_lt_zero _)
  | n + 1, m + 1, a, b, h0, h1, h2 => by
    unfold chnF
    by_cases hb : b = 0
    · rw [if_pos hb, if_pos hb]
    · rw [if_neg hb, if_neg hb]
      have := rem_lt (a := a) (show 0 < b by omega)
      rw [chnF_fuel n m b (a % b) this.1 (by omega) (by omega)]
theorem chn_zero (a : Int) : chn a 0 = [] := by
  unfold chn chnF
  rw [if_pos rfl]
theorem chn_pos (a : Int) {b : Int} (h : 0 < b) : chn a b = (a / b) :: chn b (a % b) := by
  have := rem_lt (a := a) h
  have e : chn a b = (a / b) :: chnF b.natAbs b (a % b) := by
    show chnF (b.natAbs + 1) a b = _
    rw [chnF, if_neg (by omega)]
  rw [e]
  show _ = (a / b) :: chnF ((a % b).natAbs + 1) b (a % b)
  rw [chnF_fuel b.natAbs ((a % b).natAbs + 1) b (a % b) this.1 this.2 (by omega)]
/-- induction along the chain -/
theorem chn_ind {motive : Int → Int → Prop} (z : ∀ a, motive a 0) (s : ∀ a b, 0 < b → motive b (a % b) → motive a b) : ∀ (a b : Int), 0 ≤ b → motive a b := by
  have go : ∀ (n : Nat) (a b : Int), 0 ≤ b → b.natAbs < n → motive a b := by
    intro n
    induction n with
    | zero => intro a b _ h; exact absurd h (Nat.not_lt_zero _)
    | succ n ih =>
      intro a b h0 h1
      by_cases hb : b = 0
      · subst hb; exact z a
      · have := rem_lt (a := a) (show 0 < b by omega)
        exact s a b (by omega) (ih b (a % b) this.1 (by omega))
  intro a b h
  exact go (b.natAbs + 1) a b h (by omega)
/-- the chain of a / b, b of either sign -/
def chain (a b : Int) : List Int := if b < 0 then chn (-a) (-b) else chn a b
theorem chain_neg (a b : Int) (h : b ≠ 0) : chain (-a) (-b) = chain a b := by
  unfold chain
  by_cases hb : b < 0
  · rw [if_neg (by omega), if_pos hb]
  · rw [if_pos (by omega), if_neg hb, Int.neg_neg, Int.neg_neg]
theorem chain_pos {a b : Int} (h : 0 < b) : chain a b = chn a b := by
  unfold chain
  rw [if_neg (by omega)]
/-! ### bounds -/
def Bd (n : Nat) (l : List Int) : Prop := ∀ x ∈ l, x.natAbs < 2 ^ n
theorem Bd.mono {n m : Nat} {l : List Int} (h : Bd n l) (le : n ≤ m) : Bd m l := fun x hx => Nat.lt_of_lt_of_le (h x hx) (Nat.pow_le_pow_right (by decide) le)
theorem chn_bd (n : Nat) : ∀ (a b : Int), 0 ≤ b → a.natAbs < 2 ^ n → b.natAbs < 2 ^ n → Bd n (chn a b) :=
  chn_ind (motive := fun a b => a.natAbs < 2 ^ n → b.natAbs < 2 ^ n → Bd n (chn a b)) (fun a _ _ => by
    rw [chn_zero]
    exact fun x hx => absurd hx List.not_mem_nil) fun a b h ih ha hb => by
      have := rem_lt (a := a) h
      rw [chn_pos a h]
      intro x hx
      rcases List.mem_cons.mp hx with e | e
      · subst e
        exact Nat.lt_of_le_of_lt (Int.natAbs_ediv_le_natAbs a b) ha
      · exact ih hb (by omega) x e
theorem chn_len : ∀ (n : Nat) (a b : Int), 0 ≤ b → b.natAbs < 2 ^ n → (chn a b).length ≤ 2 * n + 1
  | 0, a, b, h0, h => by
    have e : b = 0 := by
      have : (2 : Nat) ^ 0 = 1 := rfl
      omega
    subst e
    rw [chn_zero]
    exact Nat.zero_le _
  | n + 1, a, b, h0, h => by
    by_cases hb : b = 0
    · subst hb
      rw [chn_zero]
      exact Nat.zero_le _
    · have r1 := rem_lt (a := a) (show 0 < b by omega)
      rw [chn_pos a (by omega), List.length_cons]
      by_cases hr : a % b = 0
      · rw [hr, chn_zero]
        simp
      · rw [chn_pos b (show 0 < a % b by omega), List.length_cons]
        have r2 := rem_lt (a := b) (show 0 < a % b by omega)
        have half : 2 * (b % (a % b)) < b := by
          have e := Int.mul_ediv_add_emod b (a % b)
          have hq : 1 ≤ b / (a % b) := by
            exact Int.le_ediv_of_mul_le (show 0 < a % b by omega) (by omega)
          have hm : (a % b) * 1 ≤ (a % b) * (b / (a % b)) := Int.mul_le_mul_of_nonneg_left hq (by omega)
          omega
        have h2 : (b % (a % b)).natAbs < 2 ^ n := by
          rw [Nat.pow_succ] at h
          omega
        have := chn_len n (a % b) (b % (a % b)) r2.1 h2
        omega
/-! ### folding -/
def mv (e : Int) (v : Int × Int) : Int × Int := (e * v.1 + v.2, v.1)
def fA (l : List Int) : Int × Int := l.foldr mv (1, 0)
def fB (l : List Int) : Int × Int := l.foldr mv (0, 1)
theorem A_cons (e : Int) (l : List Int) : fA (e :: l) = (e * (fA l).1 + (fA l).2, (fA l).1) := rfl
theorem B_cons (e : Int) (l : List Int) : fB (e :: l) = (e * (fB l).1 + (fB l).2, (fB l).1) := rfl
theorem lin (x y : Int) : ∀ l : List Int, l.foldr mv (x, y) = (x * (fA l).1 + y * (fB l).1, x * (fA l).2 + y * (fB l).2)
  | [] => by
    show (x, y) = (x * 1 + y * 0, x * 0 + y * 1)
    simp
  | e :: l => by
    have ih := lin x y l
    show mv e (l.foldr mv (x, y)) = _
    rw [ih, A_cons, B_cons]
    unfold mv
    refine Prod.ext ?_ rfl
    show e * (x * (fA l).1 + y * (fB l).1) + (x * (fA l).2 + y * (fB l).2) = x * (e * (fA l).1 + (fA l).2) + y * (e * (fB l).1 + (fB l).2)
    grind
theorem A_append (l r : List Int) : fA (l ++ r) = ((fA r).1 * (fA l).1 + (fA r).2 * (fB l).1, (fA r).1 * (fA l).2 + (fA r).2 * (fB l).2) := by
  have e : fA (l ++ r) = l.foldr mv (r.foldr mv (1, 0)) := by
    show (l ++ r).foldr mv (1, 0) = _
    rw [List.foldr_append]
  rw [e]
  exact lin _ _ l
theorem A_snoc (l : List Int) (e : Int) : fA (l ++ [e]) = (e * (fA l).1 + (fB l).1, e * (fA l).2 + (fB l).2) := by
  rw [A_append]
  show ((e * 1 + 0) * (fA l).1 + 1 * (fB l).1, (e * 1 + 0) * (fA l).2 + 1 * (fB l).2) = _
  simp
theorem B_snoc (l : List Int) (e : Int) : fB (l ++ [e]) = fA l := by
  show (l ++ [e]).foldr mv (0, 1) = _
  rw [List.foldr_append]
  show l.foldr mv (e * 0 + 1, 0) = _
  rw [Int.mul_zero, Int.zero_add]
  rfl
theorem A_bd {m : Nat} : ∀ {l : List Int}, Bd m l → (fA l).1.natAbs < 2 ^ ((m + 1) * l.length + 1) ∧ (fA l).2.natAbs < 2 ^ ((m + 1) * l.length + 1)
  | [], _ => by
    show (1 : Int).natAbs < 2 ^ ((m + 1) * 0 + 1) ∧ (0 : Int).natAbs < 2 ^ ((m + 1) * 0 + 1)
    simp
  | e :: l, h => by
    obtain ⟨h1, h2⟩ := A_bd (l := l) fun x hx => h x (List.mem_cons_of_mem _ hx)
    have he := h e List.mem_cons_self
    have ex : (m + 1) * (e :: l).length + 1 = m + ((m + 1) * l.length + 1) + 1 := by
      rw [List.length_cons, Nat.mul_succ]
      omega
    rw [ex, A_cons, Nat.pow_succ]
    generalize ((m + 1) * l.length + 1) = c at *
    have hc : 2 ^ c ≤ 2 ^ (m + c) := Nat.pow_le_pow_right (by decide) (by omega)
    refine ⟨?_, by show (fA l).1.natAbs < _; omega⟩
    show (e * (fA l).1 + (fA l).2).natAbs < _
    have hm : (e * (fA l).1).natAbs < 2 ^ (m + c) := by
      rw [Nat.pow_add, Int.natAbs_mul]
      exact Nat.mul_lt_mul'' he h1
    have := Int.natAbs_add_le (e * (fA l).1) (fA l).2
    omega
theorem B_eq {l : List Int} (h : l ≠ []) : fB l = fA l.dropLast := by
  have e := List.dropLast_concat_getLast h
  rw [← e, B_snoc, List.dropLast_concat]
/-- the sign at a length -/
def sgn : Nat → Int
  | 0 => 1
  | n + 1 => -sgn n
theorem sgn_or : ∀ n, sgn n = 1 ∨ sgn n = -1
  | 0 => .inl rfl
  | n + 1 => by
    have := sgn_or n
    show -sgn n = 1 ∨ -sgn n = -1
    omega
theorem det : ∀ l : List Int, (fA l).1 * (fB l).2 - (fB l).1 * (fA l).2 = sgn l.length
  | [] => rfl
  | e :: l => by
    have ih := det l
    rw [A_cons, B_cons, List.length_cons]
    show (e * (fA l).1 + (fA l).2) * (fB l).1 - (e * (fB l).1 + (fB l).2) * (fA l).1 = -sgn l.length
    rw [← ih]
    grind
/-- all entries are at least 1 -/
def AllPos (l : List Int) : Prop := ∀ x ∈ l, 1 ≤ x
theorem AllPos.tail {e : Int} {l : List Int} (h : AllPos (e :: l)) : AllPos l := fun x hx => h x (List.mem_cons_of_mem _ hx)
theorem A_pos : ∀ {l : List Int}, AllPos l → 1 ≤ (fA l).1 ∧ 0 ≤ (fA l).2 ∧ (fA l).2 ≤ (fA l).1
  | [], _ => by
    show (1 : Int) ≤ 1 ∧ (0 : Int) ≤ 0 ∧ (0 : Int) ≤ 1
    decide
  | e :: l, h => by
    obtain ⟨h1, h2, h3⟩ := A_pos h.tail
    have he := h e List.mem_cons_self
    have hm : 1 * (fA l).1 ≤ e * (fA l).1 := Int.mul_le_mul_of_nonneg_right he (by omega)
    rw [A_cons]
    show 1 ≤ e * (fA l).1 + (fA l).2 ∧ 0 ≤ (fA l).1 ∧ (fA l).1 ≤ e * (fA l).1 + (fA l).2
    omega
theorem B_pos : ∀ {l : List Int}, AllPos l → 0 ≤ (fB l).1 ∧ 0 ≤ (fB l).2
  | [], _ => by
    show (0 : Int) ≤ 0 ∧ (0 : Int) ≤ 1
    decide
  | e :: l, h => by
    obtain ⟨h1, h2⟩ := B_pos h.tail
    have he := h e List.mem_cons_self
    have hm : 0 ≤ e * (fB l).1 := Int.mul_nonneg (by omega) h1
    rw [B_cons]
    show 0 ≤ e * (fB l).1 + (fB l).2 ∧ 0 ≤ (fB l).1
    omega
/-- the row of the convergents -/
def convs (row : List Int) : List (Int × Int) := (List.range row.length).map fun k => fA (row.take (k + 1))
theorem convs_len (row : List Int) : (convs row).length = row.length := by
  unfold convs
  simp only [List.length_map, List.length_range]
theorem convs_get {row : List Int} {k : Nat} (h : k < row.length) : (convs row)[k]? = some (fA (row.take (k + 1))) := by
  unfold convs
  rw [List.getElem?_map, List.getElem?_range h]
  rfl
theorem convs_last {row : List Int} (h : row ≠ []) : (convs row)[row.length - 1]? = some (fA row) := by
  have h1 : 0 < row.length := List.length_pos_iff.mpr h
  rw [convs_get (by omega), List.take_of_length_le (by omega)]
/-- a row as it is handed in: entries from the second one on at least 1 -/
structure Row (row : List Int) : Prop where
  ne : row ≠ []
  pos : AllPos row.tail
theorem Row.q_pos {row : List Int} (h : Row row) : 1 ≤ (fA row).2 := by
  cases row with
  | nil => exact absurd rfl h.ne
  | cons a t => exact (A_pos (l := t) h.pos).1
theorem Row.take {row : List Int} (h : Row row) (k : Nat) : Row (row.take (k + 1)) := by
  cases row with
  | nil => exact absurd rfl h.ne
  | cons a t =>
    refine ⟨by simp, fun x hx => ?_⟩
    have hx : x ∈ t.take k := hx
    exact h.pos x (List.mem_of_mem_take hx)
theorem split_at {row : List Int} {k : Nat} (h : k < row.length) : row.take (k + 1) = row.take k ++ [row[k]] := by
  rw [List.take_add_one, List.getElem?_eq_getElem h]
  rfl
/-- neighbours -/
theorem nb {row : List Int} {k : Nat} (h : k < row.length) : (fA (row.take (k + 1))).1 * (fA (row.take k)).2 - (fA (row.take k)).1 * (fA (row.take (k + 1))).2 = sgn (k + 1) := by
  have e := det (row.take (k + 1))
  rw [List.length_take, Nat.min_eq_left h] at e
  rw [split_at h, B_snoc, ← split_at h] at e
  exact e
def ab (i : Int) : Int := if i < 0 then -i else i
theorem ab_mulsign {D z : Int} (h : D = 1 ∨ D = -1) : ab (D * z) = ab z := by
  unfold ab
  rcases h with h | h
  · subst h
    rw [Int.one_mul]
  · subst h
    rw [Int.neg_one_mul]
    split <;> split <;> omega
/-- the heart: two neighbours (p, q), (p1, q1), the whole between them -/
theorem near {p q p1 q1 X Y D d n : Int} (hD : D = 1 ∨ D = -1) (eD : p * q1 - p1 * q = D) (h1 : 1 ≤ q1) (h2 : q1 ≤ q) (hX : 1 ≤ X) (hY : 0 ≤ Y) (hYX : Y ≤ X) (hd : 1 ≤ d) (hdq : d < q) :
    ab ((X * p + Y * p1) * q - p * (X * q + Y * q1)) * d < ab ((X * p + Y * p1) * d - n * (X * q + Y * q1)) * q := by
  have dd : D * D = 1 := by rcases hD with h | h <;> subst h <;> rfl
  -- n = u p + v p1, d = u q + v q1
  have hv : ∃ v, v = D * (p * d - n * q) := ⟨_, rfl⟩
  obtain ⟨v, ev⟩ := hv
  have hu : ∃ u, u = D * (n * q1 - p1 * d) := ⟨_, rfl⟩
  obtain ⟨u, eu⟩ := hu
  have ed : d = u * q + v * q1 := by
    have : u * q + v * q1 = D * (p * q1 - p1 * q) * d := by rw [eu, ev]; grind
    rw [this, eD, dd, Int.one_mul]
  have e1 : (X * p + Y * p1) * q - p * (X * q + Y * q1) = D * (-Y) := by
    rw [← eD]
    grind
  have e2 : (X * p + Y * p1) * d - n * (X * q + Y * q1) = D * (X * v - Y * u) := by
    have f1 : p * d - n * q = D * v := by rw [ev, ← Int.mul_assoc, dd, Int.one_mul]
    have f2 : n * q1 - p1 * d = D * u := by rw [eu, ← Int.mul_assoc, dd, Int.one_mul]
    have : (X * p + Y * p1) * d - n * (X * q + Y * q1) = X * (p * d - n * q) - Y * (n * q1 - p1 * d) := by grind
    rw [this, f1, f2]
    grind
  rw [e1, e2, ab_mulsign hD, ab_mulsign hD]
  have eY : ab (-Y) = Y := by
    unfold ab
    split <;> omega
  rw [eY]
  have hZ : X ≤ ab (X * v - Y * u) := by
    by_cases hv0 : 1 ≤ v
    · have hu0 : u ≤ 0 := by
        refine Int.not_lt.mp fun hu1 => ?_
        have a1 : 1 * q ≤ u * q := Int.mul_le_mul_of_nonneg_right hu1 (by omega)
        have a2 : 0 ≤ v * q1 := Int.mul_nonneg (by omega) (by omega)
        omega
      have b1 : X * 1 ≤ X * v := Int.mul_le_mul_of_nonneg_left hv0 (by omega)
      have b2 : 0 ≤ Y * (-u) := Int.mul_nonneg hY (by omega)
      rw [Int.mul_neg] at b2
      unfold ab
      split <;> omega
    · by_cases hv1 : v = 0
      · subst hv1
        rw [Int.zero_mul, Int.add_zero] at ed
        by_cases hu1 : 1 ≤ u
        · have a1 : 1 * q ≤ u * q := Int.mul_le_mul_of_nonneg_right hu1 (by omega)
          omega
        · have a1 : 0 ≤ (-u) * q := Int.mul_nonneg (by omega) (by omega)
          rw [Int.neg_mul] at a1
          omega
      · have hu1 : 1 ≤ u := by
          refine Int.not_lt.mp fun hu1 => ?_
          have a1 : 0 ≤ (-u) * q := Int.mul_nonneg (by omega) (by omega)
          have a2 : 0 ≤ (-v) * q1 := Int.mul_nonneg (by omega) (by omega)
          rw [Int.neg_mul] at a1 a2
          omega
        have b1 : X * 1 ≤ X * (-v) := Int.mul_le_mul_of_nonneg_left (by omega) (by omega)
        have b2 : 0 ≤ Y * u := Int.mul_nonneg hY (by omega)
        rw [Int.mul_neg] at b1
        unfold ab
        split <;> omega
  have c1 : Y * d ≤ ab (X * v - Y * u) * d := Int.mul_le_mul_of_nonneg_right (by omega) (by omega)
  have c2 : ab (X * v - Y * u) * d < ab (X * v - Y * u) * q := Int.mul_lt_mul_of_pos_left hdq (by omega)
  omega
/-- each convergent from the second one on is nearer to the whole than every ratio with a lesser denominator -/
theorem nearest {row : List Int} (R : Row row) {k : Nat} (h1 : 1 ≤ k) (h : k < row.length) {d n : Int} (hd : 1 ≤ d) (hdq : d < (fA (row.take (k + 1))).2) :
    ab ((fA row).1 * (fA (row.take (k + 1))).2 - (fA (row.take (k + 1))).1 * (fA row).2) * d < ab ((fA row).1 * d - n * (fA row).2) * (fA (row.take (k + 1))).2 := by
  obtain ⟨j, rfl⟩ : ∃ j, k = j + 1 := ⟨k - 1, by omega⟩
  have R1 := R.take j
  have R2 := R.take (j + 1)
  have hs := split_at h
  have hdet := nb h
  have hq1 := R1.q_pos
  have hB : 0 ≤ (fB (row.take (j + 1))).2 := by
    cases row with
    | nil => exact absurd rfl R.ne
    | cons a t =>
      have z : AllPos (t.take j) := fun x hx => R.pos x (List.mem_of_mem_take hx)
      show 0 ≤ (fB (a :: t.take j)).2
      exact (B_pos z).1
  have hx : 1 ≤ row[j + 1] := by
    cases row with
    | nil => exact absurd rfl R.ne
    | cons a t => exact R.pos _ (List.getElem_mem _)
  have hq : (fA (row.take (j + 1))).2 ≤ (fA (row.take (j + 1 + 1))).2 := by
    rw [hs, A_snoc]
    show _ ≤ row[j + 1] * (fA (row.take (j + 1))).2 + (fB (row.take (j + 1))).2
    have : 1 * (fA (row.take (j + 1))).2 ≤ row[j + 1] * (fA (row.take (j + 1))).2 := Int.mul_le_mul_of_nonneg_right hx (by omega)
    omega
  have hP : AllPos (row.drop (j + 1 + 1)) := by
    cases row with
    | nil => exact absurd rfl R.ne
    | cons a t => exact fun x hx => R.pos x (List.mem_of_mem_drop (i := j + 1) hx)
  obtain ⟨g1, g2, g3⟩ := A_pos hP
  have eW : fA row = ((fA (row.drop (j + 1 + 1))).1 * (fA (row.take (j + 1 + 1))).1 + (fA (row.drop (j + 1 + 1))).2 * (fA (row.take (j + 1))).1, (fA (row.drop (j + 1 + 1))).1 * (fA (row.take (j + 1 + 1))).2 + (fA (row.drop (j + 1 + 1))).2 * (fA (row.take (j + 1))).2) := by
    have e := A_append (row.take (j + 1 + 1)) (row.drop (j + 1 + 1))
    rw [List.take_append_drop] at e
    rw [e, hs, B_snoc]
  rw [eW]
  exact near (sgn_or _) hdet hq1 hq g1 g2 g3 hd hdq
/-! ### the chain of the last convergent -/
/-- a last 1 added to the entry ahead -/
def least : List Int → List Int
  | [] => []
  | [a] => [a]
  | [a, b] => if b = 1 then [a + 1] else [a, b]
  | a :: b :: c :: r => a :: least (b :: c :: r)
theorem chn_one (a : Int) : chn a 1 = [a] := by
  rw [chn_pos a (by decide), Int.ediv_one, Int.emod_one, chn_zero]
theorem A_strict : ∀ {r : List Int}, r ≠ [] → AllPos r → r ≠ [1] → (fA r).2 < (fA r).1
  | [], h, _, _ => absurd rfl h
  | [a], _, hp, h1 => by
    have := hp a List.mem_cons_self
    have ha : a ≠ 1 := fun e => h1 (by rw [e])
    show (1 : Int) < a * 1 + 0
    omega
  | a :: b :: r, _, hp, _ => by
    have he := hp a List.mem_cons_self
    obtain ⟨h1, h2, h3⟩ := A_pos hp.tail
    have h4 : 1 ≤ (fA (b :: r)).2 := (A_pos hp.tail.tail).1
    rw [A_cons]
    show (fA (b :: r)).1 < a * (fA (b :: r)).1 + (fA (b :: r)).2
    have : 1 * (fA (b :: r)).1 ≤ a * (fA (b :: r)).1 := Int.mul_le_mul_of_nonneg_right he (by omega)
    omega
theorem chn_step {a p q : Int} (h0 : 0 ≤ q) (h1 : q < p) : chn (a * p + q) p = a :: chn p q := by
  have hp : 0 < p := by omega
  have e1 : (a * p + q) / p = a := by
    rw [Int.add_comm, Int.add_mul_ediv_right _ _ (by omega), Int.ediv_eq_zero_of_lt h0 h1, Int.zero_add]
  have e2 : (a * p + q) % p = q := by
    rw [Int.add_comm, Int.add_mul_emod_self_right, Int.emod_eq_of_lt h0 h1]
  rw [chn_pos _ hp, e1, e2]
theorem chn_fold : ∀ {row : List Int}, Row row → chn (fA row).1 (fA row).2 = least row
  | [], R => absurd rfl R.ne
  | [a], _ => by
    show chn (a * 1 + 0) 1 = [a]
    rw [Int.mul_one, Int.add_zero, chn_one]
  | [a, b], R => by
    have hb := R.pos b (by simp)
    by_cases h : b = 1
    · subst h
      show chn (a * (1 * 1 + 0) + 1) (1 * 1 + 0) = (if (1 : Int) = 1 then [a + 1] else [a, 1])
      rw [if_pos rfl, Int.mul_one, Int.add_zero, Int.mul_one, chn_one]
    · show chn (a * (b * 1 + 0) + 1) (b * 1 + 0) = (if b = 1 then [a + 1] else [a, b])
      rw [if_neg h, Int.mul_one, Int.add_zero, chn_step (by decide) (by omega), chn_one]
  | a :: b :: c :: r, R => by
    have hp : AllPos (b :: c :: r) := R.pos
    have R2 : Row (b :: c :: r) := ⟨by simp, hp.tail⟩
    have hs := A_strict (r := b :: c :: r) (by simp) hp (by simp)
    have h0 := (A_pos hp).2.1
    rw [A_cons]
    show chn (a * (fA (b :: c :: r)).1 + (fA (b :: c :: r)).2) (fA (b :: c :: r)).1 = a :: least (b :: c :: r)
    rw [chn_step h0 hs, chn_fold R2]
/-- least as the law says it -/
theorem least_keep : ∀ {row : List Int} (h : row ≠ []), row.length = 1 ∨ 1 < row.getLast h → least row = row
  | [], h, _ => absurd rfl h
  | [_], _, _ => rfl
  | [a, b], _, h => by
    have hb : 1 < b := by
      rcases h with h | h
      · simp at h
      · exact h
    show (if b = 1 then [a + 1] else [a, b]) = [a, b]
    rw [if_neg (by omega)]
  | a :: b :: c :: r, _, h => by
    have h2 : 1 < (b :: c :: r).getLast (by simp) := by
      rcases h with h | h
      · simp at h
      · rw [List.getLast_cons (by simp)] at h
        exact h
    show a :: least (b :: c :: r) = _
    rw [least_keep (by simp) (.inr h2)]
theorem least_one : ∀ {l : List Int} {x : Int}, least (l ++ [x, 1]) = l ++ [x + 1]
  | [], x => rfl
  | [a], x => rfl
  | a :: b :: l, x => by
    have ih := least_one (l := b :: l) (x := x)
    cases l with
    | nil => rfl
    | cons c r =>
      show a :: least (b :: c :: (r ++ [x, 1])) = a :: b :: c :: (r ++ [x + 1])
      exact congrArg (a :: ·) ih
/-- no common part -/
theorem gcd_one {row : List Int} : Int.gcd (fA row).1 (fA row).2 = 1 := by
  have e := det row
  have hd : ((Int.gcd (fA row).1 (fA row).2 : Nat) : Int) ∣ sgn row.length := by
    rw [← e]
    exact Int.dvd_sub (Int.dvd_trans (Int.gcd_dvd_left ..) (Int.dvd_mul_right ..)) (Int.dvd_trans (Int.gcd_dvd_right ..) (Int.dvd_mul_left ..))
  have h2 : ((Int.gcd (fA row).1 (fA row).2 : Nat) : Int) ∣ 1 := by
    rcases sgn_or row.length with h | h
    · rw [h] at hd
      exact hd
    · rw [h] at hd
      exact (Int.dvd_neg.mp hd)
  have := Int.le_of_dvd (by decide) h2
  have h3 : Int.gcd (fA row).1 (fA row).2 ≠ 0 := fun z => by
    rw [z] at h2
    exact absurd (Int.zero_dvd.mp h2) (by decide)
  omega
/-- the chain's last convergent is the ratio in lowest terms -/
theorem gcd_rem (a b : Int) : Int.gcd b (a % b) = Int.gcd a b := by
  have e := Int.mul_ediv_add_emod a b
  have : a % b = a + (-(a / b)) * b := by
    rw [Int.neg_mul, Int.mul_comm (a / b) b]
    omega
  rw [this, Int.gcd_add_mul_right_right, Int.gcd_comm]
theorem fold_chn : ∀ (a b : Int), 0 ≤ b → (b = 0 → 0 ≤ a) → (fA (chn a b)).1 * (Int.gcd a b : Int) = a ∧ (fA (chn a b)).2 * (Int.gcd a b : Int) = b :=
  chn_ind (motive := fun a b => (b = 0 → 0 ≤ a) → (fA (chn a b)).1 * (Int.gcd a b : Int) = a ∧ (fA (chn a b)).2 * (Int.gcd a b : Int) = b)
    (fun a h => by
      have ha := h rfl
      rw [chn_zero, Int.gcd_zero_right]
      show 1 * (a.natAbs : Int) = a ∧ 0 * (a.natAbs : Int) = 0
      omega)
    (fun a b hb ih _ => by
      obtain ⟨i1, i2⟩ := ih fun _ => by omega
      rw [gcd_rem] at i1 i2
      rw [chn_pos a hb, A_cons]
      refine ⟨?_, i1⟩
      show ((a / b) * (fA (chn b (a % b))).1 + (fA (chn b (a % b))).2) * (Int.gcd a b : Int) = a
      rw [Int.add_mul, Int.mul_assoc, i1, i2, Int.mul_comm]
      exact Int.mul_ediv_add_emod a b)
theorem gcd_ne {a b : Int} (h : b ≠ 0) : (Int.gcd a b : Int) ≠ 0 := fun z => by
  have : Int.gcd a b = 0 := by omega
  exact h (Int.gcd_eq_zero_iff.mp this).2
/-- what the law asks of a ratio -/
theorem ratio_fst {a b : Int} (h : b ≠ 0) : a.fdiv ((Int.gcd a b : Int) * (if b > 0 then 1 else -1)) = (fA (chain a b)).1 ∧ b.fdiv ((Int.gcd a b : Int) * (if b > 0 then 1 else -1)) = (fA (chain a b)).2 := by
  have hg := gcd_ne (a := a) h
  by_cases hb : b < 0
  · have e : chain a b = chn (-a) (-b) := by
      unfold chain
      rw [if_pos hb]
    obtain ⟨i1, i2⟩ := fold_chn (-a) (-b) (by omega) (by omega)
    rw [Int.gcd_neg, Int.neg_gcd] at i1 i2
    rw [e, if_neg (by omega)]
    have n1 : (Int.gcd a b : Int) * -1 ≠ 0 := by omega
    refine ⟨?_, ?_⟩
    · have : a = (fA (chn (-a) (-b))).1 * ((Int.gcd a b : Int) * -1) := by
        rw [← Int.mul_assoc, i1]
        omega
      exact (congrArg (fun z => Int.fdiv z ((Int.gcd a b : Int) * -1)) this).trans (Int.mul_fdiv_cancel _ n1)
    · have : b = (fA (chn (-a) (-b))).2 * ((Int.gcd a b : Int) * -1) := by
        rw [← Int.mul_assoc, i2]
        omega
      exact (congrArg (fun z => Int.fdiv z ((Int.gcd a b : Int) * -1)) this).trans (Int.mul_fdiv_cancel _ n1)
  · have hb' : 0 < b := by omega
    obtain ⟨i1, i2⟩ := fold_chn a b (by omega) (by omega)
    rw [chain_pos hb', if_pos hb', Int.mul_one]
    refine ⟨?_, ?_⟩
    · exact (congrArg (fun z => Int.fdiv z (Int.gcd a b : Int)) i1.symm).trans (Int.mul_fdiv_cancel _ hg)
    · exact (congrArg (fun z => Int.fdiv z (Int.gcd a b : Int)) i2.symm).trans (Int.mul_fdiv_cancel _ hg)
end K15
/-! The greatest integer not above a ratio; the common part by halving. -/
namespace K15
def fl (a b : Int) : Int := if b < 0 then (-a) / (-b) else a / b
theorem up_floor {a b : Int} (h : 0 < b) : -((b - 1 - a) / b) = a / b := by
  have e := Int.mul_ediv_add_emod a b
  have r1 := Int.emod_nonneg a (show b ≠ 0 by omega)
  have r2 := Int.emod_lt_of_pos a h
  have : b - 1 - a = (b - 1 - a % b) + (-(a / b)) * b := by
    rw [Int.neg_mul, Int.mul_comm (a / b) b]
    omega
  rw [this, Int.add_mul_ediv_right _ _ (by omega), Int.ediv_eq_zero_of_lt (by omega) (by omega)]
  omega
theorem fl_pos {a b : Int} (h : 0 < b) : fl a b = a / b := by
  unfold fl
  rw [if_neg (by omega)]
theorem fl_neg {a b : Int} (h : 0 < b) : fl (-a) (-b) = a / b := by
  unfold fl
  rw [if_pos (by omega), Int.neg_neg, Int.neg_neg]
theorem ab_nonneg (i : Int) : 0 ≤ ab i := by
  unfold ab
  split <;> omega
theorem ab_abs (i : Int) : (ab i).natAbs = i.natAbs := by
  unfold ab
  split <;> omega
theorem gcd_ab (a b : Int) : Int.gcd (ab a) (ab b) = Int.gcd a b := by
  unfold Int.gcd
  rw [ab_abs, ab_abs]
theorem gcd_zero {a b : Int} (h : a = 0 ∨ b = 0) : ab a + ab b = (Int.gcd a b : Int) := by
  rcases h with h | h
  · subst h
    rw [Int.gcd_zero_left]
    unfold ab
    split <;> split <;> omega
  · subst h
    rw [Int.gcd_zero_right]
    unfold ab
    split <;> split <;> omega
theorem gcd_both {a b : Int} (ha : a % 2 = 0) (hb : b % 2 = 0) : Int.gcd a b = 2 * Int.gcd (a / 2) (b / 2) := by
  have e1 : a = 2 * (a / 2) := by omega
  have e2 : b = 2 * (b / 2) := by omega
  have := Int.gcd_mul_left 2 (a / 2) (b / 2)
  rw [← e1, ← e2] at this
  exact this
theorem cop_two {b : Int} (hb : b % 2 ≠ 0) : Nat.Coprime 2 b.natAbs := by
  have h : b.natAbs % 2 = 1 := by omega
  unfold Nat.Coprime
  rw [Nat.gcd_rec, h]
  decide
theorem gcd_half {a b : Int} (ha : a % 2 = 0) (hb : b % 2 ≠ 0) : Int.gcd (a / 2) b = Int.gcd a b := by
  have e1 : a = 2 * (a / 2) := by omega
  have c := Nat.Coprime.gcd_mul_left_cancel (a / 2).natAbs (cop_two hb)
  have e2 : a.natAbs = 2 * (a / 2).natAbs := by omega
  unfold Int.gcd
  rw [e2]
  exact c.symm
theorem gcd_minus (a b : Int) : Int.gcd (a - b) b = Int.gcd a b := by
  have := Int.gcd_add_mul_right_right b a (-1)
  rw [Int.gcd_comm b a, Int.gcd_comm b _] at this
  rw [← this]
  congr 1
  omega
theorem gcd_odd {a b : Int} (ha : a % 2 ≠ 0) (hb : b % 2 ≠ 0) : Int.gcd ((a - b) / 2) b = Int.gcd a b := by
  rw [gcd_half (by omega) hb, gcd_minus]
theorem gcd_le {a b : Int} (h : 0 < a) : (Int.gcd a b : Int) ≤ a := by
  have := Int.gcd_dvd_left (a := a) (b := b)
  exact Int.le_of_dvd h this
end K15
/-! What the hand layer lacks: defs under known guards, repr of data, t[::-1], // by a great divisor of either sign. -/
namespace K15
open L2 PySem PySem.Spec PyProof.Rows
/-! ### the text by places -/
def topS (i : Nat) : Stmt := PySem.Challenge.pw_numberpapers_k15_whole_chains.main.body.getD i (.Pass ⟨0, 0, 0, 0⟩)
abbrev sChain : Stmt := topS 1
abbrev sConv : Stmt := topS 2
abbrev sBegun : Stmt := topS 4
abbrev sDraw : Stmt := topS 5
abbrev sOf : Stmt := topS 6
abbrev sLike : Stmt := topS 7
abbrev sSized : Stmt := topS 8
abbrev sSigned : Stmt := topS 9
abbrev sCommon : Stmt := topS 10
abbrev sFloor : Stmt := topS 12
abbrev sLchain : Stmt := topS 13
abbrev sFolded : Stmt := topS 14
abbrev sNear : Stmt := topS 15
abbrev sRow : Stmt := topS 16
abbrev sRatio : Stmt := topS 17
abbrev sLaw : Stmt := topS 18
/-! ### a def where no repr is under way -/
structure FnG (P : Program) (w : World) (K : PySem.W.Frag) (mg : Str → Option Value) (base : Heap) (k : Nat) (f : Addr) (fd : FuncData) (ps : List Str) (sp : Sp) : Prop where
  len : ∀ (vs : List V) (H : Hp) (Q : VK) (E : XK), sp vs H Q E → vs.length = ps.length
  go : ∀ (A : Around) (outer : List Env) (s : Shared) (H : Hp) (args : Args) (us : List Value) (vs : List V) (Q : VK) (E : XK), A.guards = some [] → Room k A → Env0 P w K mg base A outer s H →
    BindsTo s fd args (ps.zip us) → Vals vs us → sp vs H Q E → codeAny (model P w) A (.call (.ref f) args) (CR CX0 outer P w H s Q E) s
section
variable {K : PySem.W.Frag} {mg : Str → Option Value} {P : Program} {w : World} {base : Heap}
theorem fng_of {x qual : Str} {st : Stmt} {f : Addr} {fd : FuncData} {N ps : List Str} {k : Nat} {sp : Sp} (F : Fun K x qual st f fd) (S : FnScope N ps (defScope st)) (len : ∀ vs H Q E, sp vs H Q E → vs.length = ps.length)
    (hb : ∀ (cdv : Value) (A : Around) (outer : List Env) (s : Shared) (H : Hp) (vs : List V) (Q : VK) (E : XK), (A.deeper (envOfC qual (defScope st) s.heap.objs.size f cdv)).guards = some [] →
      Room k (A.deeper (envOfC qual (defScope st) s.heap.objs.size f cdv)) → sp vs H Q E →
      ∃ t, PSs (cxOf CX0 P w K mg base N qual (defScope st) f cdv A outer s H E).nox (defBody st) t ∧ t { nx := fun _ H' => Q .non H', rt := Q } (start N vs) H) : FnG P w K mg base (k + 1) f fd ps sp := by
  obtain ⟨c0, d0, k0, doc, pm, an, cdv, ct, sl0, rfl, lk, hcd⟩ := F.ex
  refine ⟨len, fun A outer s H args us vs Q E hg hr e0 hbi r hsp => ?_⟩
  have hkeep : ∀ b o, base.get? b = some o → s.heap.get? b = some o := fun b o e => (e0.bs b o e).1
  have hKs := e0.mod.kin.keeps hkeep
  have hlims := e0.mod.nolimit.keeps hkeep
  refine codeAny_call_function hr.depth (hKs _ _ lk) rfl S.co S.gen rfl (PySem.W.codeRec_of hKs hcd) (hbi _ _ _ _ ?_)
  refine wpAny_newFunctionEnv_cells S.kind (fun y hy => ?_) fun env he s1 z => ?_
  · obtain ⟨n, v⟩ := y
    exact (S.par n (List.of_mem_zip hy).1).elim .inl fun hc => .inr ⟨hc, PySem.W.cellsFrom_some _ _ _ (.inl hc)⟩
  · subst he
    refine ⟨hlims.keeps z.toInCall.keep, codeAny_func ?_⟩
    obtain ⟨t, ht, hq⟩ := hb cdv A outer s H vs Q E hg (hr.deeper _) hsp
    have I := inv_start (CX := CX0) (E := E) (N := N) S hr.hd e0 (len _ _ _ _ hsp) r z
    refine wpAny_mono (ht.nox.run [] s1 (start N vs) H _ I hq) (fun fl s' hs => ?_) fun e s' hs => hs
    cases fl with
    | next =>
      obtain ⟨σ', H', J, q⟩ := hs
      exact ⟨.non, H', J.os, J.bare, J.base, J.hok, rfl, q⟩
    | brk =>
      obtain ⟨_, _, _, q⟩ := hs
      exact q.elim
    | cont =>
      obtain ⟨_, _, _, q⟩ := hs
      exact q.elim
    | ret u =>
      obtain ⟨x, _, H2, J, rx, qx⟩ := hs
      exact ⟨x, H2, J.os, J.bare, J.base, J.hok, rx, qx⟩
theorem FnG.mono {j k : Nat} {f : Addr} {fd : FuncData} {ps : List Str} {sp : Sp} (F : FnG P w K mg base j f fd ps sp) (h : j ≤ k) : FnG P w K mg base k f fd ps sp :=
  ⟨F.len, fun A outer s H args us vs Q E hg hr => F.go A outer s H args us vs Q E hg (hr.mono h)⟩
/-- a name of the module that holds a def with its promise -/
def Good (P : Program) (w : World) (K : PySem.W.Frag) (mg : Str → Option Value) (base : Heap) (k : Nat) (x : Str) (ps : List Str) (sp : Sp) : Prop :=
  ∃ (f : Addr) (fd : FuncData), FnOk P w K mg base CX0 k f fd ps sp ∧ Binds K fd ps [] ∧ mg x = some (.ref f) ∧ PySem.W.keepIn K (.ref f) = true
def GoodG (P : Program) (w : World) (K : PySem.W.Frag) (mg : Str → Option Value) (base : Heap) (k : Nat) (x : Str) (ps : List Str) (sp : Sp) : Prop :=
  ∃ (f : Addr) (fd : FuncData), FnG P w K mg base k f fd ps sp ∧ Binds K fd ps [] ∧ mg x = some (.ref f) ∧ PySem.W.keepIn K (.ref f) = true
/-- a def of the text stands at a name -/
def Def (K : PySem.W.Frag) (mg : Str → Option Value) (x : Str) (st : Stmt) (ps : List Str) : Prop :=
  ∃ (f : Addr) (fd : FuncData), Fun K x x st f fd ∧ Binds K fd ps [] ∧ mg x = some (.ref f)
theorem Def.good {x : Str} {st : Stmt} {ps : List Str} {k : Nat} {sp : Sp} (D : Def K mg x st ps) (h : ∀ f fd, Fun K x x st f fd → FnOk P w K mg base CX0 k f fd ps sp) : Good P w K mg base k x ps sp := by
  obtain ⟨f, fd, F, b, g⟩ := D
  exact ⟨f, fd, h f fd F, b, g, F.kp⟩
theorem Def.goodG {x : Str} {st : Stmt} {ps : List Str} {k : Nat} {sp : Sp} (D : Def K mg x st ps) (h : ∀ f fd, Fun K x x st f fd → FnG P w K mg base k f fd ps sp) : GoodG P w K mg base k x ps sp := by
  obtain ⟨f, fd, F, b, g⟩ := D
  exact ⟨f, fd, h f fd F, b, g, F.kp⟩
end
section
variable {X : Cx} {k : Nat} {x : Str} {ps : List Str} {sp : Sp} {p pos : Pos} {e : Expr} {es : List Expr} {t : TA}
abbrev XGood (X : Cx) (k : Nat) (x : Str) (ps : List Str) (sp : Sp) : Prop := Good X.prog X.w X.K X.mg X.base k x ps sp
abbrev XGoodG (X : Cx) (k : Nat) (x : Str) (ps : List Str) (sp : Sp) : Prop := GoodG X.prog X.w X.K X.mg X.base k x ps sp
/-- f(e, ..), f a def with its promise -/
theorem pe_g (G : XGood X k x ps sp) (hr : Room k X.A) (ha : PA X (e :: es) t) (hg : Gl X x := by rfl) (hdb : (x == ("__debug__" : Str)) = false := by decide)
    (he : starEach (e :: es) X.env = (false, eval e X.env) :: starEach es X.env := by rfl) (hpl : (backTo pos (starEach es X.env)).any (·.1) = false := by rfl) : PE X (.Call (.Name x p) (e :: es) [] pos) (tCall sp [] E0 t) := by
  obtain ⟨f, fd, F, b, g, kp⟩ := G
  exact pe_call F hr hg g kp b .nil pass0 ha hdb he hpl
theorem pe_gG (G : XGoodG X k x ps sp) (hgd : X.A.guards = some []) (hr : Room k X.A) (ha : PA X (e :: es) t) (hg : Gl X x := by rfl) (hdb : (x == ("__debug__" : Str)) = false := by decide)
    (he : starEach (e :: es) X.env = (false, eval e X.env) :: starEach es X.env := by rfl) (hpl : (backTo pos (starEach es X.env)).any (·.1) = false := by rfl) : PE X (.Call (.Name x p) (e :: es) [] pos) (tCall sp [] E0 t) := by
  obtain ⟨f, fd, F, b, g, kp⟩ := G
  refine ⟨fun pins s σ H Q I h => wpAny_Call_Name_kw (ld_glob I hg g ?_ hdb)⟩
  refine PySem.W.callWith_K (h₀ := X.base) I.ok.mod.kin kp (thn (ha.run pos pins s σ H _ I h) fun us s1 hq => ?_) he hpl
  obtain ⟨vs, H1, I1, r, q⟩ := hq
  refine ⟨I1.kIn, ?_⟩
  have q : sp (vs ++ []) H1 Q E0 := q
  rw [List.append_nil] at q
  have hl : (us ++ []).length = ps.length := by
    rw [List.append_nil, ← r.length]
    exact F.len _ _ _ _ q
  have hbi := b s1 us I1.kIn hl
  rw [List.append_nil] at hbi
  refine wpAny_call (codeAny_mono (F.go X.A X.stack s1 H1 ⟨us, []⟩ us vs Q E0 hgd hr I1.env0 hbi r q) fun res s' hres => ?_)
  cases res with
  | error _ => exact hres.elim
  | ok fl =>
    cases fl with
    | ret u => exact I1.after hres
    | next => exact hres.elim
    | brk => exact hres.elim
    | cont => exact hres.elim
end
/-! ### repr of data -/
structure Rp (k n : Nat) (d : PyData) : Prop where
  sh : d.showable = true
  nd : d.hasDict = false
  dp : d.depth ≤ k
  ln : d.shown.length ≤ n
theorem Rp.mono {k k' n n' : Nat} {d : PyData} (h : Rp k n d) (h1 : k ≤ k') (h2 : n ≤ n') : Rp k' n' d := ⟨h.sh, h.nd, Nat.le_trans h.dp h1, Nat.le_trans h.ln h2⟩
theorem rp_int {i : Int} (h : i.natAbs < 2 ^ 1919) : Rp 0 1921 (.int i) := by
  have hl := PySem.Flt.log2_lt_of (by decide : 0 < 1919) h
  have h2 : i.natAbs.log2 < 1920 := by omega
  have h3 := int_text_length_le (a := i) (by decide : 0 < 1920) h2
  exact ⟨by simp only [PyData.showable]; exact decide_eq_true h2, by simp only [PyData.hasDict], by simp only [PyData.depth]; exact Nat.le_refl _, by simp only [PyData.shown]; rw [PySem.ofString_length]; exact h3⟩
theorem rp_all {k n : Nat} : ∀ {ds : List PyData}, (∀ d ∈ ds, Rp k n d) → PyData.showableAll ds = true ∧ PyData.hasDictAll ds = false ∧ PyData.depthAll ds ≤ k ∧ piled (PyData.shownAll ds) ≤ ds.length * (n + 2)
  | [], _ => by
    simp only [PyData.showableAll, PyData.hasDictAll, PyData.depthAll, PyData.shownAll, piled_nil, List.length_nil]
    exact ⟨trivial, trivial, Nat.zero_le _, Nat.zero_le _⟩
  | d :: ds, h => by
    obtain ⟨h1, h2, h3, h4⟩ := rp_all fun e he => h e (List.mem_cons_of_mem _ he)
    have hd := h d List.mem_cons_self
    have hl := hd.ln
    have hp := hd.dp
    simp only [PyData.showableAll, PyData.hasDictAll, PyData.depthAll, PyData.shownAll, piled_cons, List.length_cons, hd.sh, hd.nd, h1, h2, Nat.succ_mul]
    refine ⟨rfl, rfl, by omega, by omega⟩
theorem listText_le (ts : List Str) : (listText ts).length ≤ piled ts + 2 := by
  have e1 : ((("[" : String) : Str)).length = 1 := rfl
  have e2 : ((("]" : String) : Str)).length = 1 := rfl
  cases ts with
  | nil =>
    rw [listText_nil]
    decide +kernel
  | cons t r =>
    have h := textFrom_length_pos r 1 ((("[" : Str) ++ (if (0 : Nat) > 0 then ", " else "" : String)) ++ t) Nat.one_pos
    have e0 : (("[" : Str) ++ (if (0 : Nat) > 0 then ", " else "" : String) ++ t).length = 1 + t.length := by
      simp only [strLen_append]
      rfl
    unfold listText
    rw [strLen_append, e2]
    show (textFrom 1 _ r).length + 1 ≤ _
    rw [h, e0, piled_cons]
    omega
theorem rp_tup {k n m : Nat} {ds : List PyData} (h : ∀ d ∈ ds, Rp k n d) (hm : ds.length ≤ m) : Rp (k + 1) (m * (n + 2) + 2) (.tuple ds) := by
  obtain ⟨h1, h2, h3, h4⟩ := rp_all h
  have h5 := fmt_text (PyData.shownAll ds)
  have h6 : ds.length * (n + 2) ≤ m * (n + 2) := Nat.mul_le_mul_right _ hm
  exact ⟨by simp only [PyData.showable]; exact h1, by simp only [PyData.hasDict]; exact h2, by simp only [PyData.depth]; omega, by simp only [PyData.shown]; omega⟩
theorem rp_lst {k n m : Nat} {ds : List PyData} (h : ∀ d ∈ ds, Rp k n d) (hm : ds.length ≤ m) : Rp (k + 1) (m * (n + 2) + 2) (.list ds) := by
  obtain ⟨h1, h2, h3, h4⟩ := rp_all h
  have h5 := listText_le (PyData.shownAll ds)
  have h6 : ds.length * (n + 2) ≤ m * (n + 2) := Nat.mul_le_mul_right _ hm
  exact ⟨by simp only [PyData.showable]; exact h1, by simp only [PyData.hasDict]; exact h2, by simp only [PyData.depth]; omega, by simp only [PyData.shown]; omega⟩
section
variable {X : Cx}
theorem call_repr_data (hg : X.A.guards = some []) (hu : X.A.units + 64 < cLine) :
    CallR X (.builtin "repr") (fun xs H Q => ∃ a d, xs = [.ref a] ∧ Dp X.K H (.ref a) d ∧ Rp 8 sizeLine d ∧ Q (.str d.shown) H) := by
  intro _ s σ H _ _ Q I r h
  obtain ⟨a, d, rfl, hd, hp, q⟩ := h
  obtain ⟨v, rfl, ru⟩ := vals1 r
  cases ru
  obtain ⟨as, rd⟩ := Dp.reads I d _ _ hd rfl
  have h8 := hp.dp
  exact repr_of_reads' rd hp.sh (PyData.noDict_hsm hp.nd) hg (by omega) (fun _ _ e => e) (fun h' u tk hk => ⟨.str d.shown, H, I.kept (t' := tk) hk, ⟨u, rfl⟩, q⟩) hp.ln
/-! ### // by a great divisor of either sign -/
def CFl (_ j : Int) : Prop := j ≠ 0 ∧ j.natAbs < 2 ^ 9000
theorem op_floor : OpR X (binaryOp .FloorDiv) (rI CFl fun i j => .int (i.fdiv j)) := opI fun i j _ _ _ _ _ hc q =>
  floordiv_int hc.1 q (.inl (PyProof.noPylong_of_log2 (Nat.lt_of_lt_of_le (PySem.Flt.log2_lt_of (by decide : 0 < 9000) hc.2) (Nat.le_refl _))))
end
end K15
/-! The end of a law row whose def is promised under known guards. -/
namespace K15
open L2 PySem PySem.Spec PyProof.Rows
theorem enterG {P : Program} {w : World} {K : PySem.W.Frag} {mg mb : Str → Option Value} {k : Nat} {fa a : Addr} {fd : FuncData} {x : Str} {sp : Sp} {s : Shared} {vs : List Value} {ns : List Int}
    (KX : K.In s.heap) (hns : s.heap.Ns mainGlobals mg) (hb : s.heap.Ns builtinsNs mb) (hbb : ∀ x : Str, x ≠ "__name__" → mb x = bootBuiltins x) (hlim : s.heap.NoLimit) (hgens : s.gens = #[])
    (ha : s.heap.get? a = some { cls := .type "list", data := .seq vs.toArray }) (hi : IntsAre vs ns) (hl : ns.length ≤ sizeLine) (hr : Room k callerA)
    (F : ∀ base : Heap, K.In base → base.Ns mainGlobals mg → FnG P w K mg base k fa fd [x] sp) (hbind : ∀ (s : Shared) (u : Value), BindsTo s fd ⟨[u], []⟩ [(x, u)])
    (hsp : ∀ H : Hp, Only H → SqL K H a (ns.map V.int) → sp [.ref a] H (fun v _ => v = .bl true) fun _ _ _ => False) :
    codeAny (model P w) callerA (.call (.ref fa) ⟨[.ref a], []⟩) (fun r s' => r = .ok (.ret (.bool true)) ∧ OldK s.heap s'.heap ∧ s'.os = s.os ∧ AllBare s'.gens) s := by
  -- whatever is tracked: nothing, or the script alone, locked
  have core : ∀ H : Hp, Only H → SqL K H a (ns.map V.int) → HOk P w H s.heap → (∀ b u, H b = some u → b = a) → (∀ o, K.lookup a = some o → H a = none) →
      codeAny (model P w) callerA (.call (.ref fa) ⟨[.ref a], []⟩) (fun r s' => r = .ok (.ret (.bool true)) ∧ OldK s.heap s'.heap ∧ s'.os = s.os ∧ AllBare s'.gens) s := by
    intro H hO hS hok only hKa
    have there : ∀ {b : Addr} {m : Str → Option Value}, s.heap.Ns b m → (hidT s.heap H).Ns b m := by
      rintro b m ⟨o, es, ep, e, d, r⟩
      refine ⟨o, es, ep, hidT_get e ?_, d, r⟩
      cases q : H b with
      | none => rfl
      | some u =>
        rw [only b u q, ha] at e
        cases e
        exact nomatch (show Data.seq vs.toArray 0 = Data.dict es ep from d)
    have hKb : K.In (hidT s.heap H) := by
      intro b o e
      refine hidT_get (KX b o e) ?_
      cases q : H b with
      | none => rfl
      | some u =>
        have z := only b u q
        subst z
        rw [hKa o e] at q
        cases q
    have hlim' : (hidT s.heap H).NoLimit := by
      obtain ⟨mc, h1, h2⟩ := hlim
      exact ⟨mc, there h1, h2⟩
    have e0 : Env0 P w K mg (hidT s.heap H) callerA [] s H := {
      frames := rfl
      mod := ⟨hKb, there hns, ⟨mb, there hb, hbb⟩, hlim'⟩
      bs := fun b o e => of_hidT e
      bsz := Nat.le_of_eq (hidT_size _ _)
      funs := trivial
      frf := fun b z => absurd (show b ∈ ([] : List Addr) from z) List.not_mem_nil
      hok := hok
      bare := .of_eq hgens }
    refine codeAny_mono ((F _ hKb (there hns)).go callerA [] s H ⟨[.ref a], []⟩ [.ref a] [.ref a] _ _ rfl hr e0 (hbind s (.ref a)) (.cons rfl .nil) (hsp H hO hS)) fun r s' h => ?_
    match r, h with
    | .error _, h => exact h.elim
    | .ok .next, h => exact h.elim
    | .ok .brk, h => exact h.elim
    | .ok .cont, h => exact h.elim
    | .ok (.ret u), h =>
      obtain ⟨v, H', os, bare, un, hok', rv, q⟩ := h
      have q : v = .bl true := q
      subst q
      have eu : u = Value.bool true := rv
      subst eu
      refine ⟨rfl, OldK.of_keep (fun b o e => ?_), os, bare⟩
      rcases hO b with z | ⟨o1, ys, z⟩
      · exact un.keep b o e z (fun m => absurd (show b ∈ ([] : List Addr) from m) List.not_mem_nil) List.not_mem_nil
      · have f1 := (hok b _ z).1
        have f2 := (hok' b _ (un.frzs b o1 _ z)).1
        rw [e] at f1
        cases f1
        exact f2
  have rv := vals_ints hi
  have hsz : vs.toArray.size ≤ sizeLine := by
    simp only [List.size_toArray, hi.length]
    exact hl
  cases hk : K.lookup a with
  | some o =>
    have e := KX a o hk
    rw [ha] at e
    cases e
    exact core (fun _ => none) (fun _ => .inl rfl) (.inr ⟨_, vs.toArray, _, hk, rfl, rfl, rfl, hsz, rv⟩) (fun b u z => nomatch (show (none : Option HO) = some u from z)) (fun b u z => nomatch (show (none : Option HO) = some u from z)) fun _ _ => rfl
  | none =>
    have off : ∀ b, b ≠ a → (if b = a then some (HO.frz { cls := .type "list", data := .seq vs.toArray } (.lst (ns.map V.int))) else none) = none := fun b hb => if_neg hb
    refine core (fun b => if b = a then some (.frz { cls := .type "list", data := .seq vs.toArray } (.lst (ns.map V.int))) else none) (fun b => ?_) (.inl (.inr ⟨_, if_pos rfl⟩)) (fun b u z => ?_) (fun b u z => ?_) fun o z => by rw [hk] at z; cases z
    · by_cases hb : b = a
      · exact .inr ⟨_, ns.map V.int, if_pos hb⟩
      · exact .inl (off b hb)
    · by_cases hb : b = a
      · subst hb
        have z' := (if_pos rfl).symm.trans z
        cases z'
        exact ⟨ha, (by rw [List.length_map]; exact hl), _, _, rv, ha⟩
      · have z' := (off b hb).symm.trans z
        cases z'
    · refine Classical.byContradiction fun hb => ?_
      have z' := (off b hb).symm.trans z
      cases z'
/-- what is asked of the def that the law's name holds -/
abbrev Asked (K : Params → PySem.W.Frag) (P : Program) (sp : World → Sp) (x name : Str) (k : Nat) : Prop :=
  ∀ (w : World) (mg : Str → Option Value) (f : Addr) (h : Heap), (K w.params).In h → h.Ns mainGlobals mg → mg name = some (.ref f) →
    ∃ fd : FuncData, (∀ (s : Shared) (v : Value), BindsTo s fd ⟨[v], []⟩ [(x, v)]) ∧ ∀ b : Heap, (K w.params).In b → b.Ns mainGlobals mg → FnG P w (K w.params) mg b k f fd [x] (sp w)
theorem walk_ofG {l : PySem.W.OpenLaw} {n k : Nat} {q : Program} {loose : List Str} {XP : (Str → Option Value) → Heap → Prop} {YP : World → Heap → Prop} {d : DefRec} {K : Params → PySem.W.Frag} {sp : World → Sp} {x : Str}
    (h63 : l.most = some n) (hsz : n ≤ sizeLine) (hdf : d.params.defaults = []) (hr : Room k callerA) (hY : ∀ (w : World) (h : Heap), YP w h → (K w.params).In h) (F : Asked K l.prog sp x d.name k)
    (hsp : ∀ (w : World) (H : Hp) (a : Addr) (ns : List Int), ns.length ≤ n → Only H → SqL (K w.params) H a (ns.map V.int) → sp w [.ref a] H (fun v _ => v = .bl true) fun _ _ _ => False) :
    PySem.W.WalkO q loose XP YP l.row.toRowW d [] fun f vs => PySem.call f vs := by
  refine Att.attach_call h63 hdf fun w s₀ s₁ mg mb fa o pm cd doc a vs ns G Y ho hd hcd hmg hobj hints hlen hgens => ?_
  obtain ⟨fd, hb, hF⟩ := F w mg fa _ (hY w _ Y) G.T.g hmg
  exact enterG (hY w _ Y) G.T.g G.T.b G.T.builtins G.T.nolimit hgens hobj hints (Nat.le_trans hlen hsz) hr hF hb (hsp w · a ns hlen)
def spLaw (K : PySem.W.Frag) : Sp := fun vs H Q _ => ∃ (a : Addr) (ns : List Int), vs = [V.ref a] ∧ SqL K H a (ns.map V.int) ∧ ns.length ≤ 63 ∧ ∀ H', Q (V.bl true) H'
end K15
/-! The defs that reckon: chain, convergents, floor, the law's chain, folded, common. -/
namespace K15
open L2 PySem PySem.Spec PyProof.Rows
theorem same_new {H : Hp} {p : Addr} {o : HO} (h : H p = none) : Same H (upd H p o) := fun b x e => by
  rw [upd_ne (ne_of_none e h)]
  exact e
/-- a store to what was made since -/
theorem same_wr {H H' : Hp} {p : Addr} {o : HO} (s : Same H H') (h : H p = none) : Same H (upd H' p o) := fun b x e => by
  rw [upd_ne (ne_of_none e h)]
  exact s b x e
theorem same_tup {K : PySem.W.Frag} {H H' : Hp} {a : Addr} {xs : List V} (s : Same H H') (h : SqT K H a xs) : SqT K H' a xs := by
  rcases h with (h | ⟨ob, h⟩) | h
  · exact .inl (.inl (s _ _ h))
  · exact .inl (.inr ⟨ob, s _ _ h⟩)
  · exact .inr h
theorem big_len {n : Nat} (h : n ≤ 100000) : n ≤ sizeLine := Nat.le_trans h (by decide)
theorem big_lt {n : Nat} (h : n ≤ 100000) : n < sizeLine := Nat.lt_of_le_of_lt h (by decide)
section
variable {K : PySem.W.Frag} {mg : Str → Option Value} {P : Program} {w : World} {base : Heap}
/-! ### chain -/
theorem scChain : FnScope ["a", "b", "found", "q"] ["a", "b"] (defScope sChain) := ⟨rfl, rfl, rfl, by decide +kernel, rfl, by decide +kernel, by decide +kernel⟩
def spChain : Sp := fun vs H Q _ => ∃ (a b : Int), vs = [.int a, .int b] ∧ b ≠ 0 ∧ a.natAbs < 2 ^ 4000 ∧ b.natAbs < 2 ^ 4000 ∧ ∀ H' p, Same H H' → H p = none → H' p = some (.tup ((chain a b).map V.int)) → Q (.ref p) H'
theorem chain_tail {n : Nat} {a b : Int} (h : 0 < b) (ha : a.natAbs < 2 ^ n) (hb : b.natAbs < 2 ^ n) : (a / b).natAbs < 2 ^ n ∧ (a % b).natAbs < 2 ^ n ∧ 0 ≤ a % b ∧ a - a / b * b = a % b ∧ (a % b).toNat < b.toNat := by
  have r := rem_lt (a := a) h
  have e := Int.mul_ediv_add_emod a b
  rw [Int.mul_comm] at e
  have := Int.natAbs_ediv_le_natAbs a b
  omega
theorem ok_chain {f : Addr} {fd : FuncData} {k : Nat} (F : Fun K "chain" "chain" sChain f fd) (zt : mg "tuple" = none) : FnOk P w K mg base CX0 (k + 1) f fd ["a", "b"] spChain := by
  refine F.ok scChain (fun vs H Q E h => ?_) (fun cdv A outer s H vs Q E hr h => ?_)
  · obtain ⟨a, b, rfl, _⟩ := h
    rfl
  · obtain ⟨a, b, rfl, hb0, ha, hb, q⟩ := h
    refine ⟨_, C8.pss_cut (ps_if (pt_cmpR op_lt (pv 1) pe_int (nomark _))
        (pss_one (ps_par (i := 0) (j := 1) rfl scChain.nd rfl rfl (by decide) rfl rfl (pa_cons (pe_un un_neg (pv 0)) (pa_cons (pe_un un_neg (pv 1)) pa_nil)) (by rfl))) pss_nil)
      (pss_cons (ps_set (i := 2) scChain.nd rfl (.inl rfl) (pe_lst pa_nil))
      (pss_cons (ps_while PassesOwn.never (pt_cmpR op_ne (pv 1) pe_int (nomark _))
        (pss_cons (ps_set (i := 3) scChain.nd rfl (.inl rfl) (pe_op op_fdivW (pv 0) (pv 1)))
        (pss_cons (ps_expr (pe_bm PySem.F.plainAttrs_list PySem.F.slot_list_append PySem.F.type_list_append mt_append (pv 2) (pa_cons (pv 3) pa_nil)))
        (pss_one (ps_par (i := 0) (j := 1) rfl scChain.nd rfl rfl (by decide) rfl rfl (pa_cons (pv 1) (pa_cons (pe_op op_sub (pv 0) (pe_op op_mulW (pv 3) (pv 1))) pa_nil)) (by rfl))))))
      (pss_one (ps_ret (pe_callTy call_tuple_of (by rfl) zt (by decide +kernel) (pa_cons (pv 2) pa_nil)))))), ?_⟩
    -- if b < 0: a, b = -a, -b
    refine ⟨fun σ H' => ∃ a' b' : Int, σ = [some (.int a'), some (.int b'), none, none] ∧ H' = H ∧ 0 < b' ∧ a'.natAbs < 2 ^ 4000 ∧ b'.natAbs < 2 ^ 4000 ∧ chn a' b' = chain a b, ?_, ?_⟩
    · refine ⟨_, rfl, _, _, rfl, rfl, _, rfl, ite2 (fun e => ?_) (fun e => ?_)⟩
      · have e : b < 0 := of_decide_eq_true e
        refine ⟨_, rfl, _, rfl, _, rfl, _, rfl, _, _, rfl, -a, -b, rfl, rfl, by omega, by omega, by omega, ?_⟩
        unfold chain
        rw [if_pos e]
      · have e : ¬ b < 0 := fun z => e (decide_eq_true z)
        exact ⟨a, b, rfl, rfl, by omega, ha, hb, (chain_pos (by omega)).symm⟩
    · generalize chain a b = tot at q ⊢
      rintro σ H' ⟨a1, b1, rfl, rfl, hb1, ha1, hB1, etot⟩
      -- found = []
      refine ⟨Nat.zero_le _, fun fo nfo => ?_⟩
      have ln := chn_len 4000 a1 b1 (by omega) hB1
      rw [etot] at ln
      refine ⟨fun m σ H2 => ∃ (a b1 : Int) (l : List Int) (y3 : Option V), σ = [some (.int a), some (.int b1), some (.ref fo), y3] ∧ m = b1.toNat ∧ 0 ≤ b1 ∧ a.natAbs < 2 ^ 4000 ∧ b1.natAbs < 2 ^ 4000 ∧ Same H' H2 ∧ H2 fo = some (.lst (l.map V.int)) ∧ l ++ chn a b1 = tot,
        ⟨_, a1, b1, [], none, rfl, rfl, by omega, ha1, hB1, same_new nfo, upd_same, etot⟩, ?_⟩
      rintro m σ H2 ⟨a2, b2, l, y3, rfl, rfl, h0, hA, hB, sm, eo, et⟩
      -- while b != 0
      refine ⟨_, rfl, rfl, _, rfl, ite2 (fun e => ?_) (fun e => ?_)⟩
      · have hb2 : 0 < b2 := by
          have : b2 ≠ 0 := fun z => by
            subst z
            exact absurd e (by decide)
          omega
        obtain ⟨t1, t2, t3, t4, t5⟩ := chain_tail hb2 hA hB
        refine ⟨fun σ' H3 => ∃ y3, σ' = [some (.int b2), some (.int (a2 % b2)), some (.ref fo), y3] ∧ Same H' H3 ∧ H3 fo = some (.lst ((l ++ [a2 / b2]).map V.int)), ?_, ?_⟩
        · rintro σ' H3 ⟨y3, rfl, sm3, eo3⟩
          refine ⟨_, t5, b2, a2 % b2, l ++ [a2 / b2], y3, rfl, rfl, t3, hB, t2, sm3, eo3, ?_⟩
          rw [← et, chn_pos a2 hb2, List.append_assoc]
          rfl
        · have hln : l.length ≤ 8001 := by
            rw [← et, List.length_append] at ln
            omega
          refine ⟨_, rfl, _, rfl, _, _, rfl, rfl, wide_div hb2 (b := 4000) hB (by decide) (by decide), ?_⟩
          refine ⟨_, rfl, .inl ⟨rfl, _, SqL.of eo⟩, _, rfl, fo, _, _, rfl, rfl, eo, by rw [List.length_map]; exact big_lt (by omega), ?_⟩
          refine ⟨_, rfl, _, rfl, _, rfl, _, rfl, _, _, rfl, rfl, wide_mul t1 hB (by decide) (by decide) (by decide), _, _, rfl, rfl, _, _, rfl, ?_⟩
          refine ⟨some (.int (a2 / b2)), ?_, same_wr sm nfo, ?_⟩
          · rw [← t4]
            rfl
          · rw [upd_same, List.map_append]
            rfl
      · have hb2 : b2 = 0 := Classical.byContradiction fun z => e (by
          have : ¬ (V.int b2 = V.int 0) := fun y => z (V.int.inj y)
          rw [decide_eq_false this]
          rfl)
        subst hb2
        rw [chn_zero, List.append_nil] at et
        subst et
        refine ⟨_, rfl, fo, _, rfl, .inl ⟨SqL.of eo, fun p np => ?_⟩⟩
        exact q _ p (sm.trans (same_new np)) (sm.free np) upd_same
/-! ### convergents -/
/-- pairs of ints stand at addresses -/
def PairsAt (H : Hp) (as : List Addr) (cs : List (Int × Int)) : Prop := as.length = cs.length ∧ ∀ (i : Nat) (a : Addr) (c : Int × Int), as[i]? = some a → cs[i]? = some c → H a = some (.tup [.int c.1, .int c.2])
theorem PairsAt.same {H H' : Hp} {as : List Addr} {cs : List (Int × Int)} (h : PairsAt H as cs) (s : Same H H') : PairsAt H' as cs := ⟨h.1, fun i a c h1 h2 => s _ _ (h.2 i a c h1 h2)⟩
theorem PairsAt.lst {H : Hp} {as : List Addr} {cs : List (Int × Int)} {p : Addr} {xs : List V} {o : HO} (h : PairsAt H as cs) (hp : H p = some (.lst xs)) : PairsAt (upd H p o) as cs := ⟨h.1, fun i a c h1 h2 => by
  have e := h.2 i a c h1 h2
  rw [upd_ne (ne_of e hp (fun z => nomatch z))]
  exact e⟩
theorem PairsAt.snoc {H : Hp} {as : List Addr} {cs : List (Int × Int)} {a : Addr} {c : Int × Int} (h : PairsAt H as cs) (ha : H a = some (.tup [.int c.1, .int c.2])) : PairsAt H (as ++ [a]) (cs ++ [c]) := by
  refine ⟨by rw [List.length_append, List.length_append, h.1]; rfl, fun i b d h1 h2 => ?_⟩
  by_cases hi : i < as.length
  · rw [List.getElem?_append_left hi] at h1
    rw [List.getElem?_append_left (by rw [← h.1]; exact hi)] at h2
    exact h.2 i b d h1 h2
  · rw [List.getElem?_append_right (by omega)] at h1
    rw [List.getElem?_append_right (by rw [← h.1]; omega)] at h2
    rw [← h.1] at h2
    have e : i - as.length = 0 := by
      have := (List.getElem?_eq_some_iff.mp h1).1
      simp at this
      omega
    rw [e] at h1 h2
    cases h1
    cases h2
    exact ha
theorem cut_from (xs : List V) (k : Nat) : cutV xs (some (k : Int)) none = xs.drop k := by
  unfold cutV
  rw [HT.sIx_nat, HT.sIx_none]
  by_cases h : k ≤ xs.length
  · rw [Nat.min_eq_left h]
    exact List.take_of_length_le (by simp only [List.length_drop]; omega)
  · rw [Nat.min_eq_right (by omega), List.drop_of_length_le (Nat.le_refl _), List.drop_of_length_le (by omega), List.take_nil]
theorem int_at {ns : List Int} {i : Nat} {z : Int} (h : ns[i]? = some z) : (ns.map V.int)[i]? = some (.int z) := by
  rw [List.getElem?_map, h]
  rfl
theorem scConv : FnScope ["row", "found", "ahead", "last", "entry"] ["row"] (defScope sConv) := ⟨rfl, rfl, rfl, by decide +kernel, rfl, by decide +kernel, by decide +kernel⟩
def spConv (K : PySem.W.Frag) : Sp := fun vs H Q _ => ∃ (a : Addr) (ns : List Int), vs = [.ref a] ∧ SqT K H a (ns.map V.int) ∧ ns ≠ [] ∧ ns.length ≤ 300 ∧ Bd 200 ns ∧
  ∀ H' p as, Same H H' → H p = none → H' p = some (.tup (as.map V.ref)) → PairsAt H' as (convs ns) → Q (.ref p) H'
theorem Bd.take {n : Nat} {l : List Int} (h : Bd n l) (k : Nat) : Bd n (l.take k) := fun x hx => h x (List.mem_of_mem_take hx)
theorem step_bd {ns : List Int} (hb : Bd 200 ns) (hl : ns.length ≤ 300) (k : Nat) : (fA (ns.take k)).1.natAbs < 2 ^ 60301 ∧ (fA (ns.take k)).2.natAbs < 2 ^ 60301 := by
  obtain ⟨h1, h2⟩ := A_bd (hb.take k)
  have hle : (200 + 1) * (ns.take k).length + 1 ≤ 60301 := by
    rw [List.length_take]
    have := Nat.min_le_right k ns.length
    omega
  have hm := Nat.pow_le_pow_right (n := 2) (by decide) hle
  exact ⟨Nat.lt_of_lt_of_le h1 hm, Nat.lt_of_lt_of_le h2 hm⟩
theorem ok_conv {f : Addr} {fd : FuncData} {k : Nat} (F : Fun K "convergents" "convergents" sConv f fd) (zt : mg "tuple" = none) : FnOk P w K mg base CX0 (k + 1) f fd ["row"] (spConv K) := by
  refine F.ok scConv (fun vs H Q E h => ?_) (fun cdv A outer s H vs Q E hr h => ?_)
  · obtain ⟨a, ns, rfl, _⟩ := h
    rfl
  · obtain ⟨a, ns, rfl, hS, hne, hlen, hbd, q⟩ := h
    refine ⟨_, pss_cons (ps_par (i := 1) (j := 2) rfl scConv.nd rfl rfl (by decide) rfl rfl (pa_cons (pe_lst pa_nil) (pa_cons (pe_tup (pa_cons pe_int (pa_cons pe_int pa_nil))) pa_nil)) (by rfl))
      (pss_cons (ps_set (i := 3) scConv.nd rfl (.inl rfl) (pe_tup (pa_cons (pe_ix ix_tup (pv 0) pe_int (fun _ _ => rfl)) (pa_cons pe_int pa_nil))))
      (pss_cons (ps_expr (pe_bm PySem.F.plainAttrs_list PySem.F.slot_list_append PySem.F.type_list_append mt_append (pv 1) (pa_cons (pv 3) pa_nil)))
      (pss_cons (ps_for PassesOwn.never rfl (pi_tup (pe_slice sl_tupA (pv 0) (po_some pe_int) po_none)) (pg_name (i := 4) scConv.nd rfl (.inl rfl))
        (pss_cons (ps_par (i := 2) (j := 3) rfl scConv.nd rfl rfl (by decide) rfl rfl (pa_cons (pv 3) (pa_cons (pe_tup (pa_cons
          (pe_op op_add (pe_op op_mulW (pv 4) (pe_ix ix_tup (pv 3) pe_int (fun _ _ => rfl))) (pe_ix ix_tup (pv 2) pe_int (fun _ _ => rfl))) (pa_cons
          (pe_op op_add (pe_op op_mulW (pv 4) (pe_ix ix_tup (pv 3) pe_int (fun _ _ => rfl))) (pe_ix ix_tup (pv 2) pe_int (fun _ _ => rfl))) pa_nil))) pa_nil)) (by rfl))
        (pss_one (ps_expr (pe_bm PySem.F.plainAttrs_list PySem.F.slot_list_append PySem.F.type_list_append mt_append (pv 1) (pa_cons (pv 3) pa_nil))))))
      (pss_one (ps_ret (pe_callTy call_tuple_of (by rfl) zt (by decide +kernel) (pa_cons (pv 1) pa_nil))))))), ?_⟩
    obtain ⟨n0, nt, rfl⟩ : ∃ x r, ns = x :: r := by
      cases ns with
      | nil => exact absurd rfl hne
      | cons n0 nt => exact ⟨n0, nt, rfl⟩
    -- found, ahead = [], (1, 0)
    refine ⟨Nat.zero_le _, fun fo nfo => ⟨by show 2 ≤ sizeLine; decide, fun aa naa => ⟨_, _, rfl, ?_⟩⟩⟩
    have s1 : Same H (upd H fo (.lst [])) := same_new nfo
    have s2 := s1.trans (same_new (o := .tup [.int 1, .int 0]) naa)
    have nfa : fo ≠ aa := fun z => by
      rw [← z, upd_same] at naa
      cases naa
    -- last = (row[0], 1)
    refine ⟨_, rfl, _, _, _, .int n0, rfl, rfl, same_tup s2 hS, atI_nat (j := 0) rfl, by show 2 ≤ sizeLine; decide, fun la nla => ?_⟩
    have nfl : fo ≠ la := fun z => by
      rw [← z, upd_ne nfa, upd_same] at nla
      cases nla
    have nal : aa ≠ la := fun z => by
      rw [← z, upd_same] at nla
      cases nla
    have s3 := s2.trans (same_new (o := .tup [.int n0, .int 1]) nla)
    have e1 : (upd (upd (upd H fo (.lst [])) aa (.tup [.int 1, .int 0])) la (.tup [.int n0, .int 1])) fo = some (.lst []) := by rw [upd_ne nfl, upd_ne nfa, upd_same]
    have e2 : (upd (upd (upd H fo (.lst [])) aa (.tup [.int 1, .int 0])) la (.tup [.int n0, .int 1])) aa = some (.tup [.int 1, .int 0]) := by rw [upd_ne nal, upd_same]
    -- found.append(last)
    refine ⟨_, rfl, .inl ⟨rfl, _, SqL.of e1⟩, _, rfl, fo, _, _, rfl, rfl, e1, by decide, ?_⟩
    have s4 : Same H (upd (upd (upd (upd H fo (.lst [])) aa (.tup [.int 1, .int 0])) la (.tup [.int n0, .int 1])) fo (.lst [.ref la])) := same_wr s3 nfo
    -- row[1:]
    refine ⟨_, rfl, 1, rfl, a, _, rfl, same_tup s4 hS, fun hw => ?_, fun _ c nc => ?_⟩
    · have hw1 := hw.1
      rw [show HT.sIx ((n0 :: nt).map V.int).length 0 (some 1) = min 1 _ from HT.sIx_nat _ 0 1, List.length_map, List.length_cons] at hw1
      omega
    · have nfc : fo ≠ c := fun z => by
        rw [← z] at nc
        exact nomatch (upd_same (H := upd (upd (upd H fo (.lst [])) aa (.tup [.int 1, .int 0])) la (.tup [.int n0, .int 1])) (a := fo) (o := .lst [.ref la])).symm.trans nc
      have ec : cutV ((n0 :: nt).map V.int) (some 1) none = nt.map V.int := cut_from _ 1
      have s5 := s4.trans (same_new (o := .tup (cutV ((n0 :: nt).map V.int) (some 1) none)) nc)
      refine ⟨c, rfl, ⟨_, SqT.of upd_same⟩, for_tup (K := K) (a := c) (xs := nt.map V.int) (fun i σ H2 => ∃ (as : List Addr) (aa la : Addr) (y4 : Option V), σ = [some (.ref a), some (.ref fo), some (.ref aa), some (.ref la), y4] ∧ Same H H2 ∧
        H2 c = some (.tup (nt.map V.int)) ∧ H2 fo = some (.lst (as.map V.ref)) ∧ PairsAt H2 as ((List.range (i + 1)).map fun k => fA ((n0 :: nt).take (k + 1))) ∧
        H2 la = some (.tup [.int (fA ((n0 :: nt).take (i + 1))).1, .int (fA ((n0 :: nt).take (i + 1))).2]) ∧ H2 aa = some (.tup [.int (fB ((n0 :: nt).take (i + 1))).1, .int (fB ((n0 :: nt).take (i + 1))).2])) ?_ ?_ ?_ ?_⟩
      · have ka : ∀ {b : Addr} {o : HO}, b ≠ fo → b ≠ c → (upd (upd (upd H fo (.lst [])) aa (.tup [.int 1, .int 0])) la (.tup [.int n0, .int 1])) b = some o →
            (upd (upd (upd (upd (upd H fo (.lst [])) aa (.tup [.int 1, .int 0])) la (.tup [.int n0, .int 1])) fo (.lst [.ref la])) c (.tup (cutV ((n0 :: nt).map V.int) (some 1) none))) b = some o := fun h1 h2 e => by
          rw [upd_ne h2, upd_ne h1]
          exact e
        have nac : aa ≠ c := fun z => by
          rw [← z, upd_ne nfa.symm, upd_ne nal, upd_same] at nc
          cases nc
        have nlc : la ≠ c := fun z => by
          rw [← z, upd_ne nfl.symm, upd_same] at nc
          cases nc
        have el := ka nfl.symm nlc upd_same
        refine ⟨[la], aa, la, none, rfl, s5, ?_, ?_, ?_, ?_, ?_⟩
        · rw [upd_same, ec]
        · rw [upd_ne nfc, upd_same]
          rfl
        · refine ⟨rfl, fun i b d h1 h2 => ?_⟩
          cases i with
          | zero =>
            cases h1
            cases h2
            show _ = some (HO.tup [.int (n0 * 1 + 0), .int 1])
            rw [Int.mul_one, Int.add_zero]
            exact el
          | succ i => simp at h1
        · show _ = some (HO.tup [.int (n0 * 1 + 0), .int 1])
          rw [Int.mul_one, Int.add_zero]
          exact el
        · show _ = some (HO.tup [.int (n0 * 0 + 1), .int 0])
          rw [Int.mul_zero, Int.zero_add]
          exact ka nfa.symm nac e2
      · rintro i σ H2 _ ⟨as, aa, la, y4, rfl, sm, hc, _⟩
        exact SqT.of hc
      · rintro i x σ H2 hx ⟨as, aa, la, y4, rfl, sm, hc, hfo, hp, hla, haa⟩
        have hi : i < nt.length := by
          have := (List.getElem?_eq_some_iff.mp hx).1
          rw [List.length_map] at this
          exact this
        have hx2 : x = .int nt[i] := Option.some.inj (hx.symm.trans (int_at (List.getElem?_eq_getElem hi)))
        subst hx2
        have hi1 : i + 1 < (n0 :: nt).length := by
          rw [List.length_cons]
          omega
        have hsp : (n0 :: nt).take (i + 1 + 1) = (n0 :: nt).take (i + 1) ++ [nt[i]] := split_at hi1
        obtain ⟨b1, b2⟩ := step_bd hbd hlen (i + 1)
        have bn : nt[i].natAbs < 2 ^ 200 := hbd _ (List.mem_cons_of_mem _ (List.getElem_mem hi))
        -- ahead, last = last, (..)
        refine ⟨_, rfl, ?_⟩
        refine ⟨_, rfl, _, rfl, _, _, _, _, rfl, rfl, SqT.of hla, atI_nat (j := 0) rfl, _, _, rfl, rfl, wide_mul bn b1 (by decide) (by decide) (by decide), ?_⟩
        refine ⟨_, rfl, _, _, _, _, rfl, rfl, SqT.of haa, atI_nat (j := 0) rfl, _, _, rfl, rfl, ?_⟩
        refine ⟨_, rfl, _, rfl, _, _, _, _, rfl, rfl, SqT.of hla, atI_nat (j := 1) rfl, _, _, rfl, rfl, wide_mul bn b2 (by decide) (by decide) (by decide), ?_⟩
        refine ⟨_, rfl, _, _, _, _, rfl, rfl, SqT.of haa, atI_nat (j := 1) rfl, _, _, rfl, rfl, ?_⟩
        refine ⟨by show 2 ≤ sizeLine; decide, fun t nt' => ⟨_, _, rfl, ?_⟩⟩
        -- found.append(last)
        have nft : fo ≠ t := ne_of_none hfo nt'
        have hfo' : ∀ o, (upd H2 t o) fo = some (.lst (as.map V.ref)) := fun o => by
          rw [upd_ne nft]
          exact hfo
        have hal : as.length ≤ 300 := by
          have h1 := hp.1
          rw [List.length_map, List.length_range] at h1
          rw [List.length_cons] at hlen
          omega
        refine ⟨_, rfl, .inl ⟨rfl, _, SqL.of (hfo' _)⟩, _, rfl, fo, _, _, rfl, rfl, hfo' _, by rw [List.length_map]; exact big_lt (by omega), ?_⟩
        have sn : Same H2 (upd H2 t (.tup [.int (nt[i] * (fA ((n0 :: nt).take (i + 1))).1 + (fB ((n0 :: nt).take (i + 1))).1), .int (nt[i] * (fA ((n0 :: nt).take (i + 1))).2 + (fB ((n0 :: nt).take (i + 1))).2)])) := same_new nt'
        have up : ∀ {b : Addr} {xs : List V} {o : HO}, (upd H2 t (.tup [.int (nt[i] * (fA ((n0 :: nt).take (i + 1))).1 + (fB ((n0 :: nt).take (i + 1))).1), .int (nt[i] * (fA ((n0 :: nt).take (i + 1))).2 + (fB ((n0 :: nt).take (i + 1))).2)])) b = some (.tup xs) →
            (upd (upd H2 t (.tup [.int (nt[i] * (fA ((n0 :: nt).take (i + 1))).1 + (fB ((n0 :: nt).take (i + 1))).1), .int (nt[i] * (fA ((n0 :: nt).take (i + 1))).2 + (fB ((n0 :: nt).take (i + 1))).2)])) fo o) b = some (.tup xs) := fun {b xs o} e => by
          rw [upd_ne (ne_of e (hfo' _) (fun z => nomatch z))]
          exact e
        have et : (upd H2 t (.tup [.int (nt[i] * (fA ((n0 :: nt).take (i + 1))).1 + (fB ((n0 :: nt).take (i + 1))).1), .int (nt[i] * (fA ((n0 :: nt).take (i + 1))).2 + (fB ((n0 :: nt).take (i + 1))).2)])) t = some (.tup [.int (fA ((n0 :: nt).take (i + 1 + 1))).1, .int (fA ((n0 :: nt).take (i + 1 + 1))).2]) := by
          rw [upd_same, hsp, A_snoc]
        refine ⟨as ++ [t], la, t, some (.int nt[i]), rfl, same_wr (sm.trans sn) nfo, up (sn _ _ hc), ?_, ?_, up et, ?_⟩
        · rw [upd_same, List.map_append]
          rfl
        · rw [List.range_succ, List.map_append]
          exact ((hp.same sn).snoc et).lst (hfo' _)
        · rw [hsp, B_snoc]
          exact up (sn _ _ hla)
      · rintro σ H2 ⟨as, aa, la, y4, rfl, sm, hc, hfo, hp, hla, haa⟩
        refine ⟨_, rfl, fo, _, rfl, .inl ⟨SqL.of hfo, fun p np => ?_⟩⟩
        have sp := same_new (o := .tup (as.map V.ref)) np
        refine q _ p as (sm.trans sp) (sm.free np) upd_same ?_
        have hp' := hp.same sp
        rw [List.length_map] at hp'
        exact hp'
end
end K15
section
set_option maxHeartbeats 3000000
/-! t[::-1] of a tuple. -/
namespace K15
open L2 HT PySem PySem.Spec PyProof.Rows
theorem back_places (n : Nat) : Builtin.Slice.slicePlaces ((n : Int) - 1) (-1) (-1) = n := by
  simp only [Builtin.Slice.slicePlaces]
  rw [if_neg (by decide)]
  by_cases h : -1 < (n : Int) - 1
  · rw [if_pos h, show (- -1 : Int) = 1 by decide, Int.ediv_one]
    omega
  · rw [if_neg h]
    omega
theorem fm_congr {α β : Type} {f g : α → Option β} : ∀ {l : List α}, (∀ x ∈ l, f x = g x) → l.filterMap f = l.filterMap g
  | [], _ => rfl
  | x :: l, h => by rw [List.filterMap_cons, List.filterMap_cons, h x List.mem_cons_self, fm_congr fun y hy => h y (List.mem_cons_of_mem _ hy)]
theorem back_pick (xs : Array Value) : ((List.range xs.size).filterMap fun (k : Nat) => xs[((xs.size : Int) - 1 + (k : Int) * -1).toNat]?).toArray = xs.toList.reverse.toArray := by
  refine congrArg List.toArray ?_
  have e : ∀ k ∈ List.range xs.size, xs[((xs.size : Int) - 1 + (k : Int) * -1).toNat]? = xs[xs.size - 1 - k]? := fun k hk => by
    have := List.mem_range.mp hk
    congr 1
    omega
  rw [fm_congr e]
  have e2 : (List.range xs.size).filterMap (fun k => xs[xs.size - 1 - k]?) = ((List.range xs.size).map fun k => xs.size - 1 - k).filterMap (xs[·]?) := by
    rw [List.filterMap_map]
    rfl
  rw [e2, PySem.W.krv_range, List.filterMap_reverse, PySem.W.krv_all]
section
variable {w : World} {prog : Program} {A : Around} {s : Shared} {E : Value → Shared → Prop}
theorem sliceApplied_back {sl : Addr} {vs : Value} {n : Nat} {Q : Int × Int × Nat → Shared → Prop} (hs : s.heap.IsSliceOf sl .none .none vs) (ps : IsPart vs (some (-1))) (h : Q ((n : Int) - 1, -1, n) s) : wpAny (model prog w) A (Builtin.Slice.sliceApplied (.ref sl) (pure (n : Int))) Q E s := by
  obtain ⟨os, hos, _, hds⟩ := id hs
  unfold Builtin.Slice.sliceApplied
  unfold Builtin.Slice.sliceFields
  refine wpAny_bind (wpAny_bind (wpAny_field hos hds (x := .none) rfl (wpAny_bind (wpAny_field hos hds (x := .none) rfl (wpAny_bind (wpAny_field hos hds (x := vs) rfl (wpAny_pure ?_)))))))
  refine wpAny_bind (slicePart_ ps ?_)
  show wpAny _ _ (if ((-1 : Int) == 0) = true then _ else _) _ _ s
  rw [if_neg (by decide)]
  refine wpAny_bind (slicePart_none (wpAny_bind (slicePart_none (wpAny_bind (wpAny_pure ?_)))))
  show wpAny _ _ (pure ((n : Int) - 1, (-1 : Int), Builtin.Slice.slicePlaces ((n : Int) - 1) (-1) (-1))) _ _ s
  rw [back_places]
  exact wpAny_pure h
theorem getItem_tuple_back {t sl : Addr} {items : Array Value} {vs : Value} {Q : Value → Shared → Prop} (ht : IsTup s.heap t items) (hs : s.heap.IsSliceOf sl .none .none vs) (ps : IsPart vs (some (-1)))
    (h : Q (.ref s.heap.objs.size) { s with heap := s.heap.push { cls := .type "tuple", data := .seq items.toList.reverse.toArray } }) (hz : items.size ≤ sizeLine) : wpAny (model prog w) A (getItem (.ref t) (.ref sl)) Q E s := by
  have hok : sizeOk (.seq items.toList.reverse.toArray) := by
    show items.toList.reverse.toArray.size ≤ sizeLine
    rw [List.size_toArray, List.length_reverse, Array.length_toList]
    exact hz
  have hTs : s.TypeIs (.ref sl) "slice" := let ⟨os, hos, hcs, _⟩ := hs; ⟨os, hos, hcs⟩
  unfold getItem
  refine wpAny_holding (wpAny_bind (wpAny_sequenceKey (T := "tuple") ht.typeIs (by decide) ?_))
  have hslot := PyProof.Rows.slot_tuple_getitem
  refine wpAny_bind (wpAny_callSpecial?_slot (name := Str.ofString "__getitem__") ht.typeIs hslot (wpAny_call_entry hslot ht.typeIs entry_tuple_getitem ?_ (args_tuple_getitem _ _)))
  show wpAny _ _ (do let xs ← Builtin.Tuple.tupleItemsOf (.ref t); _) _ _ s
  refine wpAny_bind (tupleItemsOf_ ht (wpAny_bind (wpAny_typeOf hTs ?_)))
  rw [if_pos (by decide)]
  refine wpAny_bind (sliceApplied_back (n := items.size) hs ps ?_)
  have hno : ¬ ((((items.size : Int) - 1 == 0) && ((-1 : Int) == 1) && (items.size == items.size)) = true) := by
    simp
  show wpAny _ _ (if (((items.size : Int) - 1 == 0) && ((-1 : Int) == 1) && (items.size == items.size)) = true then _ else _) _ _ s
  rw [if_neg hno, back_pick]
  first
    | exact wpAny_bind (m := Builtin.Tuple.tupleExact _) (wpAny_newObj_type (wpAny_pure ⟨_, rfl, wpAny_pure h⟩) hok)
    | exact wpAny_bind (wpAny_bind (m := Builtin.Tuple.tupleExact _) (wpAny_newObj_type (wpAny_pure (wpAny_pure ⟨_, rfl, wpAny_pure h⟩)) hok))
    | exact wpAny_bind (wpAny_bind (m := Builtin.Tuple.tupleExact _) (wpAny_newObj_type (wpAny_pure ⟨_, rfl, wpAny_pure h⟩) hok))
end
section
variable {X : Cx}
def tRevT (K : PySem.W.Frag) (te : TE) : TE := fun σ H Q => te σ H fun x H1 => ∃ a xs, x = .ref a ∧ SqT K H1 a xs ∧ ∀ p, H1 p = none → Q (.ref p) (upd H1 p (.tup xs.reverse))
theorem pe_revT {e : Expr} {te : TE} {k : Nat} {p1 p2 p3 pos : Pos} (he : PE X e te) : PE X (.Subscript e (.Slice none none (some (.UnaryOp .USub (.Constant (.int 1) k p1) p2)) p3) pos) (tRevT X.K te) := by
  refine ⟨fun pins s σ H Q I h => Subscript_ (thn (he.run pins s σ H _ I h) fun v s1 hv => ?_)⟩
  obtain ⟨x, H1, I1, r1, a, xs, rfl, hx, q⟩ := hv
  cases r1
  have hst : PO X (some (Expr.UnaryOp .USub (.Constant (.int 1) k p1) p2)) (tPart (tUn (rU fun i => V.int (-i)) (tC (V.int 1)))) := po_some (pe_un un_neg pe_int)
  refine wpAny_Slice ?_
  rw [evalPart_none]
  refine wpAny_pure (wpAny_pure (thn (hst.run pins s1 σ H1 (fun o H4 => o = some (-1) ∧ H4 = H1) I1 ⟨1, rfl, -1, rfl, rfl, rfl⟩) fun vs s4 hv4 => ?_))
  obtain ⟨o, H4, I4, ps, rfl, rfl⟩ := hv4
  have I5 : Inv X pins σ H4 { s4 with heap := s4.heap.push { cls := .type "slice", data := .fields #[.none, .none, vs] } } := I4.kept (t' := s4.toks) fun b ob z => Heap.get?_push_of_some _ z
  obtain ⟨its, r, ht, hz⟩ := I5.tuple hx
  show wpAny (model X.prog X.w) X.A (subscriptTail e (.Slice none none (some (.UnaryOp .USub (.Constant (.int 1) k p1) p2)) p3) (.ref a) (.ref s4.heap.objs.size)) (EP X pins σ Q) X.xe { s4 with heap := s4.heap.push { cls := .type "slice", data := .fields #[.none, .none, vs] } }
  refine tail_any (ops := [.ref a, .ref s4.heap.objs.size]) ht.typeIs PyProof.Rows.slot_tuple_getitem.lookup ?_ (by with_unfolding_all rfl)
  have hl := r.length
  refine getItem_tuple_back ht (Heap.IsSliceOf.new _ _ _ vs) ps ?_ (by rw [List.size_toArray]; omega)
  refine ⟨.ref _, _, I5.laid (t' := s4.toks) (o := .tup xs.reverse) (fun b ob z => Heap.get?_push_of_some _ z) (Nat.le_refl _) ?_, rfl, q _ (I5.hok.fresh (Nat.le_refl _))⟩
  exact ⟨by rw [List.length_reverse]; exact hz, its.reverse, r.reverse, _, Heap.get?_push_size _ rfl, rfl, 0, rfl⟩
end
end K15

end
/-! The law's own reckoning: floor, chain, folded, common. -/
namespace K15
open L2 PySem PySem.Spec PyProof.Rows
section
variable {K : PySem.W.Frag} {mg : Str → Option Value} {P : Program} {w : World} {base : Heap}
theorem iteI {x y : Int} {A B : Prop} (h1 : x = y → A) (h2 : x ≠ y → B) : if decide (V.int x = V.int y) = true then A else B := ite2 (fun e => h1 (V.int.inj (of_decide_eq_true e))) fun e => h2 fun z => e (decide_eq_true (congrArg V.int z))
theorem iteNI {x y : Int} {A B : Prop} (h1 : x ≠ y → A) (h2 : x = y → B) : if (!decide (V.int x = V.int y)) = true then A else B := by
  by_cases h : x = y
  · subst h
    exact iteNS rfl (h2 rfl)
  · rw [decide_eq_false fun z => h (V.int.inj z)]
    exact h1 h
theorem iteD {p : Prop} [Decidable p] {A B : Prop} (h1 : p → A) (h2 : ¬ p → B) : if decide p = true then A else B := ite2 (fun e => h1 (of_decide_eq_true e)) fun e => h2 fun z => e (decide_eq_true z)
/-! ### floor -/
theorem scFloor : FnScope ["_law_a", "_law_b"] ["_law_a", "_law_b"] (defScope sFloor) := ⟨rfl, rfl, rfl, by decide +kernel, rfl, by decide +kernel, by decide +kernel⟩
def spFloor : Sp := fun vs H Q _ => ∃ (a b : Int), vs = [.int a, .int b] ∧ b ≠ 0 ∧ b.natAbs < 2 ^ 8000 ∧ Q (.int (fl a b)) H
theorem ok_floor {f : Addr} {fd : FuncData} {k : Nat} (F : Fun K "_law_floor" "_law_floor" sFloor f fd) : FnOk P w K mg base CX0 (k + 1) f fd ["_law_a", "_law_b"] spFloor := by
  refine F.ok scFloor (fun vs H Q E h => ?_) (fun cdv A outer s H vs Q E hr h => ?_)
  · obtain ⟨a, b, rfl, _⟩ := h
    rfl
  · obtain ⟨a, b, rfl, hb0, hb, q⟩ := h
    refine ⟨_, C8.pss_cut (ps_if (pt_cmpR op_lt (pv 1) pe_int (nomark _))
        (pss_one (ps_par (i := 0) (j := 1) rfl scFloor.nd rfl rfl (by decide) rfl rfl (pa_cons (pe_un un_neg (pv 0)) (pa_cons (pe_un un_neg (pv 1)) pa_nil)) (by rfl))) pss_nil)
      (pss_one (ps_ret (pe_ifExp (pt_cmpR op_ge (pv 0) pe_int (nomark _)) (pe_op op_fdivW (pv 0) (pv 1))
        (pe_un un_neg (pe_op op_fdivW (pe_op op_sub (pe_op op_sub (pv 1) pe_int) (pv 0)) (pv 1)))))), ?_⟩
    refine ⟨fun σ H' => ∃ a' b' : Int, σ = [some (.int a'), some (.int b')] ∧ H' = H ∧ 0 < b' ∧ b'.natAbs < 2 ^ 8000 ∧ a' / b' = fl a b, ?_, ?_⟩
    · refine ⟨_, rfl, _, _, rfl, rfl, _, rfl, ite2 (fun e => ?_) (fun e => ?_)⟩
      · have e : b < 0 := of_decide_eq_true e
        refine ⟨_, rfl, _, rfl, _, rfl, _, rfl, _, _, rfl, -a, -b, rfl, rfl, by omega, by omega, ?_⟩
        unfold fl
        rw [if_pos e]
      · have e : ¬ b < 0 := fun z => e (decide_eq_true z)
        exact ⟨a, b, rfl, rfl, by omega, hb, (fl_pos (by omega)).symm⟩
    · rintro σ H' ⟨a1, b1, rfl, rfl, hb1, hB1, et⟩
      rw [← et] at q
      refine ⟨_, rfl, _, _, rfl, rfl, _, rfl, ite2 (fun e => ?_) (fun e => ?_)⟩
      · exact ⟨_, rfl, _, rfl, _, _, rfl, rfl, wide_div hb1 hB1 (by decide) (by decide), q⟩
      · refine ⟨_, rfl, _, _, rfl, rfl, _, rfl, _, _, rfl, rfl, _, rfl, _, _, rfl, rfl, wide_div hb1 hB1 (by decide) (by decide), _, rfl, ?_⟩
        rw [← up_floor hb1] at q
        exact q
/-! ### the law's chain -/
theorem scLchain : FnScope ["_law_a", "_law_b", "_law_found", "_law_q"] ["_law_a", "_law_b"] (defScope sLchain) := ⟨rfl, rfl, rfl, by decide +kernel, rfl, by decide +kernel, by decide +kernel⟩
theorem ok_lchain {f : Addr} {fd : FuncData} {k : Nat} (F : Fun K "_law_chain" "_law_chain" sLchain f fd) (zt : mg "tuple" = none) (G : Good P w K mg base k "_law_floor" ["_law_a", "_law_b"] spFloor) :
    FnOk P w K mg base CX0 (k + 1) f fd ["_law_a", "_law_b"] spChain := by
  refine F.ok scLchain (fun vs H Q E h => ?_) (fun cdv A outer s H vs Q E hr h => ?_)
  · obtain ⟨a, b, rfl, _⟩ := h
    rfl
  · obtain ⟨a, b, rfl, hb0, ha, hb, q⟩ := h
    refine ⟨_, pss_cons (ps_set (i := 2) scLchain.nd rfl (.inl rfl) (pe_lst pa_nil))
      (pss_cons (ps_while PassesOwn.never (pt_cmpR op_ne (pv 1) pe_int (nomark _))
        (pss_cons (ps_set (i := 3) scLchain.nd rfl (.inl rfl) (pe_g G hr (pa_cons (pv 0) (pa_cons (pv 1) pa_nil))))
        (pss_cons (ps_expr (pe_bm PySem.F.plainAttrs_list PySem.F.slot_list_append PySem.F.type_list_append mt_append (pv 2) (pa_cons (pv 3) pa_nil)))
        (pss_one (ps_par (i := 0) (j := 1) rfl scLchain.nd rfl rfl (by decide) rfl rfl (pa_cons (pv 1) (pa_cons (pe_op op_sub (pv 0) (pe_op op_mulW (pv 3) (pv 1))) pa_nil)) (by rfl))))))
      (pss_one (ps_ret (pe_callTy call_tuple_of (by rfl) zt (by decide +kernel) (pa_cons (pv 2) pa_nil))))), ?_⟩
    refine ⟨Nat.zero_le _, fun fo nfo => ?_⟩
    have ln : (chain a b).length ≤ 2 * 4000 + 1 := by
      unfold chain
      split
      · exact chn_len 4000 _ _ (by omega) (by omega)
      · exact chn_len 4000 _ _ (by omega) hb
    have st : ∃ a' b' : Int, 0 ≤ b' ∧ a'.natAbs < 2 ^ 4000 ∧ b'.natAbs < 2 ^ 4000 ∧ ((a = a' ∧ b = b') ∨ (a = -a' ∧ b = -b')) ∧ [] ++ chn a' b' = chain a b := by
      unfold chain
      by_cases h : b < 0
      · rw [if_pos h]
        exact ⟨-a, -b, by omega, by omega, by omega, .inr ⟨by omega, by omega⟩, rfl⟩
      · rw [if_neg h]
        exact ⟨a, b, by omega, ha, hb, .inl ⟨rfl, rfl⟩, rfl⟩
    generalize chain a b = tot at q ln st
    obtain ⟨a0, b0, i1, i2, i3, i4, i5⟩ := st
    refine ⟨fun m σ H2 => ∃ (a b a' b' : Int) (l : List Int) (y3 : Option V), σ = [some (.int a), some (.int b), some (.ref fo), y3] ∧ m = b'.toNat ∧ ((a = a' ∧ b = b') ∨ (a = -a' ∧ b = -b')) ∧ 0 ≤ b' ∧ a'.natAbs < 2 ^ 4000 ∧ b'.natAbs < 2 ^ 4000 ∧
        Same H H2 ∧ H2 fo = some (.lst (l.map V.int)) ∧ l ++ chn a' b' = tot, ⟨_, a, b, a0, b0, [], none, rfl, rfl, i4, i1, i2, i3, same_new nfo, upd_same, i5⟩, ?_⟩
    rintro m σ H2 ⟨a, b, a', b', l, y3, rfl, rfl, hs, h0, hA, hB, sm, eo, et⟩
    refine ⟨_, rfl, rfl, _, rfl, ite2 (fun e => ?_) (fun e => ?_)⟩
    · have hbn : b ≠ 0 := fun z => by
        subst z
        exact absurd e (by decide)
      have hb2 : 0 < b' := by omega
      obtain ⟨t1, t2, t3, t4, t5⟩ := chain_tail hb2 hA hB
      have hfl : fl a b = a' / b' := by
        rcases hs with ⟨rfl, rfl⟩ | ⟨rfl, rfl⟩
        · exact fl_pos hb2
        · exact fl_neg hb2
      have hbB : b.natAbs < 2 ^ 4000 := by omega
      refine ⟨fun σ' H3 => ∃ (c : Int) (y3 : Option V), σ' = [some (.int b), some (.int c), some (.ref fo), y3] ∧ ((b = b' ∧ c = a' % b') ∨ (b = -b' ∧ c = -(a' % b'))) ∧ Same H H3 ∧ H3 fo = some (.lst ((l ++ [a' / b']).map V.int)), ?_, ?_⟩
      · rintro σ' H3 ⟨c, y3, rfl, hc, sm3, eo3⟩
        refine ⟨_, t5, b, c, b', a' % b', l ++ [a' / b'], y3, rfl, rfl, hc, t3, hB, t2, sm3, eo3, ?_⟩
        rw [← et, chn_pos a' hb2, List.append_assoc]
        rfl
      · have hln : l.length ≤ 8001 := by
          rw [← et, List.length_append] at ln
          omega
        refine ⟨_, rfl, _, rfl, a, b, rfl, hbn, Nat.lt_of_lt_of_le hbB (Nat.pow_le_pow_right (by decide) (by decide)), ?_⟩
        rw [hfl]
        refine ⟨_, rfl, .inl ⟨rfl, _, SqL.of eo⟩, _, rfl, fo, _, _, rfl, rfl, eo, by rw [List.length_map]; exact big_lt (by omega), ?_⟩
        refine ⟨_, rfl, _, rfl, _, rfl, _, rfl, _, _, rfl, rfl, wide_mul t1 hbB (by decide) (by decide) (by decide), _, _, rfl, rfl, _, _, rfl, ?_⟩
        refine ⟨a - a' / b' * b, some (.int (a' / b')), rfl, ?_, same_wr sm nfo, ?_⟩
        · rcases hs with ⟨rfl, rfl⟩ | ⟨rfl, rfl⟩
          · exact .inl ⟨rfl, t4⟩
          · refine .inr ⟨rfl, ?_⟩
            rw [Int.mul_neg]
            omega
        · rw [upd_same, List.map_append]
          rfl
    · have hb2 : b = 0 := Classical.byContradiction fun z => e (by
        have : ¬ (V.int b = V.int 0) := fun y => z (V.int.inj y)
        rw [decide_eq_false this]
        rfl)
      have hb3 : b' = 0 := by omega
      subst hb3
      rw [chn_zero, List.append_nil] at et
      subst et
      refine ⟨_, rfl, fo, _, rfl, .inl ⟨SqL.of eo, fun p np => ?_⟩⟩
      exact q _ p (sm.trans (same_new np)) (sm.free np) upd_same
/-! ### folded -/
theorem scFolded : FnScope ["_law_row", "_law_p", "_law_q", "_law_entry"] ["_law_row"] (defScope sFolded) := ⟨rfl, rfl, rfl, by decide +kernel, rfl, by decide +kernel, by decide +kernel⟩
def spFolded (K : PySem.W.Frag) : Sp := fun vs H Q _ => ∃ (a : Addr) (ns : List Int), vs = [.ref a] ∧ SqT K H a (ns.map V.int) ∧ ns ≠ [] ∧ ns.length ≤ 300 ∧ Bd 200 ns ∧
  ∀ H' p, Same H H' → H p = none → H' p = some (.tup [.int (fA ns).1, .int (fA ns).2]) → Q (.ref p) H'
theorem cut_last (xs : List V) : cutV xs none (some (-1)) = xs.dropLast := by
  unfold cutV
  rw [HT.sIx_none, List.drop_zero, List.dropLast_eq_take]
  congr 1
  show (if (-1 : Int) < 0 then ((-1 : Int) + (xs.length : Int)).toNat else min (-1 : Int).toNat xs.length) - 0 = _
  rw [if_pos (by decide)]
  omega
theorem drop_bd {ns : List Int} (hb : Bd 200 ns) (hl : ns.length ≤ 300) (k : Nat) : (fA (ns.drop k)).1.natAbs < 2 ^ 60301 ∧ (fA (ns.drop k)).2.natAbs < 2 ^ 60301 := by
  obtain ⟨h1, h2⟩ := A_bd (l := ns.drop k) (m := 200) fun x hx => hb x (List.mem_of_mem_drop hx)
  have hle : (200 + 1) * (ns.drop k).length + 1 ≤ 60301 := by
    rw [List.length_drop]
    omega
  have hm := Nat.pow_le_pow_right (n := 2) (by decide) hle
  exact ⟨Nat.lt_of_lt_of_le h1 hm, Nat.lt_of_lt_of_le h2 hm⟩
theorem ok_folded {f : Addr} {fd : FuncData} {k : Nat} (F : Fun K "_law_folded" "_law_folded" sFolded f fd) : FnOk P w K mg base CX0 (k + 1) f fd ["_law_row"] (spFolded K) := by
  refine F.ok scFolded (fun vs H Q E h => ?_) (fun cdv A outer s H vs Q E hr h => ?_)
  · obtain ⟨a, ns, rfl, _⟩ := h
    rfl
  · obtain ⟨a, ns, rfl, hS, hne, hlen, hbd, q⟩ := h
    refine ⟨_, pss_cons (ps_par (i := 1) (j := 2) rfl scFolded.nd rfl rfl (by decide) rfl rfl (pa_cons (pe_ix ix_tup (pv 0) (pe_un un_neg pe_int) (fun _ _ => rfl)) (pa_cons pe_int pa_nil)) (by rfl))
      (pss_cons (ps_for PassesOwn.never rfl (pi_tup (pe_revT (pe_slice sl_tupA (pv 0) po_none (po_some (pe_un un_neg pe_int))))) (pg_name (i := 3) scFolded.nd rfl (.inl rfl))
        (pss_one (ps_par (i := 1) (j := 2) rfl scFolded.nd rfl rfl (by decide) rfl rfl (pa_cons (pe_op op_add (pe_op op_mulW (pv 3) (pv 1)) (pv 2)) (pa_cons (pv 1) pa_nil)) (by rfl))))
      (pss_one (ps_ret (pe_tup (pa_cons (pv 1) (pa_cons (pv 2) pa_nil)))))), ?_⟩
    obtain ⟨z, hz⟩ : ∃ z, ns = ns.dropLast ++ [z] := ⟨ns.getLast hne, (List.dropLast_concat_getLast hne).symm⟩
    have hpos : 0 < ns.length := List.length_pos_iff.mpr hne
    have gl : atI (ns.map V.int) (-1) = some (.int z) := by
      rw [hz, List.map_append]
      exact atI_last _ _
    -- p, q = row[-1], 1
    refine ⟨_, rfl, 1, rfl, a, _, -1, _, rfl, rfl, hS, gl, _, _, rfl, ?_⟩
    -- row[:-1][::-1]
    refine ⟨_, rfl, 1, rfl, -1, rfl, a, _, rfl, hS, fun hw => ?_, fun _ c nc => ?_⟩
    · have h2 := hw.2
      rw [List.length_map] at h2
      have h3 : (if (-1 : Int) < 0 then ((-1 : Int) + (ns.length : Int)).toNat else min (-1 : Int).toNat ns.length) = ns.length := h2
      rw [if_pos (by decide)] at h3
      omega
    · have ec : cutV (ns.map V.int) none (some (-1)) = (ns.dropLast).map V.int := by
        rw [cut_last, List.map_dropLast]
      have s1 := same_new (o := .tup (cutV (ns.map V.int) none (some (-1)))) nc
      refine ⟨c, _, rfl, SqT.of upd_same, fun d nd => ?_⟩
      have s2 := s1.trans (same_new (o := .tup (cutV (ns.map V.int) none (some (-1))).reverse) nd)
      have er : (cutV (ns.map V.int) none (some (-1))).reverse = (ns.dropLast.reverse).map V.int := by rw [ec, List.map_reverse]
      refine ⟨d, rfl, ⟨_, SqT.of upd_same⟩, for_tup (K := K) (a := d) (xs := (ns.dropLast.reverse).map V.int) (fun i σ H2 => ∃ y3, σ = [some (.ref a), some (.int (fA (ns.drop (ns.length - 1 - i))).1), some (.int (fA (ns.drop (ns.length - 1 - i))).2), y3] ∧ Same H H2 ∧
        H2 d = some (.tup ((ns.dropLast.reverse).map V.int)) ∧ i ≤ ns.length - 1) ?_ ?_ ?_ ?_⟩
      · refine ⟨none, ?_, s2, by rw [upd_same, er], Nat.zero_le _⟩
        have e0 : ns.drop (ns.length - 1 - 0) = [z] := by
          have hl : ns.length - 1 - 0 = ns.dropLast.length := by rw [List.length_dropLast]; rfl
          rw [hl]
          conv => lhs; arg 2; rw [hz]
          exact List.drop_left
        rw [e0]
        show _ = [some (V.ref a), some (V.int (z * 1 + 0)), some (V.int 1), none]
        rw [Int.mul_one, Int.add_zero]
        rfl
      · rintro i σ H2 _ ⟨y3, rfl, sm, hd, _⟩
        exact SqT.of hd
      · rintro i x σ H2 hx ⟨y3, rfl, sm, hd, hi⟩
        have hi2 : i < ns.length - 1 := by
          have := (List.getElem?_eq_some_iff.mp hx).1
          rw [List.length_map, List.length_reverse, List.length_dropLast] at this
          exact this
        have hj : ns.length - 1 - (i + 1) < ns.length := by omega
        have ex : ns.dropLast.reverse[i]? = some ns[ns.length - 1 - (i + 1)] := by
          rw [List.getElem?_reverse (by rw [List.length_dropLast]; exact hi2), List.length_dropLast, List.dropLast_eq_take, List.getElem?_take_of_lt (by omega)]
          have : ns.length - 1 - 1 - i = ns.length - 1 - (i + 1) := by omega
          rw [this, List.getElem?_eq_getElem hj]
        have hx2 : x = .int ns[ns.length - 1 - (i + 1)] := Option.some.inj (hx.symm.trans (int_at ex))
        subst hx2
        have ed : ns.drop (ns.length - 1 - (i + 1)) = ns[ns.length - 1 - (i + 1)] :: ns.drop (ns.length - 1 - i) := by
          rw [List.drop_eq_getElem_cons hj]
          have : ns.length - 1 - (i + 1) + 1 = ns.length - 1 - i := by omega
          rw [this]
        obtain ⟨b1, b2⟩ := drop_bd hbd hlen (ns.length - 1 - i)
        have bn : (ns[ns.length - 1 - (i + 1)]).natAbs < 2 ^ 200 := hbd _ (List.getElem_mem hj)
        refine ⟨_, rfl, _, rfl, _, _, rfl, rfl, wide_mul bn b1 (by decide) (by decide) (by decide), _, rfl, _, _, rfl, rfl, _, rfl, _, _, rfl, ?_⟩
        refine ⟨some (.int ns[ns.length - 1 - (i + 1)]), ?_, sm, hd, by omega⟩
        rw [ed, A_cons]
        rfl
      · rintro σ H2 ⟨y3, rfl, sm, hd, hi⟩
        have e0 : ns.length - 1 - ((ns.dropLast.reverse).map V.int).length = 0 := by
          rw [List.length_map, List.length_reverse, List.length_dropLast]
          omega
        rw [e0, List.drop_zero]
        refine ⟨_, rfl, _, rfl, by show 2 ≤ sizeLine; decide, fun p np => ?_⟩
        exact q _ p (sm.trans (same_new np)) (sm.free np) upd_same
/-! ### common -/
theorem scCommon : FnScope ["_law_a", "_law_b", "_law_twos"] ["_law_a", "_law_b"] (defScope sCommon) := ⟨rfl, rfl, rfl, by decide +kernel, rfl, by decide +kernel, by decide +kernel⟩
def spCommon : Sp := fun vs H Q _ => ∃ (a b : Int), vs = [.int a, .int b] ∧ a.natAbs < 2 ^ 2000 ∧ b.natAbs < 2 ^ 2000 ∧ Q (.int (Int.gcd a b : Int)) H
theorem ok_common {f : Addr} {fd : FuncData} {k : Nat} (F : Fun K "_law_common" "_law_common" sCommon f fd) (za : mg "abs" = none) : FnOk P w K mg base CX0 (k + 1) f fd ["_law_a", "_law_b"] spCommon := by
  refine F.ok scCommon (fun vs H Q E h => ?_) (fun cdv A outer s H vs Q E hr h => ?_)
  · obtain ⟨a, b, rfl, _⟩ := h
    rfl
  · obtain ⟨a, b, rfl, ha, hb, q⟩ := h
    refine ⟨_, pss_cons (ps_par3 (i := 0) (j := 1) (l := 2) rfl scCommon.nd rfl rfl rfl (by decide) (by decide) (by decide) rfl rfl rfl
        (pa_cons (pe_callB call_abs (by rfl) za (by decide +kernel) (pa_cons (pv 0) pa_nil)) (pa_cons (pe_callB call_abs (by rfl) za (by decide +kernel) (pa_cons (pv 1) pa_nil)) (pa_cons pe_int pa_nil))) (by rfl))
      (C8.pss_cut (ps_if (PW.pt (pw_or (pt_cmpR op_eq (pv 0) pe_int (nomark _)) (pw_or1 (pt_cmpR op_eq (pv 1) pe_int (nomark _))))) (pss_one (ps_ret (pe_op op_add (pv 0) (pv 1)))) pss_nil)
      (C8.pss_cut (ps_while PassesOwn.never (PW.pt (pw_and (pt_cmpR op_eq (pe_op op_mod (pv 0) pe_int) pe_int (nomark _)) (pw_and1 (pt_cmpR op_eq (pe_op op_mod (pv 1) pe_int) pe_int (nomark _)))))
        (pss_one (ps_par3 (i := 0) (j := 1) (l := 2) rfl scCommon.nd rfl rfl rfl (by decide) (by decide) (by decide) rfl rfl rfl
          (pa_cons (pe_op op_fdiv (pv 0) pe_int) (pa_cons (pe_op op_fdiv (pv 1) pe_int) (pa_cons (pe_op op_mul (pv 2) pe_int) pa_nil))) (by rfl))))
      (pss_cons (ps_while PassesOwn.never (pt_cmpR op_ne (pv 0) (pv 1) (nomark _))
        (pss_one (ps_if (pt_cmpR op_eq (pe_op op_mod (pv 0) pe_int) pe_int (nomark _)) (pss_one (ps_set (i := 0) scCommon.nd rfl (.inl rfl) (pe_op op_fdiv (pv 0) pe_int)))
          (pss_one (ps_if (pt_cmpR op_eq (pe_op op_mod (pv 1) pe_int) pe_int (nomark _)) (pss_one (ps_set (i := 1) scCommon.nd rfl (.inl rfl) (pe_op op_fdiv (pv 1) pe_int)))
            (pss_one (ps_if (pt_cmpR op_gt (pv 0) (pv 1) (nomark _)) (pss_one (ps_set (i := 0) scCommon.nd rfl (.inl rfl) (pe_op op_fdiv (pe_op op_sub (pv 0) (pv 1)) pe_int)))
              (pss_one (ps_set (i := 1) scCommon.nd rfl (.inl rfl) (pe_op op_fdiv (pe_op op_sub (pv 1) (pv 0)) pe_int))))))))))
      (pss_one (ps_ret (pe_op op_mulW (pv 0) (pv 2))))))), ?_⟩
    refine ⟨_, rfl, a, rfl, _, rfl, b, rfl, _, _, _, rfl, ?_⟩
    have hg := gcd_ab a b
    have na := ab_nonneg a
    have nb := ab_nonneg b
    have sa := ab_abs a
    have sb := ab_abs b
    -- if a == 0 or b == 0
    refine ⟨fun σ H' => σ = [some (.int (ab a)), some (.int (ab b)), some (.int 1)] ∧ H' = H ∧ 0 < ab a ∧ 0 < ab b, ?_, ?_⟩
    · refine ⟨_, rfl, rfl, _, rfl, iteI (fun e => ?_) (fun e => ?_)⟩
      · have e : ab a = 0 := e
        have ea : a = 0 := by omega
        rw [← gcd_zero (.inl ea)] at q
        exact ⟨_, rfl, _, rfl, _, _, rfl, rfl, q⟩
      · have e : ab a ≠ 0 := e
        refine ⟨_, rfl, rfl, _, rfl, iteI (fun e' => ?_) (fun e' => ?_)⟩
        · have e' : ab b = 0 := e'
          have eb : b = 0 := by omega
          rw [← gcd_zero (.inr eb)] at q
          exact ⟨_, rfl, _, rfl, _, _, rfl, rfl, q⟩
        · have e' : ab b ≠ 0 := e'
          exact ⟨rfl, rfl, by omega, by omega⟩
    · rintro σ H' ⟨rfl, rfl, pa, pb⟩
      have hA : (ab a).natAbs < 2 ^ 2000 := by rw [sa]; exact ha
      have hB : (ab b).natAbs < 2 ^ 2000 := by rw [sb]; exact hb
      generalize ab a = a0 at *
      generalize ab b = b0 at *
      rw [← hg] at q
      have hG := gcd_le (b := b0) pa
      generalize hgg : (Int.gcd a0 b0) = g at q hG
      have eg : (Int.gcd a0 b0 : Int) * 1 = (g : Int) := by rw [Int.mul_one, hgg]
      -- while both are even
      refine ⟨fun σ H2 => ∃ a b t : Int, σ = [some (.int a), some (.int b), some (.int t)] ∧ H2 = H' ∧ 0 < a ∧ 0 < b ∧ a ≤ a0 ∧ b ≤ b0 ∧ 1 ≤ t ∧ (Int.gcd a b : Int) * t = (g : Int) ∧ (a % 2 ≠ 0 ∨ b % 2 ≠ 0), ?_, ?_⟩
      · refine ⟨fun m σ H2 => ∃ a b t : Int, σ = [some (.int a), some (.int b), some (.int t)] ∧ m = a.toNat ∧ H2 = H' ∧ 0 < a ∧ 0 < b ∧ a ≤ a0 ∧ b ≤ b0 ∧ 1 ≤ t ∧ (Int.gcd a b : Int) * t = (g : Int), ⟨_, a0, b0, 1, rfl, rfl, rfl, pa, pb, by omega, by omega, by omega, eg⟩, ?_⟩
        rintro m σ H2 ⟨a, b, t, rfl, rfl, rfl, h1, h2, h3, h4, h5, h6⟩
        refine ⟨_, rfl, _, _, rfl, rfl, (by decide : (0 : Int) < 2), rfl, _, rfl, iteI (fun e => ?_) (fun e => ?_)⟩
        · have e : a % 2 = 0 := e
          refine ⟨_, rfl, _, _, rfl, rfl, (by decide : (0 : Int) < 2), rfl, _, rfl, iteI (fun e' => ?_) (fun e' => ?_)⟩
          · have e' : b % 2 = 0 := e'
            refine ⟨fun σ' H3 => σ' = [some (.int (a / 2)), some (.int (b / 2)), some (.int (t * 2))] ∧ H3 = H2, ?_, ?_⟩
            · rintro σ' H3 ⟨rfl, rfl⟩
              refine ⟨_, by omega, a / 2, b / 2, t * 2, rfl, rfl, rfl, by omega, by omega, by omega, by omega, by omega, ?_⟩
              rw [← h6, gcd_both e e']
              push_cast
              grind
            · exact ⟨_, rfl, _, _, rfl, rfl, ⟨by decide, by decide⟩, _, rfl, _, _, rfl, rfl, ⟨by decide, by decide⟩, _, rfl, _, _, rfl, rfl, .inr ⟨by decide, by decide⟩, _, _, _, rfl, rfl, rfl⟩
          · have e' : b % 2 ≠ 0 := e'
            exact ⟨a, b, t, rfl, rfl, h1, h2, h3, h4, h5, h6, .inr e'⟩
        · have e : a % 2 ≠ 0 := e
          exact ⟨a, b, t, rfl, rfl, h1, h2, h3, h4, h5, h6, .inl e⟩
      · rintro σ H2 ⟨a1, b1, t1, rfl, rfl, h1, h2, h3, h4, h5, h6, h7⟩
        -- while they differ
        refine ⟨fun m σ H3 => ∃ a b : Int, σ = [some (.int a), some (.int b), some (.int t1)] ∧ m = (a + b).toNat ∧ H3 = H2 ∧ 0 < a ∧ 0 < b ∧ a ≤ a0 ∧ b ≤ b0 ∧ (Int.gcd a b : Int) * t1 = (g : Int) ∧ (a % 2 ≠ 0 ∨ b % 2 ≠ 0), ⟨_, a1, b1, rfl, rfl, rfl, h1, h2, h3, h4, h6, h7⟩, ?_⟩
        rintro m σ H3 ⟨a, b, rfl, rfl, rfl, h1, h2, h3, h4, h6, h7⟩
        refine ⟨_, rfl, _, rfl, rfl, _, rfl, iteNI (fun e => ?_) (fun e => ?_)⟩
        · have e : a ≠ b := e
          refine ⟨fun σ' H4 => ∃ a' b' : Int, σ' = [some (.int a'), some (.int b'), some (.int t1)] ∧ (a' + b').toNat < (a + b).toNat ∧ H4 = H3 ∧ 0 < a' ∧ 0 < b' ∧ a' ≤ a0 ∧ b' ≤ b0 ∧ Int.gcd a' b' = Int.gcd a b ∧ (a' % 2 ≠ 0 ∨ b' % 2 ≠ 0), ?_, ?_⟩
          · rintro σ' H4 ⟨a', b', rfl, k1, rfl, k2, k3, k4, k5, k6, k7⟩
            exact ⟨_, k1, a', b', rfl, rfl, rfl, k2, k3, k4, k5, by rw [k6]; exact h6, k7⟩
          · refine ⟨_, rfl, _, _, rfl, rfl, (by decide : (0 : Int) < 2), rfl, _, rfl, iteI (fun e1 => ?_) (fun e1 => ?_)⟩
            · have e1 : a % 2 = 0 := e1
              refine ⟨_, rfl, _, _, rfl, rfl, ⟨by decide, by decide⟩, a / 2, b, rfl, by omega, rfl, by omega, by omega, by omega, by omega, gcd_half e1 (by omega), .inr (by omega)⟩
            · have e1 : a % 2 ≠ 0 := e1
              refine ⟨_, rfl, _, _, rfl, rfl, (by decide : (0 : Int) < 2), rfl, _, rfl, iteI (fun e2 => ?_) (fun e2 => ?_)⟩
              · have e2 : b % 2 = 0 := e2
                refine ⟨_, rfl, _, _, rfl, rfl, ⟨by decide, by decide⟩, a, b / 2, rfl, by omega, rfl, by omega, by omega, by omega, by omega, ?_, .inl e1⟩
                rw [Int.gcd_comm, gcd_half e2 e1, Int.gcd_comm]
              · have e2 : b % 2 ≠ 0 := e2
                refine ⟨_, rfl, _, rfl, _, _, rfl, rfl, _, rfl, iteD (fun e3 => ?_) (fun e3 => ?_)⟩
                · refine ⟨_, rfl, _, rfl, _, _, rfl, rfl, _, _, rfl, rfl, ⟨by decide, by decide⟩, (a - b) / 2, b, rfl, by omega, rfl, by omega, by omega, by omega, by omega, gcd_odd e1 e2, .inr e2⟩
                · refine ⟨_, rfl, _, rfl, _, _, rfl, rfl, _, _, rfl, rfl, ⟨by decide, by decide⟩, a, (b - a) / 2, rfl, by omega, rfl, by omega, by omega, by omega, by omega, ?_, .inl e1⟩
                  rw [Int.gcd_comm, gcd_odd e2 e1, Int.gcd_comm]
        · have e : a = b := e
          subst e
          have ea : (Int.gcd a a : Int) = a := by
            rw [Int.gcd_self]
            omega
          rw [ea] at h6
          have ht : 1 * t1 ≤ a * t1 := Int.mul_le_mul_of_nonneg_right (by omega) (by omega)
          have bt : t1.natAbs < 2 ^ 2000 := Nat.lt_of_le_of_lt (by omega) hA
          have bA : a.natAbs < 2 ^ 2000 := Nat.lt_of_le_of_lt (by omega) hA
          refine ⟨_, rfl, _, rfl, _, _, rfl, rfl, wide_mul bA bt (by decide) (by decide) (by decide), ?_⟩
          rw [← h6] at q
          exact q
end
end K15
/-! The draws. -/
namespace K15
open L2 PySem PySem.Spec PyProof.Rows
def kL : Key := .inr "left"
def kS : Key := .inr "seed"
def kC : Key := .inr "cells"
def kP : Key := .inr "spot"
theorem nLS : kL ≠ kS := by decide +kernel
theorem nLC : kL ≠ kC := by decide +kernel
theorem nLP : kL ≠ kP := by decide +kernel
theorem nSC : kS ≠ kC := by decide +kernel
theorem nSP : kS ≠ kP := by decide +kernel
theorem nCP : kC ≠ kP := by decide +kernel
/-- the state of the draws stands at m, at most N small draws done -/
structure MAt (H : Hp) (m c : Addr) (N : Nat) : Prop where
  ex : ∃ (kvs : List (Key × V)) (l sd sp : Int) (cs : List Int), H m = some (.dK kvs) ∧ kvs.length ≤ 10 ∧ valV kvs kL = some (.int l) ∧ valV kvs kS = some (.int sd) ∧ valV kvs kC = some (.ref c) ∧ valV kvs kP = some (.int sp) ∧
    H c = some (.lst (cs.map V.int)) ∧ 0 < cs.length ∧ 0 ≤ sp ∧ sp ≤ N
theorem MAt.mono {H : Hp} {m c : Addr} {N M : Nat} (h : MAt H m c N) (le : N ≤ M) : MAt H m c M := by
  obtain ⟨kvs, l, sd, sp, cs, h1, h2, h3, h4, h5, h6, h7, h8, h9, h10⟩ := h
  exact ⟨kvs, l, sd, sp, cs, h1, h2, h3, h4, h5, h6, h7, h8, h9, by omega⟩
/-- all but what stands at m is as it was -/
def But (m : Addr) (H H' : Hp) : Prop := ∀ b o, H b = some o → b ≠ m → H' b = some o
theorem But.refl (m : Addr) (H : Hp) : But m H H := fun _ _ e _ => e
theorem But.trans {m : Addr} {H H1 H2 : Hp} (a : But m H H1) (b : But m H1 H2) : But m H H2 := fun c o e n => b c o (a c o e n) n
theorem But.of {m : Addr} {H H' : Hp} (s : Same H H') : But m H H' := fun b o e _ => s b o e
theorem but_upd {m : Addr} {H : Hp} {o : HO} : But m H (upd H m o) := fun b u e n => by
  rw [upd_ne n]
  exact e
theorem same_but {m : Addr} {H H1 H2 : Hp} (s : Same H H1) (b : But m H1 H2) (h : H m = none) : Same H H2 := fun c o e => b c o (s c o e) (ne_of_none e h)
theorem MAt.same {H H' : Hp} {m c : Addr} {N : Nat} (h : MAt H m c N) (s : Same H H') : MAt H' m c N := by
  obtain ⟨kvs, l, sd, sp, cs, h1, h2, h3, h4, h5, h6, h7, h8⟩ := h
  exact ⟨kvs, l, sd, sp, cs, s _ _ h1, h2, h3, h4, h5, h6, s _ _ h7, h8⟩
theorem dget {H : Hp} {m : Addr} {kvs : List (Key × V)} {k : Key} {v : V} (hm : H m = some (.dK kvs)) (h : valV kvs k = some v) : DGet H m (kV k) (some v) := h ▸ DGet.k hm
theorem put_len {kvs : List (Key × V)} {k : Key} {v y : V} (h : valV kvs k = some v) : (putK kvs k y).length = kvs.length := by
  unfold putK
  rw [if_pos (by rw [valV_any, h]; rfl), List.length_map]
theorem put_there {kvs : List (Key × V)} {k : Key} {y : V} : valV (putK kvs k y) k = some y := by rw [valV_put, if_pos rfl]
theorem put_other {kvs : List (Key × V)} {k j : Key} {y : V} (h : j ≠ k) : valV (putK kvs k y) j = valV kvs j := by rw [valV_put, if_neg h]
theorem atI_in {α : Type} {xs : List α} {i : Int} (h0 : 0 ≤ i) (h1 : i < xs.length) : ∃ v, v ∈ xs ∧ atI xs i = some v := by
  have hj : i.toNat < xs.length := by omega
  refine ⟨xs[i.toNat], List.getElem_mem hj, ?_⟩
  have := atI_nat (List.getElem?_eq_getElem hj)
  rw [Int.toNat_of_nonneg h0] at this
  exact this
theorem int_mem {ns : List Int} {v : V} (h : v ∈ ns.map V.int) : ∃ z, z ∈ ns ∧ v = .int z := by
  obtain ⟨z, hz, e⟩ := List.mem_map.mp h
  exact ⟨z, hz, e.symm⟩
section
variable {K : PySem.W.Frag} {mg : Str → Option Value} {P : Program} {w : World} {base : Heap}
/-! ### draw -/
theorem scDraw : FnScope ["_law_m", "_law_bound", "_law_found", "_law_spot", "_law_cells", "_law_extra", "_law_cell", "_law_blend"] ["_law_m", "_law_bound"] (defScope sDraw) := ⟨rfl, rfl, rfl, by decide +kernel, rfl, by decide +kernel, by decide +kernel⟩
def spDraw : Sp := fun vs H Q _ => ∃ (m c : Addr) (b : Int) (N : Nat), vs = [.ref m, .int b] ∧ 0 < b ∧ b < 1000000 ∧ MAt H m c N ∧ N ≤ 1000000 ∧ ∀ H' r, 0 ≤ r → r < b → MAt H' m c (N + 1) → But m H H' → Q (.int r) H'
theorem ok_draw {f : Addr} {fd : FuncData} {k : Nat} (F : Fun K "_law_draw" "_law_draw" sDraw f fd) (zi : mg "int" = none) (zl : mg "len" = none) : FnOk P w K mg base CX0 (k + 1) f fd ["_law_m", "_law_bound"] spDraw := by
  refine F.ok scDraw (fun vs H Q E h => ?_) (fun cdv A outer s H vs Q E hr h => ?_)
  · obtain ⟨m, c, b, N, rfl, _⟩ := h
    rfl
  · obtain ⟨m, c, b, N, rfl, b0, b1, ⟨kvs, l, sd, sp, cs, hm, hln, hL, hS, hC, hP, hc, hcl, p0, p1⟩, hN, q⟩ := h
    have hu := hu_of hr
    refine ⟨_, pss_cons (ps_if (pt_cmpR op_gt (pe_dget hu (pv 0) pe_str (fun _ _ => rfl)) pe_int (nomark _))
        (pss_cons (ps_set (i := 2) scDraw.nd rfl (.inl rfl) (pe_op op_mod (pe_callTy call_int1 (by rfl) zi (by decide +kernel) (pa_cons (pe_dget hu (pv 0) pe_str (fun _ _ => rfl)) pa_nil)) (pv 1)))
        (pss_cons (ps_dput hu (pv 0) pe_str (pe_op op_fdiv (pe_dget hu (pv 0) pe_str (fun _ _ => rfl)) (pv 1)) rfl)
        (pss_one (ps_ret (pv 2))))) pss_nil)
      (pss_cons (ps_set (i := 3) scDraw.nd rfl (.inl rfl) (pe_dget hu (pv 0) pe_str (fun _ _ => rfl)))
      (pss_cons (ps_dput hu (pv 0) pe_str (pe_op op_add (pv 3) pe_int) rfl)
      (pss_cons (ps_par (i := 4) (j := 5) rfl scDraw.nd rfl rfl (by decide) rfl rfl (pa_cons (pe_dget hu (pv 0) pe_str (fun _ _ => rfl)) (pa_cons
          (pe_op op_add (pe_dget hu (pv 0) pe_str (fun _ _ => rfl)) (pe_op op_mul (pe_op op_mul pe_int (pv 3)) (pv 3))) pa_nil)) (by rfl))
      (pss_cons (ps_set (i := 6) scDraw.nd rfl (.inl rfl) (pe_ix ix_list (pv 4) (pe_op op_mod (pe_callTy call_int1 (by rfl) zi (by decide +kernel) (pa_cons (pv 3) pa_nil)) (pe_callB call_len_seq (by rfl) zl PySem.boot_len (pa_cons (pv 4) pa_nil))) (fun _ _ => rfl)))
      (pss_cons (ps_set (i := 7) scDraw.nd rfl (.inl rfl) (pe_op op_mod (pe_callTy call_int1 (by rfl) zi (by decide +kernel) (pa_cons (pe_op op_add (pe_op op_mul (pv 6) (pe_op op_add (pe_op op_mul pe_int (pv 3)) pe_int)) (pv 5)) pa_nil)) pe_int))
      (pss_cons (ps_set (i := 7) scDraw.nd rfl (.inl rfl) (pe_op op_mod (pe_callTy call_int1 (by rfl) zi (by decide +kernel) (pa_cons (pe_op op_add (pe_op op_add (pe_op op_mul (pv 7) (pv 7)) (pe_op op_mul pe_int (pv 3))) (pe_dget hu (pv 0) pe_str (fun _ _ => rfl))) pa_nil)) pe_int))
      (pss_one (ps_ret (pe_op op_mod (pe_op op_fdiv (pe_op op_mod (pe_callTy call_int1 (by rfl) zi (by decide +kernel) (pa_cons (pe_op op_add (pe_op op_mul (pv 7) pe_int) (pv 3)) pa_nil)) pe_int) pe_int) (pv 1)))))))))), ?_⟩
    have small : ∀ z : Int, -(2 ^ 63) < z → z < 2 ^ 63 → -(2 ^ 64) < z ∧ z < 2 ^ 64 := fun z h1 h2 => by omega
    -- if m['left'] > 0
    refine ⟨_, rfl, m, .int l, rfl, dget (k := kL) hm hL, _, _, rfl, rfl, _, rfl, iteD (fun e => ?_) (fun e => ?_)⟩
    · refine ⟨_, rfl, m, .int l, rfl, dget (k := kL) hm hL, .inl ⟨l, rfl, ?_⟩⟩
      refine ⟨_, rfl, _, _, rfl, rfl, b0, ?_⟩
      refine ⟨_, rfl, m, .int l, rfl, dget (k := kL) hm hL, _, rfl, _, _, rfl, rfl, ⟨b0, by omega⟩, ?_⟩
      refine ⟨_, rfl, m, _, rfl, DPut.k (k := kL) hm (big_lt (by omega)), _, rfl, ?_⟩
      refine q _ _ (Int.emod_nonneg _ (by omega)) (Int.emod_lt_of_pos _ b0) ⟨_, l / b, sd, sp, cs, upd_same, by rw [put_len hL]; exact hln, put_there, by rw [put_other nLS.symm]; exact hS, by rw [put_other nLC.symm]; exact hC, by rw [put_other nLP.symm]; exact hP, ?_, hcl, p0, by omega⟩ but_upd
      rw [upd_ne (ne_of hc hm (fun z => nomatch z))]
      exact hc
    · -- spot = m['spot']; m['spot'] = spot + 1
      refine ⟨_, rfl, m, .int sp, rfl, dget (k := kP) hm hP, ?_⟩
      refine ⟨_, rfl, _, _, rfl, rfl, _, rfl, m, _, rfl, DPut.k (k := kP) hm (big_lt (by omega)), ?_⟩
      have hm2 : (upd H m (.dK (putK kvs kP (.int (sp + 1))))) m = some (.dK (putK kvs kP (.int (sp + 1)))) := upd_same
      have hC2 : valV (putK kvs kP (.int (sp + 1))) kC = some (.ref c) := by rw [put_other nCP]; exact hC
      have hS2 : valV (putK kvs kP (.int (sp + 1))) kS = some (.int sd) := by rw [put_other nSP]; exact hS
      have hc2 : (upd H m (.dK (putK kvs kP (.int (sp + 1))))) c = some (.lst (cs.map V.int)) := by
        rw [upd_ne (ne_of hc hm (fun z => nomatch z))]
        exact hc
      -- cells, extra = ..
      refine ⟨_, rfl, m, _, rfl, dget (k := kC) hm2 hC2, _, rfl, m, _, rfl, dget (k := kS) hm2 hS2, ?_⟩
      refine ⟨_, rfl, _, _, rfl, rfl, .inl ⟨by decide, by decide⟩, _, rfl, _, _, rfl, rfl, .inr (small _ (by omega) (by omega)), _, _, rfl, rfl, _, _, rfl, ?_⟩
      -- cell = cells[int(spot) % len(cells)]
      have hl0 : (0 : Int) < ((cs.map V.int).length : Int) := by
        rw [List.length_map]
        omega
      obtain ⟨v, hv, ev⟩ := atI_in (xs := cs.map V.int) (i := sp % ((cs.map V.int).length : Int)) (Int.emod_nonneg _ (by omega)) (Int.emod_lt_of_pos _ hl0)
      obtain ⟨z, _, rfl⟩ := int_mem hv
      refine ⟨_, rfl, _, rfl, .inl ⟨sp, rfl, ?_⟩⟩
      refine ⟨_, rfl, c, _, rfl, .inl (SqL.of hc2), _, _, rfl, rfl, hl0, c, _, _, .int z, rfl, rfl, SqL.of hc2, ev, ?_⟩
      -- blend
      refine ⟨_, rfl, _, rfl, _, _, rfl, rfl, .inl ⟨by decide, by decide⟩, _, _, rfl, rfl, _, _, rfl, rfl, .inr (small _ (by omega) (by omega)), _, rfl, _, _, rfl, rfl, .inl ⟨_, rfl, ?_⟩⟩
      refine ⟨_, _, rfl, rfl, (by decide : (0 : Int) < 2147483647), ?_⟩
      have m1 : ∀ x : Int, 0 ≤ x % 2147483647 ∧ x % 2147483647 < 2147483647 := fun x => ⟨Int.emod_nonneg _ (by decide), Int.emod_lt_of_pos _ (by decide)⟩
      have m2 : ∀ x : Int, 0 ≤ x % 2147483629 ∧ x % 2147483629 < 2147483629 := fun x => ⟨Int.emod_nonneg _ (by decide), Int.emod_lt_of_pos _ (by decide)⟩
      have sm1 : ∀ x : Int, -(2 ^ 64) < x % 2147483647 ∧ x % 2147483647 < 2 ^ 64 := fun x => by
        have := m1 x
        omega
      refine ⟨_, rfl, _, rfl, _, _, rfl, rfl, .inl (sm1 _), _, rfl, _, _, rfl, rfl, .inl ⟨by decide, by decide⟩, _, _, rfl, rfl, ?_⟩
      refine ⟨_, rfl, m, _, rfl, dget (k := kS) hm2 hS2, _, _, rfl, rfl, .inl ⟨_, rfl, ?_⟩⟩
      refine ⟨_, _, rfl, rfl, (by decide : (0 : Int) < 2147483629), ?_⟩
      refine ⟨_, rfl, _, _, rfl, rfl, .inr ⟨by decide, by decide⟩, _, rfl, _, _, rfl, rfl, .inl ⟨_, rfl, ?_⟩⟩
      refine ⟨_, _, rfl, rfl, (by decide : (0 : Int) < 2147483647), _, _, rfl, rfl, ⟨by decide, by decide⟩, _, rfl, _, _, rfl, rfl, b0, ?_⟩
      exact q _ _ (Int.emod_nonneg _ (by omega)) (Int.emod_lt_of_pos _ b0) ⟨_, l, sd, sp + 1, cs, upd_same, by rw [put_len hP]; exact hln, by rw [put_other nLP]; exact hL, hS2, hC2, put_there, hc2, hcl, by omega, by omega⟩ but_upd
end
end K15
/-! One of some, sized, signed, begun. -/
namespace K15
open L2 PySem PySem.Spec PyProof.Rows
theorem but_seq {K : PySem.W.Frag} {m a : Addr} {H H' : Hp} {xs : List V} (b : But m H H') (n : a ≠ m) (h : SqL K H a xs) : SqL K H' a xs := by
  rcases h with (h | ⟨ob, h⟩) | h
  · exact .inl (.inl (b _ _ h n))
  · exact .inl (.inr ⟨ob, b _ _ h n⟩)
  · exact .inr h
theorem but_tup {K : PySem.W.Frag} {m a : Addr} {H H' : Hp} {xs : List V} (b : But m H H') (n : a ≠ m) (h : SqT K H a xs) : SqT K H' a xs := by
  rcases h with (h | ⟨ob, h⟩) | h
  · exact .inl (.inl (b _ _ h n))
  · exact .inl (.inr ⟨ob, b _ _ h n⟩)
  · exact .inr h
theorem MAt.there {H : Hp} {m c : Addr} {N : Nat} (h : MAt H m c N) : ∃ kvs, H m = some (.dK kvs) := by
  obtain ⟨kvs, l, sd, sp, cs, h1, _⟩ := h
  exact ⟨kvs, h1⟩
section
variable {K : PySem.W.Frag} {mg : Str → Option Value} {P : Program} {w : World} {base : Heap}
abbrev GDraw (P : Program) (w : World) (K : PySem.W.Frag) (mg : Str → Option Value) (base : Heap) : Prop := Good P w K mg base 1 "_law_draw" ["_law_m", "_law_bound"] spDraw
/-! ### one of some -/
theorem scOf : FnScope ["_law_m", "_law_some"] ["_law_m", "_law_some"] (defScope sOf) := ⟨rfl, rfl, rfl, by decide +kernel, rfl, by decide +kernel, by decide +kernel⟩
def spOf (K : PySem.W.Frag) : Sp := fun vs H Q _ => ∃ (m c a : Addr) (ns : List Int) (N : Nat), vs = [.ref m, .ref a] ∧ a ≠ m ∧ SqL K H a (ns.map V.int) ∧ 0 < ns.length ∧ ns.length < 1000000 ∧ MAt H m c N ∧ N ≤ 1000000 ∧ ∀ H' x, x ∈ ns → MAt H' m c (N + 1) → But m H H' → Q (.int x) H'
theorem ok_of {f : Addr} {fd : FuncData} (F : Fun K "_law_of" "_law_of" sOf f fd) (G : GDraw P w K mg base) (zl : mg "len" = none) : FnOk P w K mg base CX0 2 f fd ["_law_m", "_law_some"] (spOf K) := by
  refine F.ok scOf (fun vs H Q E h => ?_) (fun cdv A outer s H vs Q E hr h => ?_)
  · obtain ⟨m, c, a, ns, N, rfl, _⟩ := h
    rfl
  · obtain ⟨m, c, a, ns, N, rfl, am, hS, l0, l1, hM, hN, q⟩ := h
    refine ⟨_, pss_one (ps_ret (pe_ix ix_list (pv 1) (pe_g G hr (pa_cons (pv 0) (pa_cons (pe_callB call_len_seq (by rfl) zl PySem.boot_len (pa_cons (pv 1) pa_nil)) pa_nil))) (fun _ _ => rfl))), ?_⟩
    refine ⟨_, rfl, _, rfl, _, rfl, a, _, rfl, .inl hS, m, c, _, N, rfl, by rw [List.length_map]; omega, by rw [List.length_map]; omega, hM, hN, fun H' r r0 r1 hM' hB => ?_⟩
    obtain ⟨v, hv, ev⟩ := atI_in (xs := ns.map V.int) r0 r1
    obtain ⟨z, hz, rfl⟩ := int_mem hv
    exact ⟨a, _, r, _, rfl, rfl, but_seq hB am hS, ev, q H' z hz hM' hB⟩
/-! ### sized -/
theorem scSized : FnScope ["_law_m", "_law_most", "_law_found", "_law_step"] ["_law_m", "_law_most"] (defScope sSized) := ⟨rfl, rfl, rfl, by decide +kernel, rfl, by decide +kernel, by decide +kernel⟩
def spSized : Sp := fun vs H Q _ => ∃ (m c : Addr) (t N : Nat), vs = [.ref m, .int (t : Int)] ∧ t ≤ 40 ∧ MAt H m c N ∧ N ≤ 900000 ∧ ∀ H' r, 0 ≤ r → r < 10 ^ t → MAt H' m c (N + 42) → But m H H' → Q (.int r) H'
theorem ok_sized {f : Addr} {fd : FuncData} (F : Fun K "_law_sized" "_law_sized" sSized f fd) (G : GDraw P w K mg base) (zr : mg "range" = none) : FnOk P w K mg base CX0 2 f fd ["_law_m", "_law_most"] spSized := by
  refine F.ok scSized (fun vs H Q E h => ?_) (fun cdv A outer s H vs Q E hr h => ?_)
  · obtain ⟨m, c, t, N, rfl, _⟩ := h
    rfl
  · obtain ⟨m, c, t, N, rfl, t1, hM, hN, q⟩ := h
    refine ⟨_, pss_cons (ps_set (i := 2) scSized.nd rfl (.inl rfl) pe_int)
      (pss_cons (ps_for PassesOwn.never rfl (pi_range1 (by rfl) zr (pa_cons (pe_g G hr (pa_cons (pv 0) (pa_cons (pe_op op_add (pv 1) pe_int) pa_nil))) pa_nil)) (pg_name (i := 3) scSized.nd rfl (.inl rfl))
        (pss_one (ps_set (i := 2) scSized.nd rfl (.inl rfl) (pe_op op_add (pe_op op_mul (pv 2) pe_int) (pe_g G hr (pa_cons (pv 0) (pa_cons pe_int pa_nil)))))))
      (pss_one (ps_ret (pv 2)))), ?_⟩
    refine ⟨_, rfl, _, rfl, _, _, rfl, rfl, m, c, _, N, rfl, by omega, by omega, hM, by omega, fun H1 r r0 r1 hM1 hB1 => ?_⟩
    refine ⟨r, rfl, by omega, by omega, for_range (lo := 0) (n := r.toNat) (fun i σ H2 => ∃ (x : Int) (y3 : Option V), σ = [some (.ref m), some (.int t), some (.int x), y3] ∧ 0 ≤ x ∧ x < 10 ^ i ∧ i ≤ t ∧ MAt H2 m c (N + 1 + i) ∧ But m H H2) ⟨0, none, rfl, by decide, by decide, Nat.zero_le _, hM1, hB1⟩ ?_ ?_⟩
    · rintro i σ H2 hi ⟨x, y3, rfl, x0, x1, hit, hM2, hB2⟩
      refine ⟨_, rfl, _, _, rfl, rfl, .inr ⟨by decide, by decide⟩, _, rfl, m, c, 10, _, rfl, by decide, by decide, hM2, by omega, fun H3 d d0 d1 hM3 hB3 => ?_⟩
      refine ⟨_, _, rfl, rfl, x * 10 + d, _, rfl, by omega, ?_, by omega, hM3, hB2.trans hB3⟩
      rw [Int.pow_succ]
      omega
    · rintro σ H2 ⟨x, y3, rfl, x0, x1, hit, hM2, hB2⟩
      refine ⟨_, rfl, q H2 x x0 ?_ (hM2.mono (by omega)) hB2⟩
      have hp : (10 : Int) ^ r.toNat ≤ 10 ^ t := by
        have := Nat.pow_le_pow_right (n := 10) (by decide) hit
        exact_mod_cast this
      omega
/-! ### signed -/
theorem scSigned : FnScope ["_law_m", "_law_most"] ["_law_m", "_law_most"] (defScope sSigned) := ⟨rfl, rfl, rfl, by decide +kernel, rfl, by decide +kernel, by decide +kernel⟩
def spSigned : Sp := fun vs H Q _ => ∃ (m c : Addr) (t N : Nat), vs = [.ref m, .int (t : Int)] ∧ t ≤ 40 ∧ MAt H m c N ∧ N ≤ 800000 ∧ ∀ H' r, r.natAbs < 10 ^ t → MAt H' m c (N + 43) → But m H H' → Q (.int r) H'
theorem ok_signed {f : Addr} {fd : FuncData} (F : Fun K "_law_signed" "_law_signed" sSigned f fd) (G : Good P w K mg base 2 "_law_sized" ["_law_m", "_law_most"] spSized) (G2 : Good P w K mg base 2 "_law_of" ["_law_m", "_law_some"] (spOf K)) :
    FnOk P w K mg base CX0 3 f fd ["_law_m", "_law_most"] spSigned := by
  refine F.ok scSigned (fun vs H Q E h => ?_) (fun cdv A outer s H vs Q E hr h => ?_)
  · obtain ⟨m, c, t, N, rfl, _⟩ := h
    rfl
  · obtain ⟨m, c, t, N, rfl, t1, hM, hN, q⟩ := h
    refine ⟨_, pss_one (ps_ret (pe_op op_mul (pe_g G hr (pa_cons (pv 0) (pa_cons (pv 1) pa_nil))) (pe_g G2 hr (pa_cons (pv 0) (pa_cons (pe_lst (pa_cons pe_int (pa_cons pe_int (pa_cons (pe_un un_neg pe_int) pa_nil)))) pa_nil))))), ?_⟩
    refine ⟨_, rfl, _, rfl, m, c, t, N, rfl, t1, hM, by omega, fun H1 r r0 r1 hM1 hB1 => ?_⟩
    refine ⟨_, rfl, _, rfl, by decide, fun p np => ?_⟩
    obtain ⟨kvs, hk⟩ := hM1.there
    have pm : p ≠ m := (ne_of_none hk np).symm
    refine ⟨m, c, p, [1, 1, -1], N + 42, rfl, pm, SqL.of upd_same, by decide, by decide, hM1.same (same_new np), by omega, fun H2 x hx hM2 hB2 => ?_⟩
    have hx' : x = 1 ∨ x = -1 := by
      simp at hx
      omega
    refine ⟨r, x, rfl, rfl, .inr ⟨by omega, by omega⟩, q H2 _ ?_ hM2 ((hB1.trans (But.of (same_new np))).trans hB2)⟩
    have e : (r * x).natAbs = r.natAbs := by
      rcases hx' with rfl | rfl
      · rw [Int.mul_one]
      · rw [Int.mul_neg, Int.mul_one, Int.natAbs_neg]
    rw [e]
    have : (r.natAbs : Int) < ((10 ^ t : Nat) : Int) := by
      push_cast
      omega
    exact_mod_cast this
end
end K15
/-! The state of the draws of a turn. -/
namespace K15
open L2 PySem PySem.Spec PyProof.Rows
theorem cut_to (xs : List V) (k : Nat) : cutV xs none (some (k : Int)) = xs.take k := by
  unfold cutV
  rw [HT.sIx_nat, HT.sIx_none, List.drop_zero, Nat.sub_zero]
  by_cases h : k ≤ xs.length
  · rw [Nat.min_eq_left h]
  · rw [Nat.min_eq_right (by omega), List.take_length, List.take_of_length_le (by omega)]
theorem dp_ints {K : PySem.W.Frag} {H : Hp} : ∀ ns : List Int, DpAll K H (ns.map V.int) (ns.map PyData.int)
  | [] => .nil
  | n :: ns => .cons (.int n) (dp_ints ns)
theorem lay_ints : ∀ ns : List Int, PyData.canLayAll0 (ns.map PyData.int) = true ∧ PyData.depthAll (ns.map PyData.int) = 0
  | [] => by simp [PyData.canLayAll0, PyData.depthAll]
  | n :: ns => by
    obtain ⟨h1, h2⟩ := lay_ints ns
    simp [PyData.canLayAll0, PyData.depthAll, PyData.canLay0, PyData.depth, h1, h2]
theorem shaped_ints (ns : List Int) : SeqAt.shaped (.list (ns.map PyData.int)) = true := by
  obtain ⟨h1, h2⟩ := lay_ints ns
  simp [SeqAt.shaped, PyData.canLay0, PyData.depth, h1, h2]
theorem iteFb {b : Bool} {A B : Prop} (hb : b = false) (h : B) : if b = true then A else B := by
  subst hb
  exact iteF h
theorem iteTb {b : Bool} {A B : Prop} (hb : b = true) (h : A) : if b = true then A else B := by
  subst hb
  exact iteT h
theorem eqv_nil : (!PyData.eqv (.list (([] : List Int).map PyData.int)) (.list [])) = false := by simp [PyData.eqv, PyData.eqvAll]
theorem eqv_cons {x : Int} {r : List Int} : (!PyData.eqv (.list ((x :: r).map PyData.int)) (.list [])) = true := by simp [PyData.eqv, PyData.eqvAll]
/-- the pairs of the state -/
def dPairs (l sd : V) (c : Addr) (sp : V) : List (Key × V) := [(kL, l), (kS, sd), (kC, .ref c), (kP, sp)]
theorem four_len {l sd : V} {c : Addr} {sp : V} : (dPairs l sd c sp).length ≤ 15 := (by decide : 4 ≤ 15)
theorem one_len {v : V} : [v].length ≤ sizeLine := (by decide : 1 ≤ sizeLine)
theorem dp_look (l sd : V) (c : Addr) (sp : V) : (mergeK [] (dPairs l sd c sp)).length ≤ 4 ∧ valV (mergeK [] (dPairs l sd c sp)) kL = some l ∧ valV (mergeK [] (dPairs l sd c sp)) kS = some sd ∧
    valV (mergeK [] (dPairs l sd c sp)) kC = some (.ref c) ∧ valV (mergeK [] (dPairs l sd c sp)) kP = some sp := by
  have e : mergeK [] (dPairs l sd c sp) = putK (putK (putK (putK [] kL l) kS sd) kC (.ref c)) kP sp := rfl
  refine ⟨length_mergeK (dPairs l sd c sp) [], ?_, ?_, ?_, ?_⟩
  · rw [e, put_other nLP, put_other nLC, put_other nLS, put_there]
  · rw [e, put_other nSP, put_other nSC, put_there]
  · rw [e, put_other nCP, put_there]
  · rw [e, put_there]
section
variable {K : PySem.W.Frag} {mg : Str → Option Value} {P : Program} {w : World} {base : Heap}
theorem scBegun : FnScope ["_law_script", "_law_k", "_law_cells", "_law_cell", "_law_great", "_law_seed"] ["_law_script", "_law_k"] (defScope sBegun) := ⟨rfl, rfl, rfl, by decide +kernel, rfl, by decide +kernel, by decide +kernel⟩
def spBegun (K : PySem.W.Frag) : Sp := fun vs H Q _ => ∃ (a : Addr) (ns : List Int) (k : Nat), vs = [.ref a, .int (k : Int)] ∧ SqL K H a (ns.map V.int) ∧ ns.length ≤ 63 ∧ ∀ H' m c, Same H H' → H m = none → H c = none → MAt H' m c 0 → Q (.ref m) H'
theorem ok_begun {f : Addr} {fd : FuncData} {k : Nat} (F : Fun K "_law_begun" "_law_begun" sBegun f fd) (zi : mg "int" = none) : FnOk P w K mg base CX0 (k + 1) f fd ["_law_script", "_law_k"] (spBegun K) := by
  refine F.ok scBegun (fun vs H Q E h => ?_) (fun cdv A outer s H vs Q E hr h => ?_)
  · obtain ⟨a, ns, j, rfl, _⟩ := h
    rfl
  · obtain ⟨a, ns, j, rfl, hS, hlen, q⟩ := h
    refine ⟨_, pss_cons (ps_set (i := 2) scBegun.nd rfl (.inl rfl) (pe_op op_cat (pe_slice sl_list (pv 0) (po_some (pv 1)) po_none) (pe_slice sl_list (pv 0) po_none (po_some (pv 1)))))
      (pss_cons (ps_setLc (i := 4) (own := [("_law_cell", 3)]) (g := gName 3) rfl scBegun.nd rfl rfl (sw_true rfl rfl rfl (by decide +kernel)) (pi_list (pv 2))
        (blkOk_by (own := [("_law_cell", 3)]) (N := ["_law_script", "_law_k", "_law_cells", "_law_cell", "_law_great", "_law_seed"]) (sc := defScope sBegun) (by decide +kernel))
        (fun _ _ _ _ _ => pg_name (i := 3) scBegun.nd rfl (Or.inl rfl)) (fun _ _ _ _ _ => pts_one (pt_cmpR op_ge (pv 3) (pe_op op_pow pe_int pe_int) (nomark _))) (fun _ _ _ _ _ => pv 3))
      (pss_cons (ps_set (i := 5) scBegun.nd rfl (.inl rfl) (pe_op op_add pe_int (pv 1)))
      (pss_cons (ps_for PassesOwn.never rfl (pi_list (pv 2)) (pg_name (i := 3) scBegun.nd rfl (.inl rfl))
        (pss_one (ps_set (i := 5) scBegun.nd rfl (.inl rfl) (pe_op op_mod (pe_callTy call_int1 (by rfl) zi (by decide +kernel) (pa_cons (pe_op op_add (pe_op op_mul (pv 5) pe_int) (pv 3)) pa_nil)) pe_int))))
      (pss_one (ps_ret (pe_disp (pps_cons pe_str (pe_ifExp (pt_cmpR (op_neD hr.units) (pv 4) (pe_lst pa_nil) (nomark _)) (pe_ix ix_list (pv 4) pe_int (fun _ _ => rfl)) pe_int)
        (pps_cons pe_str (pv 5) (pps_cons pe_str (pe_op op_cat (pv 2) (pe_lst (pa_cons (pe_op op_add (pe_op op_mul pe_int (pv 1)) pe_int) pa_nil))) (pps_cons pe_str pe_int pps_nil)))) (by rfl) (by rfl) (fun z => by cases z) (by decide))))))), ?_⟩
    -- cells = script[k:] + script[:k]
    have e1 : cutV (ns.map V.int) (some (j : Int)) none = (ns.drop j).map V.int := by rw [cut_from, List.map_drop]
    have e2 : cutV (ns.map V.int) none (some (j : Int)) = (ns.take j).map V.int := by rw [cut_to, List.map_take]
    refine ⟨_, rfl, _, rfl, (j : Int), rfl, a, _, rfl, hS, fun c1 n1 => ?_⟩
    have s1 := same_new (o := .lst (cutV (ns.map V.int) (some (j : Int)) none)) n1
    refine ⟨_, rfl, _, rfl, (j : Int), rfl, a, _, rfl, s1.seq hS, fun c2 n2 => ?_⟩
    have s2 := s1.trans (same_new (o := .lst (cutV (ns.map V.int) none (some (j : Int)))) n2)
    have n12 : c1 ≠ c2 := fun z => by
      rw [← z, upd_same] at n2
      cases n2
    have hcut : (cutV (ns.map V.int) (some (j : Int)) none).length + (cutV (ns.map V.int) none (some (j : Int))).length ≤ 63 := by
      rw [e1, e2, List.length_map, List.length_map, List.length_drop, List.length_take]
      have := Nat.min_le_left j ns.length
      have := Nat.min_le_right j ns.length
      omega
    refine ⟨c1, c2, _, _, rfl, rfl, by rw [upd_ne n12, upd_same], upd_same, big_len (by omega), fun c n3 => ?_⟩
    have s3 := s2.trans (same_new (o := .lst (cutV (ns.map V.int) (some (j : Int)) none ++ cutV (ns.map V.int) none (some (j : Int)))) n3)
    obtain ⟨cs, ecs⟩ : ∃ cs : List Int, cs = ns.drop j ++ ns.take j := ⟨_, rfl⟩
    have ecc : cutV (ns.map V.int) (some (j : Int)) none ++ cutV (ns.map V.int) none (some (j : Int)) = cs.map V.int := by rw [e1, e2, ecs, List.map_append]
    have lcs : cs.length ≤ 63 := by
      have := congrArg List.length ecc
      rw [List.length_append, List.length_map] at this
      omega
    -- great = [..]
    refine ⟨_, rfl, c, rfl, ⟨_, SqL.of upd_same⟩, fun D nD => ?_⟩
    have ncD : c ≠ D := fun z => by
      rw [← z, upd_same] at nD
      cases nD
    refine lc_list (K := K) (a := c) (xs := cs.map V.int) (fun i H2 => ∃ gs : List Int, Same H H2 ∧ H2 c = some (.lst (cs.map V.int)) ∧ H2 D = some (.lst (gs.map V.int)) ∧ gs.length ≤ i) ?_ ?_ ?_ ?_
    · exact ⟨[], s3.trans (same_new nD), by rw [upd_ne ncD, upd_same, ecc], upd_same, Nat.le_refl _⟩
    · rintro i H2 _ ⟨gs, sm, hc, _⟩
      exact SqL.of hc
    · rintro i x H2 hx ⟨gs, sm, hc, hD, hg⟩
      have hi : i < cs.length := by
        have := (List.getElem?_eq_some_iff.mp hx).1
        rw [List.length_map] at this
        exact this
      obtain ⟨z, _, rfl⟩ := int_mem (List.mem_of_getElem? hx)
      refine ⟨rfl, _, rfl, _, _, rfl, rfl, ⟨by decide, by decide, by decide⟩, _, _, rfl, rfl, _, rfl, ite2 (fun e => ?_) (fun e => ?_)⟩
      · refine ⟨_, rfl, _, hD, by rw [List.length_map]; exact big_lt (by omega), gs ++ [z], ?_, ?_, ?_, ?_⟩
        · exact same_wr sm (s3.free nD)
        · rw [upd_ne ncD]
          exact hc
        · rw [upd_same, List.map_append]
          rfl
        · rw [List.length_append]
          show gs.length + 1 ≤ i + 1
          omega
      · exact ⟨gs, sm, hc, hD, by omega⟩
    · rintro H2 ⟨gs, sm, hc, hD, hg⟩
      rw [List.length_map] at hg
      -- seed = 71 + k; the loop
      refine ⟨_, rfl, _, _, rfl, rfl, ?_⟩
      refine ⟨_, rfl, c, rfl, ⟨_, SqL.of hc⟩, for_list (K := K) (a := c) (xs := cs.map V.int) (fun i σ H3 => ∃ (sd : Int) (y3 : Option V), σ = [some (.ref a), some (.int j), some (.ref c), y3, some (.ref D), some (.int sd)] ∧ H3 = H2) ⟨71 + j, none, rfl, rfl⟩ ?_ ?_ ?_⟩
      · rintro i σ H3 _ ⟨sd, y3, rfl, rfl⟩
        exact SqL.of hc
      · rintro i x σ H3 hx ⟨sd, y3, rfl, rfl⟩
        obtain ⟨z, _, rfl⟩ := int_mem (List.mem_of_getElem? hx)
        refine ⟨_, rfl, _, _, rfl, rfl, .inr ⟨by decide, by decide⟩, _, rfl, _, _, rfl, rfl, .inl ⟨_, rfl, ?_⟩⟩
        exact ⟨_, _, rfl, rfl, (by decide : (0 : Int) < 2147483647), _, _, rfl, rfl⟩
      · rintro σ H3 ⟨sd, y3, rfl, rfl⟩
        -- the dict
        intro p np
        refine ⟨_, rfl, Nat.zero_le _, fun e ne => ?_⟩
        have npD : D ≠ p := ne_of_none hD np
        have npc : c ≠ p := ne_of_none hc np
        have nep : p ≠ e := fun z => by
          rw [← z, upd_same] at ne
          cases ne
        have neD : D ≠ e := fun z => by
          rw [← z, upd_ne npD, hD] at ne
          cases ne
        have nec : c ≠ e := fun z => by
          rw [← z, upd_ne npc, hc] at ne
          cases ne
        have hp1 : (upd (upd H3 p (.dK [])) e (.lst [])) p = some (.dK []) := by rw [upd_ne nep, upd_same]
        have hD1 : (upd (upd H3 p (.dK [])) e (.lst [])) D = some (.lst (gs.map V.int)) := by rw [upd_ne neD, upd_ne npD]; exact hD
        have hc1 : (upd (upd H3 p (.dK [])) e (.lst [])) c = some (.lst (cs.map V.int)) := by rw [upd_ne nec, upd_ne npc]; exact hc
        have s5 : Same H (upd (upd H3 p (.dK [])) e (.lst [])) := same_wr (sm.trans (same_new np)) ((sm.trans (same_new (o := .dK []) np)).free ne)
        refine ⟨.list (gs.map PyData.int), .list ([] : List PyData), .lst (SqL.of hD1) (dp_ints gs), .lst (SqL.of upd_same) .nil, shaped_ints gs, shaped_ints [], _, rfl, ?_⟩
        cases gs with
        | nil =>
          refine iteFb eqv_nil ?_
          refine ⟨_, rfl, ?_⟩
          refine ⟨_, rfl, _, rfl, _, _, rfl, rfl, .inl ⟨by decide, by decide⟩, _, _, rfl, rfl, one_len, fun g ng => ?_⟩
          have ncg : c ≠ g := ne_of_none hc1 ng
          have npg : p ≠ g := ne_of_none hp1 ng
          refine ⟨c, g, _, _, rfl, rfl, by rw [upd_ne ncg]; exact hc1, upd_same, by rw [List.length_map]; exact big_len (by simp; omega), fun d nd => ?_⟩
          have npd : p ≠ d := fun z => by
            rw [← z, upd_ne npg, hp1] at nd
            cases nd
          have hp2 := (upd_ne (H := upd (upd (upd H3 p (.dK [])) e (.lst [])) g (.lst [.int (53 * (j : Int) + 11)])) (o := .lst (cs.map V.int ++ [.int (53 * (j : Int) + 11)])) npd).trans ((upd_ne npg).trans hp1)
          refine ⟨hp2, dPairs _ _ d _, rfl, four_len, ?_⟩
          refine q _ p d (same_wr ((s5.trans (same_new ng)).trans (same_new nd)) (sm.free np)) (sm.free np) ((s5.trans (same_new ng)).free nd) ?_
          obtain ⟨l1, l2, l3, l4, l5⟩ := dp_look (.int 0) (.int sd) d (.int 0)
          refine ⟨_, 0, sd, 0, cs ++ [53 * (j : Int) + 11], upd_same, by omega, l2, l3, l4, l5, ?_, by simp, by decide, by decide⟩
          rw [upd_ne npd.symm, upd_same, List.map_append]
          rfl
        | cons g0 gr =>
          refine iteTb eqv_cons ?_
          refine ⟨_, rfl, D, _, 0, .int g0, rfl, rfl, SqL.of hD1, atI_nat (j := 0) rfl, ?_⟩
          refine ⟨_, rfl, ?_⟩
          refine ⟨_, rfl, _, rfl, _, _, rfl, rfl, .inl ⟨by decide, by decide⟩, _, _, rfl, rfl, one_len, fun g ng => ?_⟩
          have ncg : c ≠ g := ne_of_none hc1 ng
          have npg : p ≠ g := ne_of_none hp1 ng
          refine ⟨c, g, _, _, rfl, rfl, by rw [upd_ne ncg]; exact hc1, upd_same, by rw [List.length_map]; exact big_len (by simp; omega), fun d nd => ?_⟩
          have npd : p ≠ d := fun z => by
            rw [← z, upd_ne npg, hp1] at nd
            cases nd
          have hp2 := (upd_ne (H := upd (upd (upd H3 p (.dK [])) e (.lst [])) g (.lst [.int (53 * (j : Int) + 11)])) (o := .lst (cs.map V.int ++ [.int (53 * (j : Int) + 11)])) npd).trans ((upd_ne npg).trans hp1)
          refine ⟨hp2, dPairs _ _ d _, rfl, four_len, ?_⟩
          refine q _ p d (same_wr ((s5.trans (same_new ng)).trans (same_new nd)) (sm.free np)) (sm.free np) ((s5.trans (same_new ng)).free nd) ?_
          obtain ⟨l1, l2, l3, l4, l5⟩ := dp_look (.int g0) (.int sd) d (.int 0)
          refine ⟨_, g0, sd, 0, cs ++ [53 * (j : Int) + 11], upd_same, by omega, l2, l3, l4, l5, ?_, by simp, by decide, by decide⟩
          rw [upd_ne npd.symm, upd_same, List.map_append]
          rfl
end
end K15
/-! like, nearest, the law of a ratio. -/
namespace K15
open L2 PySem PySem.Spec PyProof.Rows
mutual
theorem dp_same {K : PySem.W.Frag} {H H' : Hp} (s : Same H H') : ∀ {v : V} {d : PyData}, Dp K H v d → Dp K H' v d
  | _, _, .non => .non
  | _, _, .bl b => .bl b
  | _, _, .int i => .int i
  | _, _, .str x => .str x
  | _, _, .lst h ha => .lst (s.seq h) (dps_same s ha)
  | _, _, .tup h ha => .tup (same_tup s h) (dps_same s ha)
theorem dps_same {K : PySem.W.Frag} {H H' : Hp} (s : Same H H') : ∀ {vs : List V} {ds : List PyData}, DpAll K H vs ds → DpAll K H' vs ds
  | _, _, .nil => .nil
  | _, _, .cons h t => .cons (dp_same s h) (dps_same s t)
end
/-- the data of a row of ints, of a pair, of rows of pairs -/
abbrev dRow (l : List Int) : PyData := .tuple (l.map PyData.int)
abbrev dPair (c : Int × Int) : PyData := .tuple [.int c.1, .int c.2]
abbrev dPairsOf (cs : List (Int × Int)) : PyData := .tuple (cs.map dPair)
theorem dp_pairs {K : PySem.W.Frag} {H : Hp} : ∀ {as : List Addr} {cs : List (Int × Int)}, PairsAt H as cs → DpAll K H (as.map V.ref) (cs.map dPair)
  | [], [], _ => .nil
  | [], _ :: _, h => nomatch h.1
  | _ :: _, [], h => nomatch h.1
  | a :: as, c :: cs, h => .cons (.tup (SqT.of (h.2 0 a c rfl rfl)) (.cons (.int c.1) (.cons (.int c.2) .nil))) (dp_pairs ⟨Nat.succ.inj h.1, fun i b d h1 h2 => h.2 (i + 1) b d h1 h2⟩)
theorem rp_row {l : List Int} {n m : Nat} (hb : Bd n l) (hn : n ≤ 1919) (hl : l.length ≤ m) : Rp 1 (m * 1923 + 2) (dRow l) := by
  refine rp_tup (k := 0) (n := 1921) (fun d hd => ?_) (by rw [List.length_map]; exact hl)
  obtain ⟨x, hx, rfl⟩ := List.mem_map.mp hd
  exact rp_int (hb.mono hn x hx)
theorem rp_pair {c : Int × Int} (h1 : c.1.natAbs < 2 ^ 1919) (h2 : c.2.natAbs < 2 ^ 1919) : Rp 1 3848 (dPair c) := by
  refine rp_tup (k := 0) (n := 1921) (m := 2) (fun d hd => ?_) (Nat.le_refl 2)
  rcases List.mem_cons.mp hd with e | hd
  · rw [e]
    exact rp_int h1
  · rw [List.mem_singleton.mp hd]
    exact rp_int h2
theorem rp_pairs {cs : List (Int × Int)} {m : Nat} (h : ∀ c ∈ cs, c.1.natAbs < 2 ^ 1919 ∧ c.2.natAbs < 2 ^ 1919) (hl : cs.length ≤ m) : Rp 2 (m * 3850 + 2) (dPairsOf cs) := by
  refine rp_tup (k := 1) (n := 3848) (fun d hd => ?_) (by rw [List.length_map]; exact hl)
  obtain ⟨c, hc, rfl⟩ := List.mem_map.mp hd
  exact rp_pair (h c hc).1 (h c hc).2
section
variable {K : PySem.W.Frag} {mg : Str → Option Value} {P : Program} {w : World} {base : Heap}
/-! ### like -/
theorem scLike : FnScope ["_law_got", "_law_due"] ["_law_got", "_law_due"] (defScope sLike) := ⟨rfl, rfl, rfl, by decide +kernel, rfl, by decide +kernel, by decide +kernel⟩
def spLike (K : PySem.W.Frag) : Sp := fun vs H Q _ => ∃ (a b : Addr) (d : PyData), vs = [.ref a, .ref b] ∧ Dp K H (.ref a) d ∧ Dp K H (.ref b) d ∧ Rp 8 sizeLine d ∧ Q (.bl true) H
theorem ok_like {f : Addr} {fd : FuncData} {k : Nat} (F : Fun K "_law_like" "_law_like" sLike f fd) (zr : mg "repr" = none) : FnG P w K mg base (k + 1) f fd ["_law_got", "_law_due"] (spLike K) := by
  refine fng_of F scLike (fun vs H Q E h => ?_) (fun cdv A outer s H vs Q E hg hr h => ?_)
  · obtain ⟨a, b, d, rfl, _⟩ := h
    rfl
  · obtain ⟨a, b, d, rfl, ha, hb, hp, q⟩ := h
    refine ⟨_, pss_one (ps_ret (pe_cmpR op_eq (pe_callB (call_repr_data hg hr.units) (by rfl) zr (by decide +kernel) (pa_cons (pv 0) pa_nil)) (pe_callB (call_repr_data hg hr.units) (by rfl) zr (by decide +kernel) (pa_cons (pv 1) pa_nil)) (nomark _))), ?_⟩
    refine ⟨_, rfl, a, d, rfl, ha, hp, _, rfl, b, d, rfl, hb, hp, rfl, ?_⟩
    rw [decide_eq_true rfl]
    exact q
/-! ### nearest -/
theorem scNear : FnScope ["_law_whole", "_law_pair", "_law_p", "_law_q", "_law_d", "_law_low", "_law_n", "_law_near"] ["_law_whole", "_law_pair"] (defScope sNear) := ⟨rfl, rfl, rfl, by decide +kernel, rfl, by decide +kernel, by decide +kernel⟩
def spNear (K : PySem.W.Frag) : Sp := fun vs H Q _ => ∃ (a b : Addr) (W c : Int × Int), vs = [.ref a, .ref b] ∧ SqT K H a [.int W.1, .int W.2] ∧ SqT K H b [.int c.1, .int c.2] ∧ W.1.natAbs < 2 ^ 1000 ∧ W.2.natAbs < 2 ^ 1000 ∧ c.1.natAbs < 2 ^ 1000 ∧ 0 < W.2 ∧ 1 ≤ c.2 ∧ c.2 < 40 ∧
  (∀ d n : Int, 1 ≤ d → d < c.2 → ab (W.1 * c.2 - c.1 * W.2) * d < ab (W.1 * d - n * W.2) * c.2) ∧ ∀ H', Same H H' → Q (.bl true) H'
theorem fl_le {a b : Int} (h : 0 < b) : (fl a b).natAbs ≤ a.natAbs := by
  rw [fl_pos h]
  exact Int.natAbs_ediv_le_natAbs a b
theorem ok_near {f : Addr} {fd : FuncData} (F : Fun K "_law_is_nearest" "_law_is_nearest" sNear f fd) (G : Good P w K mg base 1 "_law_floor" ["_law_a", "_law_b"] spFloor) (zr : mg "range" = none) (za : mg "abs" = none) :
    FnOk P w K mg base CX0 2 f fd ["_law_whole", "_law_pair"] (spNear K) := by
  refine F.ok scNear (fun vs H Q E h => ?_) (fun cdv A outer s H vs Q E hr h => ?_)
  · obtain ⟨a, b, W, c, rfl, _⟩ := h
    rfl
  · obtain ⟨a, b, ⟨W1, W2⟩, ⟨c1, c2⟩, rfl, hA, hB, w1, w2, p1, w0, q1, q2, hn, q⟩ := h
    dsimp only at hA hB w1 w2 p1 w0 q1 q2 hn
    refine ⟨_, pss_cons (ps_asg (pv 1) (pg_tup rfl (pgs_cons (pg_name (i := 2) scNear.nd rfl (.inl rfl)) (pgs_cons (pg_name (i := 3) scNear.nd rfl (.inl rfl)) pgs_nil))))
      (pss_cons (ps_for PassesOwn.never rfl (pi_range2 (by rfl) zr (pa_cons pe_int (pa_cons (pv 3) pa_nil))) (pg_name (i := 4) scNear.nd rfl (.inl rfl))
        (pss_cons (ps_set (i := 5) scNear.nd rfl (.inl rfl) (pe_g G hr (pa_cons (pe_op op_mul (pe_ix ix_tup (pv 0) pe_int (fun _ _ => rfl)) (pv 4)) (pa_cons (pe_ix ix_tup (pv 0) pe_int (fun _ _ => rfl)) pa_nil))))
        (pss_one (ps_for PassesOwn.never rfl (pi_list (pe_lst (pa_cons (pv 5) (pa_cons (pe_op op_add (pv 5) pe_int) pa_nil)))) (pg_name (i := 6) scNear.nd rfl (.inl rfl))
          (pss_cons (ps_set (i := 7) scNear.nd rfl (.inl rfl) (pe_op op_mul (pe_callB call_abs (by rfl) za (by decide +kernel) (pa_cons (pe_op op_sub (pe_op op_mul (pe_ix ix_tup (pv 0) pe_int (fun _ _ => rfl)) (pv 3)) (pe_op op_mulW (pv 2) (pe_ix ix_tup (pv 0) pe_int (fun _ _ => rfl)))) pa_nil)) (pv 4)))
          (pss_one (ps_if (pt_cmpR op_ge (pv 7) (pe_op op_mul (pe_callB call_abs (by rfl) za (by decide +kernel) (pa_cons (pe_op op_sub (pe_op op_mul (pe_ix ix_tup (pv 0) pe_int (fun _ _ => rfl)) (pv 4)) (pe_op op_mulW (pv 6) (pe_ix ix_tup (pv 0) pe_int (fun _ _ => rfl)))) pa_nil)) (pv 3)) (nomark _))
            (pss_one (ps_ret pe_bl)) pss_nil)))))))
      (pss_one (ps_ret pe_bl))), ?_⟩
    -- p, q = pair
    refine ⟨_, rfl, b, _, rfl, hB, rfl, _, _, rfl, _, _, rfl, rfl, ?_⟩
    have sm40 : ∀ z : Int, 0 ≤ z → z < 100 → -(2 ^ 64) < z ∧ z < 2 ^ 64 := fun z h1 h2 => by omega
    refine ⟨_, rfl, 1, c2, rfl, ⟨by decide, by decide, by omega, by omega⟩, for_range (lo := 1) (n := (c2 - 1).toNat) (fun i σ H2 => ∃ y4 y5 y6 y7, σ = [some (.ref a), some (.ref b), some (.int c1), some (.int c2), y4, y5, y6, y7] ∧ Same H H2) ⟨none, none, none, none, rfl, Same.refl H⟩ ?_ ?_⟩
    · rintro i σ H2 hi ⟨y4, y5, y6, y7, rfl, sm⟩
      have d1 : (1 : Int) ≤ 1 + (i : Int) := by omega
      have d2 : 1 + (i : Int) < c2 := by omega
      generalize 1 + (i : Int) = d at d1 d2
      have hA2 := same_tup sm hA
      -- low = floor(whole[0] * d, whole[1])
      refine ⟨_, rfl, a, _, 0, _, rfl, rfl, hA2, atI_nat (j := 0) rfl, _, rfl, _, _, rfl, rfl, .inr (sm40 d (by omega) (by omega)), _, rfl, a, _, 1, _, rfl, rfl, hA2, atI_nat (j := 1) rfl, _, _, rfl, by omega, Nat.lt_of_lt_of_le w2 (Nat.pow_le_pow_right (by decide) (by decide)), ?_⟩
      have bWd : (W1 * d).natAbs < 2 ^ (1000 + 7) := wide_lt w1 (by show d.natAbs < 128; omega)
      have bl0 : (fl (W1 * d) W2).natAbs < 2 ^ 1008 := Nat.lt_of_le_of_lt (fl_le w0) (Nat.lt_of_lt_of_le bWd (Nat.pow_le_pow_right (by decide) (by decide)))
      have bl1 : (fl (W1 * d) W2 + 1).natAbs < 2 ^ 1008 := by
        have h1 := fl_le (a := W1 * d) w0
        have h2 := Int.natAbs_add_le (fl (W1 * d) W2) 1
        have h3 : 2 ^ (1000 + 7) + 2 ^ (1000 + 7) = 2 ^ 1008 := by rw [← Nat.two_mul, ← Nat.pow_succ']
        have h4 : (1 : Int).natAbs = 1 := rfl
        omega
      generalize fl (W1 * d) W2 = low at bl0 bl1
      -- for n in [low, low + 1]
      refine ⟨_, rfl, _, rfl, _, _, rfl, rfl, by show 2 ≤ sizeLine; decide, fun l nl => ?_⟩
      refine ⟨l, rfl, ⟨_, SqL.of upd_same⟩, for_list (K := K) (a := l) (xs := [.int low, .int (low + 1)]) (fun j σ H3 => ∃ y6 y7, σ = [some (.ref a), some (.ref b), some (.int c1), some (.int c2), some (.int d), some (.int low), y6, y7] ∧ Same H H3 ∧ H3 l = some (.lst [.int low, .int (low + 1)])) ⟨y6, y7, rfl, sm.trans (same_new nl), upd_same⟩ ?_ ?_ ?_⟩
      · rintro j σ H3 _ ⟨y6, y7, rfl, sm3, hl⟩
        exact SqL.of hl
      · rintro j x σ H3 hx ⟨y6, y7, rfl, sm3, hl⟩
        obtain ⟨n, rfl, bn⟩ : ∃ n : Int, x = .int n ∧ n.natAbs < 2 ^ 1008 := by
          rcases List.mem_cons.mp (List.mem_of_getElem? hx) with e | e
          · exact ⟨low, e, bl0⟩
          · exact ⟨low + 1, List.mem_singleton.mp e, bl1⟩
        have hA3 := same_tup sm3 hA
        refine ⟨_, rfl, a, _, 0, _, rfl, rfl, hA3, atI_nat (j := 0) rfl, _, rfl, _, _, rfl, rfl, .inr (sm40 c2 (by omega) (by omega)), _, rfl, _, rfl, a, _, 1, _, rfl, rfl, hA3, atI_nat (j := 1) rfl, _, _, rfl, rfl, wide_mul p1 w2 (by decide) (by decide) (by decide), _, _, rfl, rfl, _, rfl, _, rfl, _, _, rfl, rfl, .inr (sm40 d (by omega) (by omega)), ?_⟩
        refine ⟨_, rfl, _, rfl, a, _, 0, _, rfl, rfl, hA3, atI_nat (j := 0) rfl, _, rfl, _, _, rfl, rfl, .inr (sm40 d (by omega) (by omega)), _, rfl, _, rfl, a, _, 1, _, rfl, rfl, hA3, atI_nat (j := 1) rfl, _, _, rfl, rfl, wide_mul bn w2 (by decide) (by decide) (by decide), _, _, rfl, rfl, _, rfl, _, rfl, _, _, rfl, rfl, .inr (sm40 c2 (by omega) (by omega)), ?_⟩
        refine ⟨_, _, rfl, rfl, _, rfl, iteD (fun e => ?_) (fun _ => ?_)⟩
        · have h1 := hn d n d1 d2
          have e : ab (W1 * d - n * W2) * c2 ≤ ab (W1 * c2 - c1 * W2) * d := e
          omega
        · exact ⟨_, _, rfl, sm3, hl⟩
      · rintro σ H3 ⟨y6, y7, rfl, sm3, hl⟩
        exact ⟨_, _, _, _, rfl, sm3⟩
    · rintro σ H2 ⟨y4, y5, y6, y7, rfl, sm⟩
      exact q H2 sm
end
end K15
/-! The law of a ratio. -/
namespace K15
open L2 PySem PySem.Spec PyProof.Rows
theorem chain_facts {n : Nat} {a b : Int} (h : b ≠ 0) (ha : a.natAbs < 2 ^ n) (hb : b.natAbs < 2 ^ n) : chain a b ≠ [] ∧ Bd n (chain a b) ∧ (chain a b).length ≤ 2 * n + 1 := by
  unfold chain
  split
  · refine ⟨?_, chn_bd n _ _ (by omega) (by rw [Int.natAbs_neg]; exact ha) (by rw [Int.natAbs_neg]; exact hb), chn_len n _ _ (by omega) (by rw [Int.natAbs_neg]; exact hb)⟩
    rw [chn_pos _ (by omega)]
    simp
  · refine ⟨?_, chn_bd n _ _ (by omega) ha hb, chn_len n _ _ (by omega) hb⟩
    rw [chn_pos _ (by omega)]
    simp
/-- the sign of the common part -/
def gS (a b : Int) : Int := (Int.gcd a b : Int) * (if b > 0 then 1 else -1)
theorem gS_ne {a b : Int} (h : b ≠ 0) : gS a b ≠ 0 := by
  have := gcd_ne (a := a) h
  unfold gS
  split <;> omega
theorem gS_le {a b : Int} (h : b ≠ 0) : (gS a b).natAbs ≤ b.natAbs := by
  have h1 : Int.gcd a b ∣ b.natAbs := Int.natAbs_dvd_natAbs.mpr (Int.gcd_dvd_right (a := a) (b := b))
  have h2 := Nat.le_of_dvd (by omega) h1
  unfold gS
  split <;> omega
section
variable {K : PySem.W.Frag} {mg : Str → Option Value} {P : Program} {w : World} {base : Heap}
theorem scRatio : FnScope ["_law_a", "_law_b", "_law_due", "_law_g"] ["_law_a", "_law_b"] (defScope sRatio) := ⟨rfl, rfl, rfl, by decide +kernel, rfl, by decide +kernel, by decide +kernel⟩
def spRatio : Sp := fun vs H Q _ => ∃ (a b : Int), vs = [.int a, .int b] ∧ b ≠ 0 ∧ a.natAbs < 2 ^ 133 ∧ b.natAbs < 2 ^ 133 ∧ ∀ H', Same H H' → Q (.bl true) H'
theorem ok_ratio {f : Addr} {fd : FuncData} (F : Fun K "_law_ratio_right" "_law_ratio_right" sRatio f fd) (Gl : Good P w K mg base 2 "_law_chain" ["_law_a", "_law_b"] spChain) (Gc : Good P w K mg base 1 "chain" ["a", "b"] spChain)
    (Gk : GoodG P w K mg base 1 "_law_like" ["_law_got", "_law_due"] (spLike K)) (Gm : Good P w K mg base 1 "_law_common" ["_law_a", "_law_b"] spCommon) (Gv : Good P w K mg base 1 "convergents" ["row"] (spConv K)) :
    FnG P w K mg base 3 f fd ["_law_a", "_law_b"] spRatio := by
  refine fng_of F scRatio (fun vs H Q E h => ?_) (fun cdv A outer s H vs Q E hg hr h => ?_)
  · obtain ⟨a, b, rfl, _⟩ := h
    rfl
  · obtain ⟨a, b, rfl, hb0, ha, hb, q⟩ := h
    have hr1 : Room 1 (A.deeper (envOfC "_law_ratio_right" (defScope sRatio) s.heap.objs.size f cdv)) := hr.mono (by decide)
    refine ⟨_, pss_cons (ps_set (i := 2) scRatio.nd rfl (.inl rfl) (pe_g Gl hr (pa_cons (pv 0) (pa_cons (pv 1) pa_nil))))
      (pss_cons (ps_if (pt_not (pt_val (pe_gG Gk hg hr1 (pa_cons (pe_lst (pa_cons (pe_g Gc hr1 (pa_cons (pv 0) (pa_cons (pv 1) pa_nil))) (pa_cons (pe_g Gc hr1 (pa_cons (pe_un un_neg (pv 0)) (pa_cons (pe_un un_neg (pv 1)) pa_nil))) pa_nil)))
          (pa_cons (pe_lst (pa_cons (pv 2) (pa_cons (pv 2) pa_nil))) pa_nil))))) (pss_one (ps_ret pe_bl)) pss_nil)
      (C8.pss_cut (ps_set (i := 3) scRatio.nd rfl (.inl rfl) (pe_op op_mul (pe_g Gm hr1 (pa_cons (pv 0) (pa_cons (pv 1) pa_nil))) (pe_ifExp (pt_cmpR op_gt (pv 1) pe_int (nomark _)) pe_int (pe_un un_neg pe_int))))
      (pss_one (ps_ret (pe_gG Gk hg hr1 (pa_cons (pe_ix ix_tup (pe_g Gv hr1 (pa_cons (pv 2) pa_nil)) (pe_un un_neg pe_int) (fun _ _ => rfl)) (pa_cons (pe_tup (pa_cons (pe_op op_floor (pv 0) (pv 3)) (pa_cons (pe_op op_floor (pv 1) (pv 3)) pa_nil))) pa_nil))))))), ?_⟩
    obtain ⟨cn, cb, cl⟩ := chain_facts hb0 ha hb
    have p133 : (2 : Nat) ^ 133 ≤ 2 ^ 2000 := Nat.pow_le_pow_right (by decide) (by decide)
    have p4000 : (2 : Nat) ^ 133 ≤ 2 ^ 4000 := Nat.pow_le_pow_right (by decide) (by decide)
    have p1919 : (2 : Nat) ^ 133 ≤ 2 ^ 1919 := Nat.pow_le_pow_right (by decide) (by decide)
    have p9000 : (2 : Nat) ^ 133 ≤ 2 ^ 9000 := Nat.pow_le_pow_right (by decide) (by decide)
    have ra := ratio_fst (a := a) hb0
    have hneg := chain_neg a b hb0
    generalize hl : chain a b = l at *
    -- due = the law's chain
    refine ⟨_, rfl, _, rfl, a, b, rfl, hb0, Nat.lt_of_lt_of_le ha p4000, Nat.lt_of_lt_of_le hb p4000, fun H1 d s1 nd e1 => ?_⟩
    rw [hl] at e1
    -- chain(a, b), chain(-a, -b)
    refine ⟨_, rfl, _, rfl, a, b, rfl, hb0, Nat.lt_of_lt_of_le ha p4000, Nat.lt_of_lt_of_le hb p4000, fun H2 c1 s2 n2 e2 => ?_⟩
    rw [hl] at e2
    refine ⟨_, rfl, a, rfl, _, rfl, b, rfl, -a, -b, rfl, by omega, by rw [Int.natAbs_neg]; exact Nat.lt_of_lt_of_le ha p4000, by rw [Int.natAbs_neg]; exact Nat.lt_of_lt_of_le hb p4000, fun H3 c2 s3 n3 e3 => ?_⟩
    rw [hneg] at e3
    refine ⟨by show 2 ≤ sizeLine; decide, fun p np => ?_⟩
    refine ⟨_, rfl, _, rfl, by show 2 ≤ sizeLine; decide, fun r nr => ?_⟩
    have t4 := same_new (o := .lst [V.ref c1, V.ref c2]) np
    have t5 := same_new (o := .lst [V.ref d, V.ref d]) nr
    have sd : Same H1 _ := s2.trans (s3.trans (t4.trans t5))
    have sc : Same H2 _ := s3.trans (t4.trans t5)
    have hd : Dp K _ (.ref d) (dRow l) := .tup (SqT.of (sd _ _ e1)) (dp_ints l)
    have hc1 : Dp K _ (.ref c1) (dRow l) := .tup (SqT.of (sc _ _ e2)) (dp_ints l)
    have hc2 : Dp K _ (.ref c2) (dRow l) := .tup (SqT.of ((t4.trans t5) _ _ e3)) (dp_ints l)
    have rr : Rp 1 (267 * 1923 + 2) (dRow l) := rp_row cb (by decide) (by omega)
    refine ⟨p, r, .list [dRow l, dRow l], rfl, .lst (SqL.of (t5 _ _ upd_same)) (.cons hc1 (.cons hc2 .nil)), .lst (SqL.of upd_same) (.cons hd (.cons hd .nil)), ?_, _, rfl, ?_⟩
    · refine (rp_lst (ds := [dRow l, dRow l]) (k := 1) (n := 267 * 1923 + 2) (m := 2) (fun x hx => ?_) (Nat.le_refl 2)).mono (by decide) (by decide)
      rcases List.mem_cons.mp hx with e | e
      · rw [e]
        exact rr
      · rw [List.mem_singleton.mp e]
        exact rr
    · refine iteF ?_
      have s6 : Same H _ := s1.trans sd
      -- g
      refine ⟨fun σ H' => σ = [some (.int a), some (.int b), some (.ref d), some (.int (gS a b))] ∧ Same H H' ∧ H' d = some (.tup (l.map V.int)), ?_, ?_⟩
      · refine ⟨_, rfl, _, rfl, a, b, rfl, Nat.lt_of_lt_of_le ha p133, Nat.lt_of_lt_of_le hb p133, ?_⟩
        refine ⟨_, rfl, _, _, rfl, rfl, _, rfl, iteD (fun e => ?_) (fun e => ?_)⟩
        · refine ⟨_, _, rfl, rfl, .inr ⟨by decide, by decide⟩, ?_, s6, sd _ _ e1⟩
          have e : 0 < b := e
          show [some (V.int a), some (V.int b), some (V.ref d), some (V.int ((Int.gcd a b : Int) * 1))] = _
          unfold gS
          rw [if_pos e]
        · refine ⟨_, rfl, _, _, rfl, rfl, .inr ⟨by decide, by decide⟩, ?_, s6, sd _ _ e1⟩
          have e : ¬ 0 < b := e
          show [some (V.int a), some (V.int b), some (V.ref d), some (V.int ((Int.gcd a b : Int) * -1))] = _
          unfold gS
          rw [if_neg e]
      · rintro σ H4 ⟨rfl, s7, e4⟩
        have gn := gS_ne (a := a) hb0
        have gl := gS_le (a := a) hb0
        have r1 : a.fdiv (gS a b) = (fA l).1 := ra.1
        have r2 : b.fdiv (gS a b) = (fA l).2 := ra.2
        have b1 : (fA l).1.natAbs < 2 ^ 1919 := by
          rw [← r1]
          exact Nat.lt_of_le_of_lt (Int.natAbs_fdiv_le_natAbs _ _) (Nat.lt_of_lt_of_le ha p1919)
        have b2 : (fA l).2.natAbs < 2 ^ 1919 := by
          rw [← r2]
          exact Nat.lt_of_le_of_lt (Int.natAbs_fdiv_le_natAbs _ _) (Nat.lt_of_lt_of_le hb p1919)
        have bg : CFl a (gS a b) := ⟨gn, Nat.lt_of_le_of_lt gl (Nat.lt_of_lt_of_le hb p9000)⟩
        generalize gS a b = g at r1 r2 bg
        -- convergents(due)[-1]
        refine ⟨_, rfl, d, l, rfl, SqT.of e4, cn, by omega, cb.mono (by decide), fun H5 t as s8 nt e5 hp => ?_⟩
        have hl0 : 0 < l.length := List.length_pos_iff.mpr cn
        have hla : as.length = l.length := hp.1.trans (convs_len l)
        obtain ⟨z, hz⟩ : ∃ z, as[l.length - 1]? = some z := ⟨as[l.length - 1]'(by omega), List.getElem?_eq_getElem (by omega)⟩
        have ez := hp.2 _ _ _ hz (convs_last cn)
        have hat : atI (as.map V.ref) (-1) = some (.ref z) := by
          have hne : as ≠ [] := fun h0 => by
            rw [h0] at hla
            have : 0 = l.length := hla
            omega
          have ed := List.dropLast_concat_getLast hne
          have hzl : as.getLast hne = z := by
            have h1 := List.getLast?_eq_getElem? (l := as)
            rw [hla, hz, List.getLast?_eq_some_getLast hne] at h1
            exact Option.some.inj h1
          rw [← ed, hzl, List.map_append]
          exact atI_last _ _
        refine ⟨1, rfl, t, _, -1, _, rfl, rfl, SqT.of e5, hat, ?_⟩
        refine ⟨_, rfl, _, rfl, _, _, rfl, rfl, bg, _, rfl, _, rfl, _, _, rfl, rfl, ⟨bg.1, bg.2⟩, by show 2 ≤ sizeLine; decide, fun u nu => ?_⟩
        have t9 := same_new (o := .tup [V.int (a.fdiv g), V.int (b.fdiv g)]) nu
        refine ⟨z, u, dPair (fA l), rfl, .tup (SqT.of (t9 _ _ ez)) (.cons (.int _) (.cons (.int _) .nil)), .tup (SqT.of upd_same) ?_, (rp_pair b1 b2).mono (by decide) (by decide), ?_⟩
        · show DpAll K _ [V.int (a.fdiv g), V.int (b.fdiv g)] [.int (fA l).1, .int (fA l).2]
          rw [← r1, ← r2]
          exact .cons (.int _) (.cons (.int _) .nil)
        · exact q _ (s7.trans (s8.trans t9))
end
end K15
/-! The law of a row. -/
namespace K15
open L2 PySem PySem.Spec PyProof.Rows
theorem take_bd {ns : List Int} (hb : Bd 84 ns) (hl : ns.length ≤ 10) (k : Nat) : (fA (ns.take k)).1.natAbs < 2 ^ 851 ∧ (fA (ns.take k)).2.natAbs < 2 ^ 851 := by
  obtain ⟨h1, h2⟩ := A_bd (hb.take k)
  have hle : (84 + 1) * (ns.take k).length + 1 ≤ 851 := by
    rw [List.length_take]
    have := Nat.min_le_right k ns.length
    omega
  have hm := Nat.pow_le_pow_right (n := 2) (by decide) hle
  exact ⟨Nat.lt_of_lt_of_le h1 hm, Nat.lt_of_lt_of_le h2 hm⟩
theorem all_bd {ns : List Int} (hb : Bd 84 ns) (hl : ns.length ≤ 10) : (fA ns).1.natAbs < 2 ^ 851 ∧ (fA ns).2.natAbs < 2 ^ 851 := by
  have := take_bd hb hl ns.length
  rw [List.take_length] at this
  exact this
theorem sgn_two (n : Nat) : sgn (n + 2) = sgn n := by
  show - -sgn n = sgn n
  omega
theorem split2 : ∀ {ns : List Int}, 2 ≤ ns.length → ∃ l x y, ns = l ++ [x, y]
  | [], h => absurd h (by decide)
  | [_], h => absurd h (by simp)
  | [a, b], _ => ⟨[], a, b, rfl⟩
  | a :: b :: c :: r, _ => by
    obtain ⟨l, x, y, e⟩ := split2 (ns := b :: c :: r) (by simp)
    exact ⟨a :: l, x, y, by rw [e]; rfl⟩
theorem atI_last2 {α : Type} (l : List α) (x y : α) : atI (l ++ [x, y]) (-2) = some x := by
  have hl : (l ++ [x, y]).length = l.length + 2 := by simp
  have e : ixN (l ++ [x, y]).length (-2) = some l.length := by
    unfold ixN
    rw [if_neg (by decide), hl, if_pos (by omega)]
    congr 1
    omega
  unfold atI
  rw [e]
  show (l ++ [x, y])[l.length]? = some x
  simp
theorem six_back {n k : Nat} (h : 0 < k) : HT.sIx n n (some (-(k : Int))) = n - k := by
  show (if (-(k : Int)) < 0 then ((-(k : Int)) + (n : Int)).toNat else min (-(k : Int)).toNat n) = n - k
  rw [if_pos (by omega)]
  omega
theorem cut_two (l : List V) (x y : V) : cutV (l ++ [x, y]) none (some (-2)) = l := by
  unfold cutV
  have : HT.sIx (l ++ [x, y]).length (l ++ [x, y]).length (some (-2)) = (l ++ [x, y]).length - 2 := six_back (k := 2) (by decide)
  rw [this, HT.sIx_none, List.drop_zero, Nat.sub_zero]
  simp
section
variable {K : PySem.W.Frag} {mg : Str → Option Value} {P : Program} {w : World} {base : Heap}
abbrev nRow : List Str := ["_law_row", "_law_k", "_law_due", "_law_told", "_law_sign", "_law_p", "_law_q", "_law_r", "_law_s", "_law_least"]
theorem scRow : FnScope nRow ["_law_row"] (defScope sRow) := ⟨rfl, rfl, rfl, by decide +kernel, rfl, by decide +kernel, by decide +kernel⟩
def spRow (K : PySem.W.Frag) : Sp := fun vs H Q _ => ∃ (a : Addr) (ns : List Int), vs = [.ref a] ∧ SqT K H a (ns.map V.int) ∧ Row ns ∧ ns.length ≤ 10 ∧ Bd 84 ns ∧ ∀ H', Same H H' → Q (.bl true) H'
theorem ok_row {f : Addr} {fd : FuncData} (F : Fun K "_law_row_right" "_law_row_right" sRow f fd) (Gf : Good P w K mg base 1 "_law_folded" ["_law_row"] (spFolded K)) (Gv : Good P w K mg base 1 "convergents" ["row"] (spConv K))
    (Gk : GoodG P w K mg base 1 "_law_like" ["_law_got", "_law_due"] (spLike K)) (Gn : Good P w K mg base 2 "_law_is_nearest" ["_law_whole", "_law_pair"] (spNear K)) (Gc : Good P w K mg base 1 "chain" ["a", "b"] spChain)
    (Gm : Good P w K mg base 1 "_law_common" ["_law_a", "_law_b"] spCommon) (zr : mg "range" = none) (zl : mg "len" = none) (zt : mg "tuple" = none) : FnG P w K mg base 3 f fd ["_law_row"] (spRow K) := by
  refine fng_of F scRow (fun vs H Q E h => ?_) (fun cdv A outer s H vs Q E hg hr h => ?_)
  · obtain ⟨a, ns, rfl, _⟩ := h
    rfl
  · obtain ⟨a, ns, rfl, hS, R, hlen, hbd, q⟩ := h
    have hr1 : Room 1 (A.deeper (envOfC "_law_row_right" (defScope sRow) s.heap.objs.size f cdv)) := hr.mono (by decide)
    refine ⟨_, pss_cons (ps_setLc (i := 2) (own := [("_law_k", 1)]) (g := gName 1) rfl scRow.nd rfl rfl (sw_true rfl rfl rfl (by decide +kernel))
        (pi_range2 (by rfl) zr (pa_cons pe_int (pa_cons (pe_op op_add (pe_callB call_len_seq (by rfl) zl PySem.boot_len (pa_cons (pv 0) pa_nil)) pe_int) pa_nil)))
        (blkOk_by (own := [("_law_k", 1)]) (N := nRow) (sc := defScope sRow) (by decide +kernel)) (fun _ _ _ _ _ => pg_name (i := 1) scRow.nd rfl (Or.inl rfl)) (fun _ _ _ _ _ => pts_nil)
        (fun _ _ _ _ _ => pe_g Gf hr1 (pa_cons (pe_slice (r := rSlA K) sl_tupA (pv 0) po_none (po_some (pv 1))) pa_nil)))
      (pss_cons (ps_set (i := 3) scRow.nd rfl (.inl rfl) (pe_g Gv hr1 (pa_cons (pv 0) pa_nil)))
      (pss_cons (ps_if (pt_not (pt_val (pe_gG Gk hg hr1 (pa_cons (pv 3) (pa_cons (pe_callTy call_tuple_of (by rfl) zt (by decide +kernel) (pa_cons (pv 2) pa_nil)) pa_nil))))) (pss_one (ps_ret pe_bl)) pss_nil)
      (pss_cons (ps_set (i := 4) scRow.nd rfl (.inl rfl) pe_int)
      (pss_cons (ps_for PassesOwn.never rfl (pi_range2 (by rfl) zr (pa_cons pe_int (pa_cons (pe_callB call_len_seq (by rfl) zl PySem.boot_len (pa_cons (pv 2) pa_nil)) pa_nil))) (pg_name (i := 1) scRow.nd rfl (.inl rfl))
        (pss_cons (ps_asg (pe_tup (pa_cons (pe_ix ix_tup (pv 3) (pe_op op_sub (pv 1) pe_int) (fun _ _ => rfl)) (pa_cons (pe_ix ix_tup (pv 3) (pv 1) (fun _ _ => rfl)) pa_nil)))
          (pg_tup rfl (pgs_cons (pg_tup rfl (pgs_cons (pg_name (i := 5) scRow.nd rfl (.inl rfl)) (pgs_cons (pg_name (i := 6) scRow.nd rfl (.inl rfl)) pgs_nil)))
            (pgs_cons (pg_tup rfl (pgs_cons (pg_name (i := 7) scRow.nd rfl (.inl rfl)) (pgs_cons (pg_name (i := 8) scRow.nd rfl (.inl rfl)) pgs_nil))) pgs_nil))))
        (pss_cons (ps_if (pt_cmpR op_ne (pe_op op_sub (pe_op op_mulW (pv 7) (pv 6)) (pe_op op_mulW (pv 5) (pv 8))) (pv 4) (nomark _)) (pss_one (ps_ret pe_bl)) pss_nil)
        (pss_cons (ps_set (i := 4) scRow.nd rfl (.inl rfl) (pe_un un_neg (pv 4)))
        (pss_one (ps_if (PW.pt (pw_and (pt_cmpR op_lt (pv 8) pe_int (nomark _)) (pw_and1 (pt_not (pt_val (pe_g Gn hr (pa_cons (pe_ix ix_tup (pv 3) (pe_un un_neg pe_int) (fun _ _ => rfl)) (pa_cons (pe_ix ix_tup (pv 3) (pv 1) (fun _ _ => rfl)) pa_nil)))))))) (pss_one (ps_ret pe_bl)) pss_nil))))))
      (C8.pss_cut (ps_set (i := 9) scRow.nd rfl (.inl rfl) (pe_ifExp (PW.pt (pw_or (pt_cmpR op_eq (pe_callB call_len_seq (by rfl) zl PySem.boot_len (pa_cons (pv 0) pa_nil)) pe_int (nomark _))
          (pw_or1 (pt_cmpR op_gt (pe_ix ix_tup (pv 0) (pe_un un_neg pe_int) (fun _ _ => rfl)) pe_int (nomark _))))) (pv 0)
          (pe_op op_catA (pe_slice sl_tupA (pv 0) po_none (po_some (pe_un un_neg pe_int))) (pe_tup (pa_cons (pe_op op_add (pe_ix ix_tup (pv 0) (pe_un un_neg pe_int) (fun _ _ => rfl)) pe_int) pa_nil)))))
      (pss_cons (ps_asg (pe_ix ix_tup (pv 3) (pe_un un_neg pe_int) (fun _ _ => rfl)) (pg_tup rfl (pgs_cons (pg_name (i := 5) scRow.nd rfl (.inl rfl)) (pgs_cons (pg_name (i := 6) scRow.nd rfl (.inl rfl)) pgs_nil))))
      (pss_one (ps_ret (pe_and (pe_gG Gk hg hr1 (pa_cons (pe_lst (pa_cons (pe_g Gc hr1 (pa_cons (pv 5) (pa_cons (pv 6) pa_nil))) (pa_cons (pe_g Gc hr1 (pa_cons (pe_un un_neg (pv 5)) (pa_cons (pe_un un_neg (pv 6)) pa_nil))) pa_nil)))
          (pa_cons (pe_lst (pa_cons (pv 9) (pa_cons (pv 9) pa_nil))) pa_nil)))
        (pe_and (pe_cmpR op_eq (pe_g Gm hr1 (pa_cons (pv 5) (pa_cons (pv 6) pa_nil))) pe_int (nomark _)) (pe_one (pe_cmpR op_gt (pv 6) pe_int (nomark _))))))))))))), ?_⟩
    have hpos : 0 < ns.length := List.length_pos_iff.mpr R.ne
    have b200 : Bd 200 ns := hbd.mono (by decide)
    -- due
    refine ⟨_, rfl, a, _, rfl, .inr hS, _, _, rfl, rfl, _, _, rfl, ⟨by decide, by decide, by rw [List.length_map]; omega, by rw [List.length_map]; omega⟩, fun D nD => ?_⟩
    refine lc_range (lo := 1) (n := (((ns.map V.int).length : Int) + 1 - 1).toNat) (fun i H2 => ∃ fs : List Addr, Same H H2 ∧ H2 D = some (.lst (fs.map V.ref)) ∧ PairsAt H2 fs ((List.range i).map fun k => fA (ns.take (k + 1)))) ⟨[], same_new nD, upd_same, rfl, fun i b c h _ => nomatch h⟩ ?_ ?_
    · rintro i H2 hi ⟨fs, s2, hD, hF⟩
      have hi2 : i < ns.length := by
        rw [List.length_map] at hi
        omega
      have ek : (1 + (i : Int)) = ((i + 1 : Nat) : Int) := by omega
      have fin : ∀ (H3 : Hp) (e : Addr), Same H2 H3 → H3 e = some (.tup [.int (fA (ns.take (i + 1))).1, .int (fA (ns.take (i + 1))).2]) → ∃ acc, H3 D = some (.lst acc) ∧ acc.length < sizeLine ∧ ∃ fs : List Addr, Same H (upd H3 D (.lst (acc ++ [V.ref e]))) ∧
          (upd H3 D (.lst (acc ++ [V.ref e]))) D = some (.lst (fs.map V.ref)) ∧ PairsAt (upd H3 D (.lst (acc ++ [V.ref e]))) fs ((List.range (i + 1)).map fun k => fA (ns.take (k + 1))) := by
        intro H3 e s3 he
        have hfl : fs.length = i := by
          have h1 := hF.1
          rw [List.length_map, List.length_range] at h1
          exact h1
        refine ⟨_, s3 _ _ hD, by rw [List.length_map]; exact big_lt (by omega), fs ++ [e], same_wr (s2.trans s3) nD, ?_, ?_⟩
        · rw [upd_same, List.map_append]
          rfl
        · rw [List.range_succ, List.map_append]
          exact ((hF.same s3).snoc he).lst (s3 _ _ hD)
      refine ⟨rfl, ?_⟩
      refine ⟨_, rfl, _, rfl, 1 + (i : Int), rfl, a, _, rfl, same_tup s2 hS, fun hw => ?_, fun hw p np => ?_⟩
      · have h2 := hw.2
        rw [ek, HT.sIx_nat, List.length_map] at h2
        have et : ns.take (i + 1) = ns := List.take_of_length_le (by omega)
        refine ⟨a, ns, rfl, same_tup s2 hS, R.ne, by omega, b200, fun H3 e s3 ne e3 => ?_⟩
        rw [← et] at e3
        exact fin H3 e s3 e3
      · have ec : cutV (ns.map V.int) none (some (1 + (i : Int))) = (ns.take (i + 1)).map V.int := by rw [ek, cut_to, List.map_take]
        refine ⟨p, ns.take (i + 1), rfl, SqT.of (by rw [upd_same, ec]), (R.take i).ne, by rw [List.length_take]; omega, b200.take _, fun H3 e s3 ne e3 => ?_⟩
        exact fin H3 e ((same_new np).trans s3) e3
    · rintro H2 ⟨fs, s2, hD, hF⟩
      have ecv : ((List.range (((ns.map V.int).length : Int) + 1 - 1).toNat).map fun k => fA (ns.take (k + 1))) = convs ns := by
        have : (((ns.map V.int).length : Int) + 1 - 1).toNat = ns.length := by
          rw [List.length_map]
          omega
        rw [this]
        rfl
      rw [ecv] at hF
      have hfl : fs.length = ns.length := hF.1.trans (convs_len ns)
      have cbd : ∀ c ∈ convs ns, c.1.natAbs < 2 ^ 1919 ∧ c.2.natAbs < 2 ^ 1919 := fun c hc => by
        obtain ⟨k, _, rfl⟩ := List.mem_map.mp hc
        obtain ⟨h1, h2⟩ := take_bd hbd hlen (k + 1)
        have hm : (2 : Nat) ^ 851 ≤ 2 ^ 1919 := Nat.pow_le_pow_right (by decide) (by decide)
        exact ⟨Nat.lt_of_lt_of_le h1 hm, Nat.lt_of_lt_of_le h2 hm⟩
      -- told = convergents(row)
      refine ⟨_, rfl, a, ns, rfl, same_tup s2 hS, R.ne, by omega, b200, fun H3 t as s3 nt e3 hP => ?_⟩
      -- if not like(told, tuple(due))
      refine ⟨_, rfl, _, rfl, D, _, rfl, .inl ⟨SqL.of (s3 _ _ hD), fun u nu => ?_⟩⟩
      have s4 := same_new (o := .tup (fs.map V.ref)) nu
      have hP4 := hP.same s4
      have hF4 := (hF.same s3).same s4
      refine ⟨t, u, dPairsOf (convs ns), rfl, .tup (SqT.of (s4 _ _ e3)) (dp_pairs hP4), .tup (SqT.of upd_same) (dp_pairs hF4), (rp_pairs (m := 10) cbd (by rw [convs_len]; exact hlen)).mono (by decide) (by decide), _, rfl, ?_⟩
      refine iteF ?_
      have s04 : Same H (upd H3 u (.tup (fs.map V.ref))) := s2.trans (s3.trans s4)
      have e4 : (upd H3 u (.tup (fs.map V.ref))) t = some (.tup (as.map V.ref)) := s4 _ _ e3
      have hla : as.length = ns.length := hP.1.trans (convs_len ns)
      have at1 : ∀ k : Nat, k < ns.length → ∃ z, (as.map V.ref)[k]? = some (.ref z) ∧ (upd H3 u (.tup (fs.map V.ref))) z = some (.tup [.int (fA (ns.take (k + 1))).1, .int (fA (ns.take (k + 1))).2]) := fun k hk => by
        have hk2 : k < as.length := by omega
        refine ⟨as[k], ?_, hP4.2 k _ _ (List.getElem?_eq_getElem hk2) (convs_get hk)⟩
        rw [List.getElem?_map, List.getElem?_eq_getElem hk2]
        rfl
      obtain ⟨zl, hzl, pzl⟩ := at1 (ns.length - 1) (by omega)
      have etl : ns.take (ns.length - 1 + 1) = ns := List.take_of_length_le (by omega)
      rw [etl] at pzl
      have atl : atI (as.map V.ref) (-1) = some (.ref zl) := by
        have hne : as.map V.ref ≠ [] := fun h0 => by
          have := congrArg List.length h0
          rw [List.length_map] at this
          have : as.length = 0 := this
          omega
        have ed := List.dropLast_concat_getLast hne
        have hz : (as.map V.ref).getLast hne = .ref zl := by
          have h1 := List.getLast?_eq_getElem? (l := as.map V.ref)
          rw [List.length_map, hla, hzl, List.getLast?_eq_some_getLast hne] at h1
          exact Option.some.inj h1
        rw [← ed, hz]
        exact atI_last _ _
      obtain ⟨w1, w2⟩ := all_bd hbd hlen
      have p1000 : (2 : Nat) ^ 851 ≤ 2 ^ 1000 := Nat.pow_le_pow_right (by decide) (by decide)
      have p2000 : (2 : Nat) ^ 851 ≤ 2 ^ 2000 := Nat.pow_le_pow_right (by decide) (by decide)
      have p4000 : (2 : Nat) ^ 851 ≤ 2 ^ 4000 := Nat.pow_le_pow_right (by decide) (by decide)
      have q0 := R.q_pos
      -- sign = 1; the loop
      have hlf : (fs.map V.ref).length = ns.length := by rw [List.length_map, hfl]
      refine ⟨_, rfl, D, _, rfl, .inl (SqL.of (s4 _ _ (s3 _ _ hD))), 1, _, rfl, ⟨by decide, by decide, by rw [hlf]; omega, by rw [hlf]; omega⟩, ?_⟩
      refine for_range (lo := 1) (n := (((fs.map V.ref).length : Int) - 1).toNat) (fun i σ H5 => ∃ y1 y5 y6 y7 y8 y9, σ = [some (.ref a), y1, some (.ref D), some (.ref t), some (.int (sgn i)), y5, y6, y7, y8, y9] ∧ Same (upd H3 u (.tup (fs.map V.ref))) H5) ⟨none, none, none, none, none, none, rfl, Same.refl _⟩ ?_ ?_
      · rintro i σ H5 hi ⟨y1, y5, y6, y7, y8, y9, rfl, s5⟩
        rw [hlf] at hi
        have hi2 : i + 1 < ns.length := by omega
        obtain ⟨z0, hz0, pz0⟩ := at1 i (by omega)
        obtain ⟨z1, hz1, pz1⟩ := at1 (i + 1) hi2
        have ek : (1 + (i : Int)) = ((i + 1 : Nat) : Int) := by omega
        have a0 : atI (as.map V.ref) (1 + (i : Int) - 1) = some (.ref z0) := by
          rw [show (1 + (i : Int) - 1) = (i : Int) by omega]
          exact atI_nat hz0
        have a1 : atI (as.map V.ref) (1 + (i : Int)) = some (.ref z1) := by
          rw [ek]
          exact atI_nat hz1
        generalize (1 + (i : Int)) = kk at a0 a1
        obtain ⟨g1, g2⟩ := take_bd hbd hlen (i + 1)
        obtain ⟨g3, g4⟩ := take_bd hbd hlen (i + 1 + 1)
        have hnb := nb hi2
        rw [sgn_two] at hnb
        -- (p, q), (r, s) = told[k - 1], told[k]
        refine ⟨_, rfl, _, rfl, _, _, rfl, rfl, t, _, _, _, rfl, rfl, SqT.of (s5 _ _ e4), a0, _, rfl, _, rfl, t, _, _, _, rfl, rfl, SqT.of (s5 _ _ e4), a1, by show 2 ≤ sizeLine; decide, fun v nv => ?_⟩
        have s6 := s5.trans (same_new (o := .tup [V.ref z0, V.ref z1]) nv)
        refine ⟨v, _, rfl, SqT.of upd_same, rfl, _, _, rfl, ⟨z0, _, rfl, SqT.of (s6 _ _ pz0), rfl, _, _, rfl, _, _, rfl, rfl, ?_⟩⟩
        refine ⟨_, _, rfl, ⟨z1, _, rfl, SqT.of (s6 _ _ pz1), rfl, _, _, rfl, _, _, rfl, rfl, rfl, ?_⟩⟩
        -- the sign
        refine ⟨_, rfl, _, rfl, _, _, rfl, rfl, wide_mul g3 g2 (by decide) (by decide) (by decide), _, rfl, _, rfl, _, _, rfl, rfl, wide_mul g1 g4 (by decide) (by decide) (by decide), _, _, rfl, rfl, _, rfl, rfl, _, rfl, iteNI (fun e => absurd hnb e) (fun _ => ?_)⟩
        refine ⟨_, rfl, _, rfl, ?_⟩
        refine ⟨_, rfl, _, _, rfl, rfl, _, rfl, iteD (fun e => ?_) (fun e => ?_)⟩
        · refine ⟨_, rfl, 1, rfl, t, _, _, _, rfl, rfl, SqT.of (s6 _ _ e4), atl, _, rfl, _, rfl, t, _, _, _, rfl, rfl, SqT.of (s6 _ _ e4), a1, ?_⟩
          refine ⟨zl, z1, fA ns, fA (ns.take (i + 1 + 1)), rfl, SqT.of (s6 _ _ pzl), SqT.of (s6 _ _ pz1), Nat.lt_of_lt_of_le w1 p1000, Nat.lt_of_lt_of_le w2 p1000, Nat.lt_of_lt_of_le g3 p1000, by omega, (R.take (i + 1)).q_pos, e, fun d n hd hdq => nearest R (by omega) hi2 hd hdq, fun H7 s7 => ?_⟩
          refine ⟨_, rfl, ?_⟩
          refine iteF ?_
          exact ⟨_, _, _, _, _, _, rfl, s6.trans s7⟩
        · refine iteF ?_
          exact ⟨_, _, _, _, _, _, rfl, s6⟩
      · rintro σ H5 ⟨y1, y5, y6, y7, y8, y9, rfl, s5⟩
        have s05 : Same H H5 := s04.trans s5
        -- least
        refine ⟨fun σ H6 => ∃ y4 lz, σ = [some (.ref a), y1, some (.ref D), some (.ref t), y4, y5, y6, y7, y8, some (.ref lz)] ∧ Same H5 H6 ∧ SqT K H6 lz ((least ns).map V.int), ?_, ?_⟩
        · refine ⟨_, rfl, a, _, rfl, .inr (same_tup s05 hS), rfl, _, rfl, iteI (fun e => ?_) (fun e => ?_)⟩
          · refine iteT ?_
            have h1 : ns.length = 1 := by
              have e : (((ns.map V.int).length : Nat) : Int) = 1 := e
              rw [List.length_map] at e
              omega
            refine ⟨_, rfl, _, a, rfl, Same.refl _, ?_⟩
            rw [least_keep R.ne (.inl h1)]
            exact same_tup s05 hS
          · have h2 : 2 ≤ ns.length := by
              have e : (((ns.map V.int).length : Nat) : Int) ≠ 1 := e
              rw [List.length_map] at e
              omega
            obtain ⟨l, x, y, rfl⟩ := split2 h2
            have em : (l ++ [x, y]).map V.int = l.map V.int ++ [V.int x, V.int y] := by rw [List.map_append]; rfl
            have em2 : (l ++ [x, y]).map V.int = (l.map V.int ++ [V.int x]) ++ [V.int y] := by rw [em, List.append_assoc]; rfl
            have hgl : (l ++ [x, y]).getLast R.ne = y := by
              rw [List.getLast_append_of_ne_nil _ (by simp)]
              rfl
            refine ⟨_, rfl, 1, rfl, a, _, _, _, rfl, rfl, same_tup s05 hS, by rw [em2]; exact atI_last _ _, _, _, rfl, rfl, _, rfl, iteD (fun e2 => ?_) (fun e2 => ?_)⟩
            · refine ⟨_, rfl, _, a, rfl, Same.refl _, ?_⟩
              rw [least_keep R.ne (.inr (by rw [hgl]; exact e2))]
              exact same_tup s05 hS
            · have hy : 1 ≤ y := by
                cases l with
                | nil => exact R.pos y (by simp)
                | cons a l => exact R.pos y (by simp)
              have hy1 : y = 1 := by omega
              subst hy1
              refine ⟨_, rfl, 2, rfl, -2, rfl, a, _, rfl, same_tup s05 hS, fun hw => ?_, fun _ p np => ?_⟩
              · have h3 := hw.2
                rw [show HT.sIx ((l ++ [x, 1]).map V.int).length ((l ++ [x, 1]).map V.int).length (some (-2)) = ((l ++ [x, 1]).map V.int).length - 2 from six_back (k := 2) (by decide), em, List.length_append] at h3
                have h4 : [V.int x, V.int 1].length = 2 := rfl
                omega
              · have ec : cutV ((l ++ [x, 1]).map V.int) none (some (-2)) = l.map V.int := by rw [em, cut_two]
                have s6 := s05.trans (same_new (o := .tup (cutV ((l ++ [x, 1]).map V.int) none (some (-2)))) np)
                refine ⟨_, rfl, 2, rfl, a, _, _, _, rfl, rfl, same_tup s6 hS, by rw [em]; exact atI_last2 _ _ _, _, _, rfl, rfl, by show 1 ≤ sizeLine; decide, fun p2 np2 => ?_⟩
                have s7 := (same_new (o := .tup (cutV ((l ++ [x, 1]).map V.int) none (some (-2)))) np).trans (same_new (o := .tup [V.int (x + 1)]) np2)
                have npp : p ≠ p2 := fun z => by
                  rw [← z, upd_same] at np2
                  cases np2
                have el : (least (l ++ [x, 1])).map V.int = l.map V.int ++ [V.int (x + 1)] := by
                  rw [least_one, List.map_append]
                  rfl
                refine ⟨p, p2, l.map V.int, [V.int (x + 1)], rfl, rfl, SqT.of (by rw [upd_ne npp, upd_same, ec]), SqT.of upd_same, ?_, fun h0 => ?_, fun _ h1 => absurd h1 (by simp), fun h0 _ p3 np3 => ?_⟩
                · rw [List.length_map]
                  have : l.length + 2 ≤ 10 := by
                    have := hlen
                    rw [List.length_append] at this
                    exact this
                  have : [V.int (x + 1)].length = 1 := rfl
                  exact big_len (by omega)
                · refine ⟨_, p2, rfl, s7, ?_⟩
                  have el0 : (least (l ++ [x, 1])).map V.int = [V.int (x + 1)] := by
                    rw [el, h0]
                    rfl
                  rw [el0]
                  exact SqT.of upd_same
                · refine ⟨_, p3, rfl, s7.trans (same_new np3), ?_⟩
                  rw [el]
                  exact SqT.of upd_same
        · rintro σ H6 ⟨y4, lz, rfl, s6, hz⟩
          have s46 := s5.trans s6
          -- p, q = told[-1]
          refine ⟨_, rfl, 1, rfl, t, _, _, _, rfl, rfl, SqT.of (s46 _ _ e4), atl, zl, _, rfl, SqT.of (s46 _ _ pzl), rfl, _, _, rfl, _, _, rfl, rfl, ?_⟩
          have hq0 : (fA ns).2 ≠ 0 := by omega
          have ec1 : chain (fA ns).1 (fA ns).2 = least ns := by rw [chain_pos (by omega), chn_fold R]
          have ec2 : chain (-(fA ns).1) (-(fA ns).2) = least ns := by rw [chain_neg _ _ hq0, ec1]
          obtain ⟨_, cb, cl⟩ := chain_facts hq0 w1 w2
          rw [ec1] at cb cl
          have w1' := Nat.lt_of_lt_of_le w1 p4000
          have w2' := Nat.lt_of_lt_of_le w2 p4000
          -- chain(p, q), chain(-p, -q)
          refine ⟨_, rfl, _, rfl, _, _, rfl, hq0, w1', w2', fun H7 c1 s7 n7 e7 => ?_⟩
          rw [ec1] at e7
          refine ⟨_, rfl, _, rfl, _, rfl, _, rfl, -(fA ns).1, -(fA ns).2, rfl, by omega, by rw [Int.natAbs_neg]; exact w1', by rw [Int.natAbs_neg]; exact w2', fun H8 c2 s8 n8 e8 => ?_⟩
          rw [ec2] at e8
          refine ⟨by show 2 ≤ sizeLine; decide, fun p np => ?_⟩
          refine ⟨_, rfl, _, rfl, by show 2 ≤ sizeLine; decide, fun r nr => ?_⟩
          have t4 := same_new (o := .lst [V.ref c1, V.ref c2]) np
          have t5 := same_new (o := .lst [V.ref lz, V.ref lz]) nr
          have st : Same H6 _ := s7.trans (s8.trans (t4.trans t5))
          have hd : Dp K _ (.ref lz) (dRow (least ns)) := .tup (same_tup st hz) (dp_ints _)
          have hc1 : Dp K _ (.ref c1) (dRow (least ns)) := .tup (SqT.of ((s8.trans (t4.trans t5)) _ _ e7)) (dp_ints _)
          have hc2 : Dp K _ (.ref c2) (dRow (least ns)) := .tup (SqT.of ((t4.trans t5) _ _ e8)) (dp_ints _)
          have rr : Rp 1 (1703 * 1923 + 2) (dRow (least ns)) := rp_row cb (by decide) (by omega)
          refine ⟨p, r, .list [dRow (least ns), dRow (least ns)], rfl, .lst (SqL.of (t5 _ _ upd_same)) (.cons hc1 (.cons hc2 .nil)), .lst (SqL.of upd_same) (.cons hd (.cons hd .nil)), ?_, _, rfl, ?_⟩
          · refine (rp_lst (ds := [dRow (least ns), dRow (least ns)]) (k := 1) (n := 1703 * 1923 + 2) (m := 2) (fun x hx => ?_) (Nat.le_refl 2)).mono (by decide) (by decide)
            rcases List.mem_cons.mp hx with e | e
            · rw [e]
              exact rr
            · rw [List.mem_singleton.mp e]
              exact rr
          · refine iteT ?_
            refine ⟨_, rfl, _, rfl, _, _, rfl, Nat.lt_of_lt_of_le w1 p2000, Nat.lt_of_lt_of_le w2 p2000, rfl, _, rfl, ?_⟩
            refine iteI (fun _ => ?_) (fun e => absurd (by rw [gcd_one]; rfl) e)
            refine ⟨_, rfl, _, _, rfl, rfl, ?_⟩
            have e9 : decide (0 < (fA ns).2) = true := decide_eq_true (by omega)
            show Q (.bl (decide (0 < (fA ns).2))) _
            rw [e9]
            exact q _ (s04.trans (s46.trans st))
end
end K15
/-! The law. -/
namespace K15
open L2 PySem PySem.Spec PyProof.Rows
theorem MAt.upd {H : Hp} {m c p : Addr} {N : Nat} {o : HO} (h : MAt H m c N) (h1 : p ≠ m) (h2 : p ≠ c) : MAt (upd H p o) m c N := by
  obtain ⟨kvs, l, sd, sp, cs, a1, a2, a3, a4, a5, a6, a7, a8⟩ := h
  refine ⟨kvs, l, sd, sp, cs, ?_, a2, a3, a4, a5, a6, ?_, a8⟩
  · rw [upd_ne h1.symm]
    exact a1
  · rw [upd_ne h2.symm]
    exact a7
theorem MAt.off {H : Hp} {m c p : Addr} {N : Nat} (h : MAt H m c N) (hp : H p = none) : p ≠ m ∧ p ≠ c := by
  obtain ⟨kvs, l, sd, sp, cs, a1, a2, a3, a4, a5, a6, a7, a8⟩ := h
  exact ⟨(ne_of_none a1 hp).symm, (ne_of_none a7 hp).symm⟩
theorem lt4000 {n : Nat} (h : n < 2 ^ 10) : n < 2 ^ 4000 := Nat.lt_of_lt_of_le h (Nat.pow_le_pow_right (by decide) (by decide))
theorem c1 : chain 0 5 = [0] := by decide +kernel
theorem c2 : chain (-7) 2 = [-4, 2] := by decide +kernel
theorem c3 : chain 7 (-2) = [-4, 2] := by decide +kernel
theorem c4 : chain 3 1 = [3] := by decide +kernel
theorem v5 : convs [0, 2, 1] = [(0, 1), (1, 2), (1, 3)] := by decide +kernel
theorem v6 : convs [-3] = [(-3, 1)] := by decide +kernel
theorem bd_small {l : List Int} (h : ∀ x ∈ l, x.natAbs < 100) : Bd 10 l := fun x hx => Nat.lt_of_lt_of_le (h x hx) (by decide)
def dAll : PyData := .list [dRow [0], dRow [-4, 2], dRow [-4, 2], dRow [3], dPairsOf [(0, 1), (1, 2), (1, 3)], dPairsOf [(-3, 1)]]
theorem rp_dAll : Rp 8 sizeLine dAll := by
  have r1 : ∀ l : List Int, (∀ x ∈ l, x.natAbs < 100) → l.length ≤ 10 → Rp 2 40000 (dRow l) := fun l h h2 => (rp_row (bd_small h) (by decide) h2).mono (by decide) (by decide)
  have r2 : ∀ cs : List (Int × Int), (∀ c ∈ cs, c.1.natAbs < 100 ∧ c.2.natAbs < 100) → cs.length ≤ 10 → Rp 2 40000 (dPairsOf cs) := fun cs h h2 => (rp_pairs (fun c hc => by
    have p : 100 ≤ 2 ^ 1919 := Nat.le_trans (by decide : 100 ≤ 2 ^ 10) (Nat.pow_le_pow_right (by decide) (by decide))
    exact ⟨Nat.lt_of_lt_of_le (h c hc).1 p, Nat.lt_of_lt_of_le (h c hc).2 p⟩) h2).mono (by decide) (by decide)
  refine (rp_lst (k := 2) (n := 40000) (m := 6) (ds := [dRow [0], dRow [-4, 2], dRow [-4, 2], dRow [3], dPairsOf [(0, 1), (1, 2), (1, 3)], dPairsOf [(-3, 1)]]) (fun d hd => ?_) (Nat.le_refl 6)).mono (by decide) (by decide)
  simp only [List.mem_cons, List.not_mem_nil, or_false] at hd
  rcases hd with rfl | rfl | rfl | rfl | rfl | rfl
  · exact r1 [0] (by decide) (by decide)
  · exact r1 [-4, 2] (by decide) (by decide)
  · exact r1 [-4, 2] (by decide) (by decide)
  · exact r1 [3] (by decide) (by decide)
  · exact r2 [(0, 1), (1, 2), (1, 3)] (by decide) (by decide)
  · exact r2 [(-3, 1)] (by decide) (by decide)
/-- a drawn row's entries -/
theorem pow25 {t : Nat} (h : t ≤ 25) : (10 : Nat) ^ t ≤ 10 ^ 25 := Nat.pow_le_pow_right (by decide) h
theorem pow40 {t : Nat} (h : t ≤ 40) : (10 : Nat) ^ t ≤ 10 ^ 40 := Nat.pow_le_pow_right (by decide) h
section
variable {K : PySem.W.Frag} {mg : Str → Option Value} {P : Program} {w : World} {base : Heap}
abbrev nLaw : List Str := ["_law_script", "_law_told", "_law_due", "_law_turn", "_law_m", "_law_step", "_law_most", "_law_b", "_law_wide", "_law_entry", "_law_row"]
theorem scLaw : FnScope nLaw ["_law_script"] (defScope sLaw) := ⟨rfl, rfl, rfl, by decide +kernel, rfl, by decide +kernel, by decide +kernel⟩
theorem ok_law {f : Addr} {fd : FuncData} (F : Fun K "law" "law" sLaw f fd) (Gc : Good P w K mg base 1 "chain" ["a", "b"] spChain) (Gv : Good P w K mg base 1 "convergents" ["row"] (spConv K)) (Gk : GoodG P w K mg base 1 "_law_like" ["_law_got", "_law_due"] (spLike K))
    (Gb : Good P w K mg base 1 "_law_begun" ["_law_script", "_law_k"] (spBegun K)) (Gd : Good P w K mg base 1 "_law_draw" ["_law_m", "_law_bound"] spDraw) (Go : Good P w K mg base 2 "_law_of" ["_law_m", "_law_some"] (spOf K))
    (Gz : Good P w K mg base 2 "_law_sized" ["_law_m", "_law_most"] spSized) (Gs : Good P w K mg base 3 "_law_signed" ["_law_m", "_law_most"] spSigned) (Gr : GoodG P w K mg base 3 "_law_ratio_right" ["_law_a", "_law_b"] spRatio)
    (GR : GoodG P w K mg base 3 "_law_row_right" ["_law_row"] (spRow K)) (zr : mg "range" = none) (zl : mg "len" = none) (zt : mg "tuple" = none) (zx : mg "max" = none) (zn : mg "min" = none) : FnG P w K mg base 4 f fd ["_law_script"] (spLaw K) := by
  refine fng_of F scLaw (fun vs H Q E h => ?_) (fun cdv A outer s H vs Q E hg hr h => ?_)
  · obtain ⟨a, ns, rfl, _⟩ := h
    rfl
  · obtain ⟨a, ns, rfl, hS, h63, q⟩ := h
    have hr1 : Room 1 (A.deeper (envOfC "law" (defScope sLaw) s.heap.objs.size f cdv)) := hr.mono (by decide)
    have hr2 : Room 2 (A.deeper (envOfC "law" (defScope sLaw) s.heap.objs.size f cdv)) := hr.mono (by decide)
    refine ⟨_, pss_cons (ps_set (i := 1) scLaw.nd rfl (.inl rfl) (pe_lst (pa_cons (pe_g Gc hr1 (pa_cons pe_int (pa_cons pe_int pa_nil))) (pa_cons (pe_g Gc hr1 (pa_cons (pe_un un_neg pe_int) (pa_cons pe_int pa_nil))) (pa_cons (pe_g Gc hr1 (pa_cons pe_int (pa_cons (pe_un un_neg pe_int) pa_nil))) (pa_cons (pe_g Gc hr1 (pa_cons pe_int (pa_cons pe_int pa_nil))) (pa_cons (pe_g Gv hr1 (pa_cons (pe_tup (pa_cons pe_int (pa_cons pe_int (pa_cons pe_int pa_nil)))) pa_nil)) (pa_cons (pe_g Gv hr1 (pa_cons (pe_tup (pa_cons (pe_un un_neg pe_int) pa_nil)) pa_nil)) pa_nil))))))))
      (pss_cons (ps_set (i := 2) scLaw.nd rfl (.inl rfl) (pe_lst (pa_cons (pe_tup (pa_cons pe_int pa_nil)) (pa_cons (pe_tup (pa_cons (pe_un un_neg pe_int) (pa_cons pe_int pa_nil))) (pa_cons (pe_tup (pa_cons (pe_un un_neg pe_int) (pa_cons pe_int pa_nil))) (pa_cons (pe_tup (pa_cons pe_int pa_nil)) (pa_cons (pe_tup (pa_cons (pe_tup (pa_cons pe_int (pa_cons pe_int pa_nil))) (pa_cons (pe_tup (pa_cons pe_int (pa_cons pe_int pa_nil))) (pa_cons (pe_tup (pa_cons pe_int (pa_cons pe_int pa_nil))) pa_nil)))) (pa_cons (pe_tup (pa_cons (pe_tup (pa_cons (pe_un un_neg pe_int) (pa_cons pe_int pa_nil))) pa_nil)) pa_nil))))))))
      (pss_cons (ps_if (pt_not (pt_val (pe_gG Gk hg hr1 (pa_cons (pv 1) (pa_cons (pv 2) pa_nil))))) (pss_one (ps_ret pe_bl)) pss_nil)
      (pss_cons (ps_for PassesOwn.never rfl (pi_range1 (by rfl) zr (pa_cons (pe_callB (call_max2 rfl) (by rfl) zx (by decide +kernel) (pa_cons pe_int (pa_cons (pe_callB (call_min2 rfl) (by rfl) zn (by decide +kernel) (pa_cons (pe_callB call_len_seq (by rfl) zl PySem.boot_len (pa_cons (pv 0) pa_nil)) (pa_cons pe_int pa_nil))) pa_nil))) pa_nil)) (pg_name (i := 3) scLaw.nd rfl (.inl rfl)) (pss_cons (ps_set (i := 4) scLaw.nd rfl (.inr rfl) (pe_g Gb hr1 (pa_cons (pv 0) (pa_cons (pv 3) pa_nil))))
      (pss_cons (ps_for PassesOwn.never rfl (pi_range1 (by rfl) zr (pa_cons pe_int pa_nil)) (pg_name (i := 5) scLaw.nd rfl (.inl rfl)) (pss_cons (ps_set (i := 6) scLaw.nd rfl (.inl rfl) (pe_g Go hr2 (pa_cons (pv 4) (pa_cons (pe_lst (pa_cons pe_int (pa_cons pe_int (pa_cons pe_int (pa_cons pe_int (pa_cons pe_int pa_nil)))))) pa_nil))))
      (pss_cons (ps_set (i := 7) scLaw.nd rfl (.inl rfl) (pe_g Gs hr (pa_cons (pv 4) (pa_cons (pv 6) pa_nil))))
      (pss_one (ps_if (pt_not (pt_val (pe_gG Gr hg hr (pa_cons (pe_g Gs hr (pa_cons (pv 4) (pa_cons (pv 6) pa_nil))) (pa_cons (pe_ifExp (pt_cmpR op_ne (pv 7) pe_int (nomark _)) (pv 7) pe_int) pa_nil))))) (pss_one (ps_ret pe_bl)) pss_nil)))))
      (pss_one (ps_for PassesOwn.never rfl (pi_range1 (by rfl) zr (pa_cons pe_int pa_nil)) (pg_name (i := 5) scLaw.nd rfl (.inl rfl)) (pss_cons (ps_set (i := 8) scLaw.nd rfl (.inr rfl) (pe_g Go hr2 (pa_cons (pv 4) (pa_cons (pe_lst (pa_cons pe_int (pa_cons pe_int (pa_cons pe_int (pa_cons pe_int (pa_cons pe_int pa_nil)))))) pa_nil))))
      (pss_cons (ps_set (i := 10) scLaw.nd rfl (.inl rfl) (pe_op op_cat (pe_lst (pa_cons (pe_g Gs hr (pa_cons (pv 4) (pa_cons (pv 8) pa_nil))) pa_nil)) (pe_lc (own := [("_law_entry", 9)]) (g := gName 9) rfl scLaw.nd (pi_range1 (by rfl) zr (pa_cons (pe_g Gd hr1 (pa_cons (pv 4) (pa_cons pe_int pa_nil))) pa_nil)) (blkOk_by (own := [("_law_entry", 9)]) (N := nLaw) (sc := defScope sLaw) (by decide +kernel)) (fun _ _ _ _ _ => pg_name (i := 9) scLaw.nd rfl (Or.inl rfl)) (fun _ _ _ _ _ => pts_nil) (fun _ _ _ _ _ => pe_op op_add pe_int (pe_g Gz hr2 (pa_cons (pv 4) (pa_cons (pv 8) pa_nil)))))))
      (C8.pss_cut (ps_if (pt_cmpR op_eq (pe_g Gd hr1 (pa_cons (pv 4) (pa_cons pe_int pa_nil))) pe_int (nomark _)) (pss_one (ps_expr (pe_bm PySem.F.plainAttrs_list PySem.F.slot_list_append PySem.F.type_list_append mt_append (pv 10) (pa_cons pe_int pa_nil)))) pss_nil)
      (pss_one (ps_if (pt_not (pt_val (pe_gG GR hg hr (pa_cons (pe_callTy call_tuple_of (by rfl) zt (by decide +kernel) (pa_cons (pv 10) pa_nil)) pa_nil)))) (pss_one (ps_ret pe_bl)) pss_nil))))))))))
      (pss_one (ps_ret pe_bl))))), ?_⟩
    -- told = [..]
    refine ⟨0, 5, rfl, by decide, lt4000 (by decide), lt4000 (by decide), fun H1 k1 s1 n1 e1 => ?_⟩
    refine ⟨7, rfl, -7, 2, rfl, by decide, lt4000 (by decide), lt4000 (by decide), fun H2 k2 s2 n2 e2 => ?_⟩
    refine ⟨2, rfl, 7, -2, rfl, by decide, lt4000 (by decide), lt4000 (by decide), fun H3 k3 s3 n3 e3 => ?_⟩
    refine ⟨3, 1, rfl, by decide, lt4000 (by decide), lt4000 (by decide), fun H4 k4 s4 n4 e4 => ?_⟩
    rw [c1] at e1
    rw [c2] at e2
    rw [c3] at e3
    rw [c4] at e4
    refine ⟨by show 3 ≤ sizeLine; decide, fun g5 m5 => ⟨g5, [0, 2, 1], rfl, SqT.of upd_same, by decide, by decide, (bd_small (by decide)).mono (by decide), fun H5 k5 a5 s5 n5 e5 p5 => ?_⟩⟩
    refine ⟨3, rfl, by show 1 ≤ sizeLine; decide, fun g6 m6 => ⟨g6, [-3], rfl, SqT.of upd_same, by decide, by decide, (bd_small (by decide)).mono (by decide), fun H6 k6 a6 s6 n6 e6 p6 => ?_⟩⟩
    rw [v5] at p5
    rw [v6] at p6
    refine ⟨by show 6 ≤ sizeLine; decide, fun tl ntl => ?_⟩
    have s5' := (same_new (o := .tup [V.int 0, V.int 2, V.int 1]) m5).trans s5
    have s6' := (same_new (o := .tup [V.int (-3)]) m6).trans s6
    have s7 := same_new (o := .lst [V.ref k1, V.ref k2, V.ref k3, V.ref k4, V.ref k5, V.ref k6]) ntl
    -- due = [..]
    refine ⟨by show 1 ≤ sizeLine; decide, fun t1 m1 => ?_⟩
    refine ⟨4, rfl, by show 2 ≤ sizeLine; decide, fun t2 m2 => ?_⟩
    refine ⟨4, rfl, by show 2 ≤ sizeLine; decide, fun t3 m3 => ?_⟩
    refine ⟨by show 1 ≤ sizeLine; decide, fun t4 m4 => ?_⟩
    refine ⟨by show 2 ≤ sizeLine; decide, fun q1 o1 => ⟨by show 2 ≤ sizeLine; decide, fun q2 o2 => ⟨by show 2 ≤ sizeLine; decide, fun q3 o3 => ⟨by show 3 ≤ sizeLine; decide, fun t5 m5' => ?_⟩⟩⟩⟩
    refine ⟨3, rfl, by show 2 ≤ sizeLine; decide, fun q4 o4 => ⟨by show 1 ≤ sizeLine; decide, fun t6 m6' => ?_⟩⟩
    refine ⟨by show 6 ≤ sizeLine; decide, fun dl ndl => ?_⟩
    have zl' := same_new (o := .lst [V.ref t1, V.ref t2, V.ref t3, V.ref t4, V.ref t5, V.ref t6]) ndl
    have z6 := (same_new (o := .tup [V.ref q4]) m6').trans zl'
    have w4 := (same_new (o := .tup [V.int (-3), V.int 1]) o4).trans z6
    have z5 := (same_new (o := .tup [V.ref q1, V.ref q2, V.ref q3]) m5').trans w4
    have w3 := (same_new (o := .tup [V.int 1, V.int 3]) o3).trans z5
    have w2 := (same_new (o := .tup [V.int 1, V.int 2]) o2).trans w3
    have w1 := (same_new (o := .tup [V.int 0, V.int 1]) o1).trans w2
    have z4 := (same_new (o := .tup [V.int 3]) m4).trans w1
    have z3 := (same_new (o := .tup [V.int (-4), V.int 2]) m3).trans z4
    have z2 := (same_new (o := .tup [V.int (-4), V.int 2]) m2).trans z3
    have z1 := (same_new (o := .tup [V.int 0]) m1).trans z2
    have y6 := s7.trans z1
    have y5 := s6'.trans y6
    have y4 := s5'.trans y5
    have y3 := s4.trans y4
    have y2 := s3.trans y3
    have y1 := s2.trans y2
    have sF := s1.trans y1
    -- they are alike
    refine ⟨_, rfl, _, rfl, tl, dl, dAll, rfl, ?_, ?_, rp_dAll, _, rfl, ?_⟩
    · refine .lst (SqL.of (z1 _ _ upd_same)) (.cons (.tup (SqT.of (y1 _ _ e1)) (dp_ints [0])) (.cons (.tup (SqT.of (y2 _ _ e2)) (dp_ints [-4, 2])) (.cons (.tup (SqT.of (y3 _ _ e3)) (dp_ints [-4, 2])) (.cons (.tup (SqT.of (y4 _ _ e4)) (dp_ints [3]))
        (.cons (.tup (SqT.of (y5 _ _ e5)) (dp_pairs (p5.same y5))) (.cons (.tup (SqT.of (y6 _ _ e6)) (dp_pairs (p6.same y6))) .nil))))))
    · refine .lst (SqL.of upd_same) (.cons (.tup (SqT.of (z2 _ _ upd_same)) (dp_ints [0])) (.cons (.tup (SqT.of (z3 _ _ upd_same)) (dp_ints [-4, 2])) (.cons (.tup (SqT.of (z4 _ _ upd_same)) (dp_ints [-4, 2])) (.cons (.tup (SqT.of (w1 _ _ upd_same)) (dp_ints [3]))
        (.cons (.tup (SqT.of (w4 _ _ upd_same)) (.cons (.tup (SqT.of (w2 _ _ upd_same)) (dp_ints [0, 1])) (.cons (.tup (SqT.of (w3 _ _ upd_same)) (dp_ints [1, 2])) (.cons (.tup (SqT.of (z5 _ _ upd_same)) (dp_ints [1, 3])) .nil))))
        (.cons (.tup (SqT.of (zl' _ _ upd_same)) (.cons (.tup (SqT.of (z6 _ _ upd_same)) (dp_ints [-3, 1])) .nil)) .nil))))))
    · refine iteF ?_
      -- for turn in range(max(2, min(len(script), 4)))
      have hb : ∀ x : Int, 0 ≤ x → -(2 ^ 62) ≤ (if (if 4 < x then 4 else x) > 2 then (if 4 < x then 4 else x) else 2) ∧ (if (if 4 < x then 4 else x) > 2 then (if 4 < x then 4 else x) else 2) < 2 ^ 62 := fun x hx => by
        split <;> split <;> omega
      refine ⟨_, rfl, a, _, rfl, .inl (sF.seq hS), _, _, rfl, _, _, rfl, _, rfl, (hb _ (by omega)).1, (hb _ (by omega)).2, for_range (lo := 0) (fun i σ H2 => ∃ y3 y4 y5 y6 y7 y8 y9 y10, σ = [some (.ref a), some (.ref tl), some (.ref dl), y3, y4, y5, y6, y7, y8, y9, y10] ∧ Same H H2) ⟨none, none, none, none, none, none, none, none, rfl, sF⟩ ?_ ?_⟩
      · rintro i σ H2 _ ⟨y3, y4, y5, y6, y7, y8, y9, y10, rfl, sH2⟩
        -- m = begun(script, turn)
        refine ⟨_, rfl, _, rfl, a, ns, i, by rw [Int.zero_add]; rfl, sH2.seq hS, h63, fun H3 m c sb nm2 nc2 hM => ?_⟩
        have nm : H m = none := sH2.free nm2
        have sH3 := sH2.trans sb
        -- four ratios
        refine ⟨4, rfl, by decide, by decide, for_range (lo := 0) (n := (4 : Int).toNat) (fun j σ H4 => ∃ y3 y5 y6 y7 y8 y9 y10, σ = [some (.ref a), some (.ref tl), some (.ref dl), y3, some (.ref m), y5, y6, y7, y8, y9, y10] ∧ Same H H4 ∧ MAt H4 m c (100 * j)) ⟨_, y5, y6, y7, y8, y9, y10, rfl, sH3, hM⟩ ?_ ?_⟩
        · rintro j σ H4 hj ⟨y3, y5, y6, y7, y8, y9, y10, rfl, sH4, hM4⟩
          have hj4 : j < 4 := hj
          refine ⟨_, rfl, by show 5 ≤ sizeLine; decide, fun l nl => ?_⟩
          refine ⟨m, c, l, [1, 2, 3, 12, 40], 100 * j, rfl, (hM4.off nl).1, SqL.of upd_same, by decide, by decide, hM4.same (same_new nl), by omega, fun H5 x hx hM5 hB5 => ?_⟩
          obtain ⟨t, rfl, ht⟩ : ∃ t : Nat, x = (t : Int) ∧ t ≤ 40 := by
            simp only [List.not_mem_nil, or_false, List.mem_cons] at hx
            exact ⟨x.toNat, by omega, by omega⟩
          have sH5 := same_but (sH4.trans (same_new nl)) hB5 nm
          refine ⟨_, rfl, _, rfl, m, c, t, _, rfl, ht, hM5, by omega, fun H6 b hb hM6 hB6 => ?_⟩
          have sH6 := same_but sH5 hB6 nm
          refine ⟨_, rfl, _, rfl, m, c, t, _, rfl, ht, hM6, by omega, fun H7 x2 hx2 hM7 hB7 => ?_⟩
          have sH7 := same_but sH6 hB7 nm
          have p133 : (10 : Nat) ^ t < 2 ^ 133 := Nat.lt_of_le_of_lt (pow40 ht) (by decide)
          refine ⟨_, rfl, rfl, _, rfl, iteNI (fun e => ?_) (fun e => ?_)⟩
          · refine ⟨_, rfl, x2, b, rfl, e, Nat.lt_trans hx2 p133, Nat.lt_trans hb p133, fun H8 s8 => ⟨_, rfl, ?_⟩⟩
            refine iteF ?_
            exact ⟨_, _, _, _, _, _, _, rfl, sH7.trans s8, (hM7.same s8).mono (by omega)⟩
          · refine ⟨x2, 1, rfl, by decide, Nat.lt_trans hx2 p133, by decide, fun H8 s8 => ⟨_, rfl, ?_⟩⟩
            refine iteF ?_
            exact ⟨_, _, _, _, _, _, _, rfl, sH7.trans s8, (hM7.same s8).mono (by omega)⟩
        · rintro σ H4 ⟨y3, y5, y6, y7, y8, y9, y10, rfl, sH4, hM4⟩
          -- three rows
          refine ⟨3, rfl, by decide, by decide, for_range (lo := 0) (n := (3 : Int).toNat) (fun j σ H4 => ∃ y3 y5 y6 y7 y8 y9 y10, σ = [some (.ref a), some (.ref tl), some (.ref dl), y3, some (.ref m), y5, y6, y7, y8, y9, y10] ∧ Same H H4 ∧ MAt H4 m c (400 + 1000 * j)) ⟨y3, y5, y6, y7, y8, y9, y10, rfl, sH4, hM4.mono (by decide)⟩ ?_ ?_⟩
          · rintro j σ H4 hj ⟨y3, y5, y6, y7, y8, y9, y10, rfl, sH4, hM4⟩
            have hj3 : j < 3 := hj
            refine ⟨_, rfl, by show 5 ≤ sizeLine; decide, fun l nl => ?_⟩
            refine ⟨m, c, l, [1, 1, 1, 2, 25], _, rfl, (hM4.off nl).1, SqL.of upd_same, by decide, by decide, hM4.same (same_new nl), by omega, fun H5 x hx hM5 hB5 => ?_⟩
            obtain ⟨t, rfl, ht⟩ : ∃ t : Nat, x = (t : Int) ∧ t ≤ 25 := by
              simp only [List.not_mem_nil, or_false, List.mem_cons] at hx
              exact ⟨x.toNat, by omega, by omega⟩
            have sH5 := same_but (sH4.trans (same_new nl)) hB5 nm
            have p84 : (10 : Nat) ^ t < 2 ^ 84 := Nat.lt_of_le_of_lt (pow25 ht) (by decide)
            -- [signed(m, wide)]
            refine ⟨_, rfl, _, rfl, m, c, t, _, rfl, by omega, hM5, by omega, fun H6 r hr' hM6 hB6 => ?_⟩
            have sH6 := same_but sH5 hB6 nm
            refine ⟨by show 1 ≤ sizeLine; decide, fun L nL => ?_⟩
            have oL := hM6.off nL
            -- range(draw(m, 9))
            refine ⟨_, rfl, m, c, 9, _, rfl, by decide, by decide, hM6.same (same_new nL), by omega, fun H7 d d0 d1 hM7 hB7 => ?_⟩
            have sH7 := same_but (sH6.trans (same_new nL)) hB7 nm
            have eL7 : H7 L = some (.lst [.int r]) := hB7 _ _ upd_same oL.1
            refine ⟨d, rfl, by omega, by omega, fun D nD => ?_⟩
            have oD := hM7.off nD
            have nLD : L ≠ D := ne_of_none eL7 nD
            have nDH : H D = none := sH7.free nD
            refine lc_range (lo := 0) (n := d.toNat) (fun k H8 => ∃ xs : List Int, Same H H8 ∧ MAt H8 m c (400 + 1000 * j + 1 + 43 + 1 + 42 * k) ∧ H8 L = some (.lst [.int r]) ∧ H8 D = some (.lst (xs.map V.int)) ∧ xs.length = k ∧ ∀ x ∈ xs, 1 ≤ x ∧ x.natAbs < 2 ^ 84)
              ⟨[], sH7.trans (same_new nD), hM7.same (same_new nD), by rw [upd_ne nLD]; exact eL7, upd_same, rfl, fun x hx => absurd hx List.not_mem_nil⟩ ?_ ?_
            · rintro k H8 hk ⟨xs, sH8, hM8, eL8, eD8, hxl, hxs⟩
              refine ⟨rfl, ?_⟩
              refine ⟨_, rfl, _, rfl, m, c, t, _, rfl, by omega, hM8, by omega, fun H9 z z0 z1 hM9 hB9 => ?_⟩
              have sH9 := same_but sH8 hB9 nm
              have eD9 := hB9 _ _ eD8 oD.1
              refine ⟨_, _, rfl, rfl, _, eD9, by rw [List.length_map]; exact big_lt (by omega), xs ++ [1 + z], same_wr sH9 nDH, (hM9.upd oD.1 oD.2).mono (by omega), by rw [upd_ne nLD]; exact hB9 _ _ eL8 oL.1, ?_, by rw [List.length_append, hxl]; rfl, fun x hx => ?_⟩
              · rw [upd_same, List.map_append]
                rfl
              · rcases List.mem_append.mp hx with hm | hm
                · exact hxs x hm
                · rw [List.mem_singleton.mp hm]
                  refine ⟨by omega, ?_⟩
                  have p84' : (10 : Nat) ^ t + 1 ≤ 2 ^ 84 := p84
                  have z1' : z < ((10 ^ t : Nat) : Int) := by
                    push_cast
                    exact z1
                  omega
            · rintro H8 ⟨xs, sH8, hM8, eL8, eD8, hxl, hxs⟩
              refine ⟨L, D, _, _, rfl, rfl, eL8, eD8, by rw [List.length_map]; show 1 + xs.length ≤ sizeLine; exact big_len (by omega), fun p np => ?_⟩
              have op := hM8.off np
              have npH : H p = none := sH8.free np
              have hM9 := hM8.same (same_new (o := .lst ([V.int r] ++ xs.map V.int)) np)
              have sH9 := sH8.trans (same_new (o := .lst ([V.int r] ++ xs.map V.int)) np)
              -- if draw(m, 3) == 0: row.append(1)
              refine ⟨fun σ H' => ∃ y3 y5 y6 y7 y8 y9, σ = [some (.ref a), some (.ref tl), some (.ref dl), y3, some (.ref m), y5, y6, y7, y8, y9, some (.ref p)] ∧ Same H H' ∧ MAt H' m c (400 + 1000 * (j + 1)) ∧ ∃ rs : List Int, H' p = some (.lst (rs.map V.int)) ∧ Row rs ∧ rs.length ≤ 10 ∧ Bd 84 rs, ?_, ?_⟩
              · refine ⟨_, rfl, m, c, 3, _, rfl, by decide, by decide, hM9, by omega, fun H10 e _ _ hM10 hB10 => ?_⟩
                have sH10 := same_but sH9 hB10 nm
                have ep : H10 p = some (.lst ((r :: xs).map V.int)) := hB10 _ _ upd_same op.1
                have hb84 : Bd 84 (r :: xs) := fun x hx => by
                  rcases List.mem_cons.mp hx with e | e
                  · rw [e]
                    exact Nat.lt_trans hr' p84
                  · exact (hxs x e).2
                refine ⟨rfl, _, rfl, iteI (fun _ => ?_) (fun _ => ?_)⟩
                · refine ⟨_, rfl, .inl ⟨rfl, _, SqL.of ep⟩, p, _, _, rfl, rfl, ep, by rw [List.length_map, List.length_cons]; exact big_lt (by omega), ?_⟩
                  refine ⟨_, _, _, _, _, _, rfl, same_wr sH10 npH, (hM10.upd op.1 op.2).mono (by omega), (r :: xs) ++ [1], ?_, ⟨by simp, fun x hx => ?_⟩, ?_, fun x hx => ?_⟩
                  · rw [upd_same, List.map_append]
                    rfl
                  · have hx : x ∈ xs ++ [1] := hx
                    rcases List.mem_append.mp hx with hm | hm
                    · exact (hxs x hm).1
                    · rw [List.mem_singleton.mp hm]
                      decide
                  · rw [List.length_append, List.length_cons]
                    show xs.length + 1 + 1 ≤ 10
                    omega
                  · rcases List.mem_append.mp hx with hm | hm
                    · exact hb84 x hm
                    · rw [List.mem_singleton.mp hm]
                      decide
                · refine ⟨_, _, _, _, _, _, rfl, sH10, hM10.mono (by omega), r :: xs, ep, ⟨by simp, fun x hx => (hxs x hx).1⟩, ?_, hb84⟩
                  rw [List.length_cons]
                  omega
              · rintro σ H10 ⟨y3, y5, y6, y7, y8, y9, rfl, sH10, hM10, rs, ep, R, hrl, hrb⟩
                refine ⟨_, rfl, p, _, rfl, .inl ⟨SqL.of ep, fun u nu => ?_⟩⟩
                refine ⟨u, rs, rfl, SqT.of upd_same, R, hrl, hrb, fun H11 s11 => ⟨_, rfl, ?_⟩⟩
                refine iteF ?_
                exact ⟨_, _, _, _, _, _, _, rfl, sH10.trans ((same_new nu).trans s11), (hM10.same (same_new nu)).same s11⟩
          · rintro σ H4 ⟨y3, y5, y6, y7, y8, y9, y10, rfl, sH4, hM4⟩
            exact ⟨_, _, _, _, _, _, _, _, rfl, sH4⟩
      · rintro σ H2 ⟨y3, y4, y5, y6, y7, y8, y9, y10, rfl, sH2⟩
        exact q H2
end
end K15
/-! What the top has written; the law's own head. -/
namespace K15
open L2 PySem PySem.Spec PyProof.Rows
/-! ### what the top has written -/
section
variable {K : PySem.W.Frag} {mg : Str → Option Value} {h : Heap}
theorem def_mk {x : Str} {st : Stmt} {ps : List Str} {f : Addr} {oc : Value} {od an : Option Addr} {sl : Array (Option Value)} {kV dc pm cd ct : Value} (KX : K.In h) (G : h.Ns mainGlobals mg)
    (hb : ∀ (kV doc pm : Value) (an : Option Addr) (cdv ct : Value) (us : List Value), us.length = ps.length → bindArgs (PySem.W.fnOf x x (defArgs st) (defBody st) (defScope st) .none kV doc pm an cdv ct) ⟨us, []⟩ = pure (ps.zip us))
    (a : PySem.W.nsIn K mainGlobals x = some (some (.ref f))) (l : K.lookup f = some ⟨oc, od, .func (PySem.W.fnOf x x (defArgs st) (defBody st) (defScope st) .none kV dc pm an cd ct), sl⟩)
    (c : PySem.W.codeIn K cd x = true) (k : PySem.W.keepIn K (.ref f) = true) : Def K mg x st ps :=
  ⟨f, _, fun_mk l c k, (fun_mk l c k).binds hb, PySem.W.mg_of KX G a⟩
end
structure Tops (K : PySem.W.Frag) (mg : Str → Option Value) : Prop where
  d0 : Def K mg "chain" sChain ["a", "b"]
  d1 : Def K mg "convergents" sConv ["row"]
  d2 : Def K mg "_law_begun" sBegun ["_law_script", "_law_k"]
  d3 : Def K mg "_law_draw" sDraw ["_law_m", "_law_bound"]
  d4 : Def K mg "_law_of" sOf ["_law_m", "_law_some"]
  d5 : Def K mg "_law_like" sLike ["_law_got", "_law_due"]
  d6 : Def K mg "_law_sized" sSized ["_law_m", "_law_most"]
  d7 : Def K mg "_law_signed" sSigned ["_law_m", "_law_most"]
  d8 : Def K mg "_law_common" sCommon ["_law_a", "_law_b"]
  d9 : Def K mg "_law_floor" sFloor ["_law_a", "_law_b"]
  d10 : Def K mg "_law_chain" sLchain ["_law_a", "_law_b"]
  d11 : Def K mg "_law_folded" sFolded ["_law_row"]
  d12 : Def K mg "_law_is_nearest" sNear ["_law_whole", "_law_pair"]
  d13 : Def K mg "_law_row_right" sRow ["_law_row"]
  d14 : Def K mg "_law_ratio_right" sRatio ["_law_a", "_law_b"]
  z_tuple : mg "tuple" = none
  z_range : mg "range" = none
  z_len : mg "len" = none
  z_int : mg "int" = none
  z_repr : mg "repr" = none
  z_abs : mg "abs" = none
  z_max : mg "max" = none
  z_min : mg "min" = none
theorem ok_all {P : Program} {w : World} {K : PySem.W.Frag} {mg : Str → Option Value} {base : Heap} {f : Addr} {fd : FuncData} (T : Tops K mg) (F : Fun K "law" "law" sLaw f fd) : FnG P w K mg base 20 f fd ["_law_script"] (spLaw K) := by
  have Gc : Good P w K mg base 1 "chain" ["a", "b"] spChain := T.d0.good fun _ _ F => ok_chain F T.z_tuple
  have Gv : Good P w K mg base 1 "convergents" ["row"] (spConv K) := T.d1.good fun _ _ F => ok_conv F T.z_tuple
  have Gb : Good P w K mg base 1 "_law_begun" ["_law_script", "_law_k"] (spBegun K) := T.d2.good fun _ _ F => ok_begun F T.z_int
  have Gd : Good P w K mg base 1 "_law_draw" ["_law_m", "_law_bound"] spDraw := T.d3.good fun _ _ F => ok_draw F T.z_int T.z_len
  have Go : Good P w K mg base 2 "_law_of" ["_law_m", "_law_some"] (spOf K) := T.d4.good fun _ _ F => ok_of F Gd T.z_len
  have Gk : GoodG P w K mg base 1 "_law_like" ["_law_got", "_law_due"] (spLike K) := T.d5.goodG fun _ _ F => ok_like F T.z_repr
  have Gz : Good P w K mg base 2 "_law_sized" ["_law_m", "_law_most"] spSized := T.d6.good fun _ _ F => ok_sized F Gd T.z_range
  have Gs : Good P w K mg base 3 "_law_signed" ["_law_m", "_law_most"] spSigned := T.d7.good fun _ _ F => ok_signed F Gz Go
  have Gm : Good P w K mg base 1 "_law_common" ["_law_a", "_law_b"] spCommon := T.d8.good fun _ _ F => ok_common F T.z_abs
  have Gw : Good P w K mg base 1 "_law_floor" ["_law_a", "_law_b"] spFloor := T.d9.good fun _ _ F => ok_floor F
  have Gl : Good P w K mg base 2 "_law_chain" ["_law_a", "_law_b"] spChain := T.d10.good fun _ _ F => ok_lchain F T.z_tuple Gw
  have Gf : Good P w K mg base 1 "_law_folded" ["_law_row"] (spFolded K) := T.d11.good fun _ _ F => ok_folded F
  have Gn : Good P w K mg base 2 "_law_is_nearest" ["_law_whole", "_law_pair"] (spNear K) := T.d12.good fun _ _ F => ok_near F Gw T.z_range T.z_abs
  have GR : GoodG P w K mg base 3 "_law_row_right" ["_law_row"] (spRow K) := T.d13.goodG fun _ _ F => ok_row F Gf Gv Gk Gn Gc Gm T.z_range T.z_len T.z_tuple
  have Gr : GoodG P w K mg base 3 "_law_ratio_right" ["_law_a", "_law_b"] spRatio := T.d14.goodG fun _ _ F => ok_ratio F Gl Gc Gk Gm Gv
  exact (ok_law F Gc Gv Gk Gb Gd Go Gz Gs Gr GR T.z_range T.z_len T.z_tuple T.z_max T.z_min).mono (by decide)
theorem all_mk {l : PySem.W.OpenLaw} {w : World} {K : PySem.W.Frag} {h : Heap} {mg : Str → Option Value} {fa fL : Addr} (KX : K.In h) (G : h.Ns mainGlobals mg) (hfa : mg "law" = some (.ref fa))
    {f0 f1 f2 f3 f4 f5 f6 f7 f8 f9 f10 f11 f12 f13 f14 : Addr} {od0 an0 od1 an1 od2 an2 od3 an3 od4 an4 od5 an5 od6 an6 od7 an7 od8 an8 od9 an9 od10 an10 od11 an11 od12 an12 od13 an13 od14 an14 od15 an15 : Option Addr} {sl0 sl1 sl2 sl3 sl4 sl5 sl6 sl7 sl8 sl9 sl10 sl11 sl12 sl13 sl14 sl15 : Array (Option Value)} {oc0 kV0 dc0 pm0 cd0 ct0 oc1 kV1 dc1 pm1 cd1 ct1 oc2 kV2 dc2 pm2 cd2 ct2 oc3 kV3 dc3 pm3 cd3 ct3 oc4 kV4 dc4 pm4 cd4 ct4 oc5 kV5 dc5 pm5 cd5 ct5 oc6 kV6 dc6 pm6 cd6 ct6 oc7 kV7 dc7 pm7 cd7 ct7 oc8 kV8 dc8 pm8 cd8 ct8 oc9 kV9 dc9 pm9 cd9 ct9 oc10 kV10 dc10 pm10 cd10 ct10 oc11 kV11 dc11 pm11 cd11 ct11 oc12 kV12 dc12 pm12 cd12 ct12 oc13 kV13 dc13 pm13 cd13 ct13 oc14 kV14 dc14 pm14 cd14 ct14 oc15 kV15 dc15 pm15 cd15 ct15 : Value}
    (a0 : PySem.W.nsIn K mainGlobals "chain" = some (some (.ref f0))) (l0 : K.lookup f0 = some ⟨oc0, od0, .func (PySem.W.fnOf "chain" "chain" (defArgs sChain) (defBody sChain) (defScope sChain) .none kV0 dc0 pm0 an0 cd0 ct0), sl0⟩) (c0 : PySem.W.codeIn K cd0 "chain" = true) (k0 : PySem.W.keepIn K (.ref f0) = true)
    (a1 : PySem.W.nsIn K mainGlobals "convergents" = some (some (.ref f1))) (l1 : K.lookup f1 = some ⟨oc1, od1, .func (PySem.W.fnOf "convergents" "convergents" (defArgs sConv) (defBody sConv) (defScope sConv) .none kV1 dc1 pm1 an1 cd1 ct1), sl1⟩) (c1 : PySem.W.codeIn K cd1 "convergents" = true) (k1 : PySem.W.keepIn K (.ref f1) = true)
    (a2 : PySem.W.nsIn K mainGlobals "_law_begun" = some (some (.ref f2))) (l2 : K.lookup f2 = some ⟨oc2, od2, .func (PySem.W.fnOf "_law_begun" "_law_begun" (defArgs sBegun) (defBody sBegun) (defScope sBegun) .none kV2 dc2 pm2 an2 cd2 ct2), sl2⟩) (c2 : PySem.W.codeIn K cd2 "_law_begun" = true) (k2 : PySem.W.keepIn K (.ref f2) = true)
    (a3 : PySem.W.nsIn K mainGlobals "_law_draw" = some (some (.ref f3))) (l3 : K.lookup f3 = some ⟨oc3, od3, .func (PySem.W.fnOf "_law_draw" "_law_draw" (defArgs sDraw) (defBody sDraw) (defScope sDraw) .none kV3 dc3 pm3 an3 cd3 ct3), sl3⟩) (c3 : PySem.W.codeIn K cd3 "_law_draw" = true) (k3 : PySem.W.keepIn K (.ref f3) = true)
    (a4 : PySem.W.nsIn K mainGlobals "_law_of" = some (some (.ref f4))) (l4 : K.lookup f4 = some ⟨oc4, od4, .func (PySem.W.fnOf "_law_of" "_law_of" (defArgs sOf) (defBody sOf) (defScope sOf) .none kV4 dc4 pm4 an4 cd4 ct4), sl4⟩) (c4 : PySem.W.codeIn K cd4 "_law_of" = true) (k4 : PySem.W.keepIn K (.ref f4) = true)
    (a5 : PySem.W.nsIn K mainGlobals "_law_like" = some (some (.ref f5))) (l5 : K.lookup f5 = some ⟨oc5, od5, .func (PySem.W.fnOf "_law_like" "_law_like" (defArgs sLike) (defBody sLike) (defScope sLike) .none kV5 dc5 pm5 an5 cd5 ct5), sl5⟩) (c5 : PySem.W.codeIn K cd5 "_law_like" = true) (k5 : PySem.W.keepIn K (.ref f5) = true)
    (a6 : PySem.W.nsIn K mainGlobals "_law_sized" = some (some (.ref f6))) (l6 : K.lookup f6 = some ⟨oc6, od6, .func (PySem.W.fnOf "_law_sized" "_law_sized" (defArgs sSized) (defBody sSized) (defScope sSized) .none kV6 dc6 pm6 an6 cd6 ct6), sl6⟩) (c6 : PySem.W.codeIn K cd6 "_law_sized" = true) (k6 : PySem.W.keepIn K (.ref f6) = true)
    (a7 : PySem.W.nsIn K mainGlobals "_law_signed" = some (some (.ref f7))) (l7 : K.lookup f7 = some ⟨oc7, od7, .func (PySem.W.fnOf "_law_signed" "_law_signed" (defArgs sSigned) (defBody sSigned) (defScope sSigned) .none kV7 dc7 pm7 an7 cd7 ct7), sl7⟩) (c7 : PySem.W.codeIn K cd7 "_law_signed" = true) (k7 : PySem.W.keepIn K (.ref f7) = true)
    (a8 : PySem.W.nsIn K mainGlobals "_law_common" = some (some (.ref f8))) (l8 : K.lookup f8 = some ⟨oc8, od8, .func (PySem.W.fnOf "_law_common" "_law_common" (defArgs sCommon) (defBody sCommon) (defScope sCommon) .none kV8 dc8 pm8 an8 cd8 ct8), sl8⟩) (c8 : PySem.W.codeIn K cd8 "_law_common" = true) (k8 : PySem.W.keepIn K (.ref f8) = true)
    (a9 : PySem.W.nsIn K mainGlobals "_law_floor" = some (some (.ref f9))) (l9 : K.lookup f9 = some ⟨oc9, od9, .func (PySem.W.fnOf "_law_floor" "_law_floor" (defArgs sFloor) (defBody sFloor) (defScope sFloor) .none kV9 dc9 pm9 an9 cd9 ct9), sl9⟩) (c9 : PySem.W.codeIn K cd9 "_law_floor" = true) (k9 : PySem.W.keepIn K (.ref f9) = true)
    (a10 : PySem.W.nsIn K mainGlobals "_law_chain" = some (some (.ref f10))) (l10 : K.lookup f10 = some ⟨oc10, od10, .func (PySem.W.fnOf "_law_chain" "_law_chain" (defArgs sLchain) (defBody sLchain) (defScope sLchain) .none kV10 dc10 pm10 an10 cd10 ct10), sl10⟩) (c10 : PySem.W.codeIn K cd10 "_law_chain" = true) (k10 : PySem.W.keepIn K (.ref f10) = true)
    (a11 : PySem.W.nsIn K mainGlobals "_law_folded" = some (some (.ref f11))) (l11 : K.lookup f11 = some ⟨oc11, od11, .func (PySem.W.fnOf "_law_folded" "_law_folded" (defArgs sFolded) (defBody sFolded) (defScope sFolded) .none kV11 dc11 pm11 an11 cd11 ct11), sl11⟩) (c11 : PySem.W.codeIn K cd11 "_law_folded" = true) (k11 : PySem.W.keepIn K (.ref f11) = true)
    (a12 : PySem.W.nsIn K mainGlobals "_law_is_nearest" = some (some (.ref f12))) (l12 : K.lookup f12 = some ⟨oc12, od12, .func (PySem.W.fnOf "_law_is_nearest" "_law_is_nearest" (defArgs sNear) (defBody sNear) (defScope sNear) .none kV12 dc12 pm12 an12 cd12 ct12), sl12⟩) (c12 : PySem.W.codeIn K cd12 "_law_is_nearest" = true) (k12 : PySem.W.keepIn K (.ref f12) = true)
    (a13 : PySem.W.nsIn K mainGlobals "_law_row_right" = some (some (.ref f13))) (l13 : K.lookup f13 = some ⟨oc13, od13, .func (PySem.W.fnOf "_law_row_right" "_law_row_right" (defArgs sRow) (defBody sRow) (defScope sRow) .none kV13 dc13 pm13 an13 cd13 ct13), sl13⟩) (c13 : PySem.W.codeIn K cd13 "_law_row_right" = true) (k13 : PySem.W.keepIn K (.ref f13) = true)
    (a14 : PySem.W.nsIn K mainGlobals "_law_ratio_right" = some (some (.ref f14))) (l14 : K.lookup f14 = some ⟨oc14, od14, .func (PySem.W.fnOf "_law_ratio_right" "_law_ratio_right" (defArgs sRatio) (defBody sRatio) (defScope sRatio) .none kV14 dc14 pm14 an14 cd14 ct14), sl14⟩) (c14 : PySem.W.codeIn K cd14 "_law_ratio_right" = true) (k14 : PySem.W.keepIn K (.ref f14) = true)
    (a15 : PySem.W.nsIn K mainGlobals "law" = some (some (.ref fL))) (l15 : K.lookup fL = some ⟨oc15, od15, .func (PySem.W.fnOf "law" "law" (defArgs sLaw) (defBody sLaw) (defScope sLaw) .none kV15 dc15 pm15 an15 cd15 ct15), sl15⟩) (c15 : PySem.W.codeIn K cd15 "law" = true) (k15 : PySem.W.keepIn K (.ref fL) = true)
    (z_tuple : PySem.W.nsIn K mainGlobals "tuple" = some none)
    (z_range : PySem.W.nsIn K mainGlobals "range" = some none)
    (z_len : PySem.W.nsIn K mainGlobals "len" = some none)
    (z_int : PySem.W.nsIn K mainGlobals "int" = some none)
    (z_repr : PySem.W.nsIn K mainGlobals "repr" = some none)
    (z_abs : PySem.W.nsIn K mainGlobals "abs" = some none)
    (z_max : PySem.W.nsIn K mainGlobals "max" = some none)
    (z_min : PySem.W.nsIn K mainGlobals "min" = some none)
    : ∃ fd : FuncData, (∀ (s : Shared) (v : Value), BindsTo s fd ⟨[v], []⟩ [("_law_script", v)]) ∧ ∀ base : Heap, K.In base → base.Ns mainGlobals mg → FnG l.prog w K mg base 20 fa fd ["_law_script"] (spLaw K) := by
  have e := hfa.symm.trans (PySem.W.mg_of KX G a15)
  cases e
  have T : Tops K mg := ⟨
    def_mk KX G (fun _ _ _ _ _ _ us hl => match us, hl with | [_, _], _ => rfl) a0 l0 c0 k0,
    def_mk KX G (fun _ _ _ _ _ _ us hl => match us, hl with | [_], _ => rfl) a1 l1 c1 k1,
    def_mk KX G (fun _ _ _ _ _ _ us hl => match us, hl with | [_, _], _ => rfl) a2 l2 c2 k2,
    def_mk KX G (fun _ _ _ _ _ _ us hl => match us, hl with | [_, _], _ => rfl) a3 l3 c3 k3,
    def_mk KX G (fun _ _ _ _ _ _ us hl => match us, hl with | [_, _], _ => rfl) a4 l4 c4 k4,
    def_mk KX G (fun _ _ _ _ _ _ us hl => match us, hl with | [_, _], _ => rfl) a5 l5 c5 k5,
    def_mk KX G (fun _ _ _ _ _ _ us hl => match us, hl with | [_, _], _ => rfl) a6 l6 c6 k6,
    def_mk KX G (fun _ _ _ _ _ _ us hl => match us, hl with | [_, _], _ => rfl) a7 l7 c7 k7,
    def_mk KX G (fun _ _ _ _ _ _ us hl => match us, hl with | [_, _], _ => rfl) a8 l8 c8 k8,
    def_mk KX G (fun _ _ _ _ _ _ us hl => match us, hl with | [_, _], _ => rfl) a9 l9 c9 k9,
    def_mk KX G (fun _ _ _ _ _ _ us hl => match us, hl with | [_, _], _ => rfl) a10 l10 c10 k10,
    def_mk KX G (fun _ _ _ _ _ _ us hl => match us, hl with | [_], _ => rfl) a11 l11 c11 k11,
    def_mk KX G (fun _ _ _ _ _ _ us hl => match us, hl with | [_, _], _ => rfl) a12 l12 c12 k12,
    def_mk KX G (fun _ _ _ _ _ _ us hl => match us, hl with | [_], _ => rfl) a13 l13 c13 k13,
    def_mk KX G (fun _ _ _ _ _ _ us hl => match us, hl with | [_, _], _ => rfl) a14 l14 c14 k14,
    PySem.W.mg_none_of KX G z_tuple,
    PySem.W.mg_none_of KX G z_range,
    PySem.W.mg_none_of KX G z_len,
    PySem.W.mg_none_of KX G z_int,
    PySem.W.mg_none_of KX G z_repr,
    PySem.W.mg_none_of KX G z_abs,
    PySem.W.mg_none_of KX G z_max,
    PySem.W.mg_none_of KX G z_min⟩
  have FL := fun_mk (st := sLaw) l15 c15 k15
  exact ⟨_, fun s v => .of_eq rfl, fun base _ _ => ok_all T FL⟩
end K15
open PySem PySem.W PyProof.Rows
set_option maxHeartbeats 0 in
theorem PySem.Challenge.cw_numberpapers_k15_whole_chains_holds : PySem.Challenge.rw_numberpapers_k15_whole_chains.Holds := by
  w_on; o_law; k_head; (case hw => w_witness2)
  k_fill
  refine K15.walk_ofG (l := PySem.Challenge.rw_numberpapers_k15_whole_chains) (n := 63) (k := 20) (x := "_law_script") (sp := fun w => K15.spLaw _) rfl (by decide) rfl ⟨rfl, by decide, by decide⟩ (fun w h Y => PySem.W.kIn_of Y) ?F (fun _ _ a ns hl _ hS => ⟨a, ns, rfl, hS, hl, fun _ => rfl⟩)
  case F =>
    intro w mg fa h KX G hmg
    refine' K15.all_mk KX G hmg ?a0 ?l0 ?c0 ?k0 ?a1 ?l1 ?c1 ?k1 ?a2 ?l2 ?c2 ?k2 ?a3 ?l3 ?c3 ?k3 ?a4 ?l4 ?c4 ?k4 ?a5 ?l5 ?c5 ?k5 ?a6 ?l6 ?c6 ?k6 ?a7 ?l7 ?c7 ?k7 ?a8 ?l8 ?c8 ?k8 ?a9 ?l9 ?c9 ?k9 ?a10 ?l10 ?c10 ?k10 ?a11 ?l11 ?c11 ?k11 ?a12 ?l12 ?c12 ?k12 ?a13 ?l13 ?c13 ?k13 ?a14 ?l14 ?c14 ?k14 ?a15 ?l15 ?c15 ?k15 ?z_tuple ?z_range ?z_len ?z_int ?z_repr ?z_abs ?z_max ?z_min
    (case a0 => k_is)
    (case l0 => k_is)
    (case c0 => k_is)
    (case k0 => k_is)
    (case a1 => k_is)
    (case l1 => k_is)
    (case c1 => k_is)
    (case k1 => k_is)
    (case a2 => k_is)
    (case l2 => k_is)
    (case c2 => k_is)
    (case k2 => k_is)
    (case a3 => k_is)
    (case l3 => k_is)
    (case c3 => k_is)
    (case k3 => k_is)
    (case a4 => k_is)
    (case l4 => k_is)
    (case c4 => k_is)
    (case k4 => k_is)
    (case a5 => k_is)
    (case l5 => k_is)
    (case c5 => k_is)
    (case k5 => k_is)
    (case a6 => k_is)
    (case l6 => k_is)
    (case c6 => k_is)
    (case k6 => k_is)
    (case a7 => k_is)
    (case l7 => k_is)
    (case c7 => k_is)
    (case k7 => k_is)
    (case a8 => k_is)
    (case l8 => k_is)
    (case c8 => k_is)
    (case k8 => k_is)
    (case a9 => k_is)
    (case l9 => k_is)
    (case c9 => k_is)
    (case k9 => k_is)
    (case a10 => k_is)
    (case l10 => k_is)
    (case c10 => k_is)
    (case k10 => k_is)
    (case a11 => k_is)
    (case l11 => k_is)
    (case c11 => k_is)
    (case k11 => k_is)
    (case a12 => k_is)
    (case l12 => k_is)
    (case c12 => k_is)
    (case k12 => k_is)
    (case a13 => k_is)
    (case l13 => k_is)
    (case c13 => k_is)
    (case k13 => k_is)
    (case a14 => k_is)
    (case l14 => k_is)
    (case c14 => k_is)
    (case k14 => k_is)
    (case a15 => k_is)
    (case l15 => k_is)
    (case c15 => k_is)
    (case k15 => k_is)
    (case z_tuple => k_is)
    (case z_range => k_is)
    (case z_len => k_is)
    (case z_int => k_is)
    (case z_repr => k_is)
    (case z_abs => k_is)
    (case z_max => k_is)
    (case z_min => k_is)
